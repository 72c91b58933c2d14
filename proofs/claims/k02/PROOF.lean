import PyProof.Rows.All
import Wide.All
import OpenK.AllK
import Wide.FinOn
import HandS.ForMost
import HandS.HeadHook2
import HandS.Lambda
import HandS.HeadHook4
import HandS.Head0
import HandS.Head1
import HandS.Head2
import HandS.Head3
import HandS.HeadEnd
import PySem.Challenge.RW_stretchorders_k02_ratios
import HandS.TupAny
import HandS.TupMul
import HandS.Wide
import HandS.Gcd
import HandS.SortInts
import HandS.Deep
import HandS.IsInst
import HandS.Style
import PyProof.NeKinds
import KE.DatumOrd
import HandS.Flow
import HandS.ExcCtx
import HandS.CallSlots
import HandS.Zip
import HandS.ExcInit
import HandS.Codes
import HandS.Conv
import HandS.SetFor
import HandS.Strs
import PyProof.ReprRoads
import HandS.RaiseMore
import HandS.Sort
import PyProof.EnumIter
import HandS.ExcField
import HandS.ExcIs
import KE.KExcIs
import HandS.HotCalls
import HandS.EndTab
set_option Elab.async false
set_option linter.all false
set_option maxRecDepth 100000
set_option maxHeartbeats 1000000
namespace Rf
open PySem PySem.Spec PyProof.Rows L2

/-! ### data -/
inductive D where
  | non | bl (b : Bool) | int (i : Int) | str (x : Str)
  | tup (ds : List D) | lst (ds : List D)
  | dct (ks : List Key) (ds : List D)
  | ins (C : Str) (ns : List Str) (ds : List D)
  | fn (f : Str)
  | scr (ns : List Int)
  /-- an object that stands outside -/
  | exc (a : Addr)

/-- a mutable object, owned by one local name -/
inductive M where
  | lst (ds : List D)
  | dct (ks : List Key) (ds : List D)
  | ins (C : Str) (ns : List Str) (ds : List D)
def M.d : M → D
  | .lst ds => .lst ds
  | .dct ks ds => .dct ks ds
  | .ins C ns ds => .ins C ns ds

mutual
inductive Rep (K : PySem.W.Frag) (F : Hp) : V → D → Prop
  | non : Rep K F .non .non
  | bl (b : Bool) : Rep K F (.bl b) (.bl b)
  | int (i : Int) : Rep K F (.int i) (.int i)
  | str (x : Str) : Rep K F (.str x) (.str x)
  | tup {a : Addr} {vs : List V} {ds : List D} : F a = some (.tup vs) → Reps K F vs ds → Rep K F (.ref a) (.tup ds)
  | lst {a : Addr} {vs : List V} {ds : List D} : F a = some (.lst vs) → Reps K F vs ds → Rep K F (.ref a) (.lst ds)
  | dct {a : Addr} {ks : List Key} {vs : List V} {ds : List D} : F a = some (.dK (ks.zip vs)) → ks.length = vs.length → Reps K F vs ds → Rep K F (.ref a) (.dct ks ds)
  | ins {a dx : Addr} {C : Str} {ns : List Str} {vs : List V} {ds : List D} : F a = some (.ins (He.ga K C) dx (ns.zip vs)) → ns.length = vs.length → Reps K F vs ds → Rep K F (.ref a) (.ins C ns ds)
  | fn (f : Str) : Rep K F (.ref (He.ga K f)) (.fn f)
  | scr {a : Addr} {ns : List Int} : SqL K F a (ns.map V.int) → Rep K F (.ref a) (.scr ns)
  | exc (a : Addr) : Rep K F (.ref a) (.exc a)
inductive Reps (K : PySem.W.Frag) (F : Hp) : List V → List D → Prop
  | nil : Reps K F [] []
  | cons {v : V} {vs : List V} {d : D} {ds : List D} : Rep K F v d → Reps K F vs ds → Reps K F (v :: vs) (d :: ds)
end

section
variable {K : PySem.W.Frag} {F F' : Hp}
mutual
theorem Rep.up {v : V} {d : D} (e : Same F F') : Rep K F v d → Rep K F' v d
  | .non => .non
  | .bl b => .bl b
  | .int i => .int i
  | .str x => .str x
  | .tup h r => .tup (e _ _ h) (Reps.up e r)
  | .lst h r => .lst (e _ _ h) (Reps.up e r)
  | .dct h l r => .dct (e _ _ h) l (Reps.up e r)
  | .ins h l r => .ins (e _ _ h) l (Reps.up e r)
  | .fn f => .fn f
  | .scr h => .scr (e.seq h)
  | .exc a => .exc a
theorem Reps.up {vs : List V} {ds : List D} (e : Same F F') : Reps K F vs ds → Reps K F' vs ds
  | .nil => .nil
  | .cons h r => .cons (Rep.up e h) (Reps.up e r)
end
theorem Reps.len {vs : List V} {ds : List D} : Reps K F vs ds → vs.length = ds.length
  | .nil => rfl
  | .cons _ r => congrArg (· + 1) (Reps.len r)
theorem Reps.app {vs ws : List V} {ds es : List D} : Reps K F vs ds → Reps K F ws es → Reps K F (vs ++ ws) (ds ++ es)
  | .nil, s => s
  | .cons h r, s => .cons h (Reps.app r s)
theorem Reps.get {vs : List V} {ds : List D} : ∀ {i : Nat} {d : D}, Reps K F vs ds → ds[i]? = some d → ∃ v, vs[i]? = some v ∧ Rep K F v d
  | _, _, .nil, e => by simp at e
  | 0, _, .cons h r, e => by simp at e; subst e; exact ⟨_, rfl, h⟩
  | i + 1, _, .cons h r, e => by
    obtain ⟨v, h1, h2⟩ := Reps.get r (by simpa using e)
    exact ⟨v, by simpa using h1, h2⟩
theorem Reps.getV {vs : List V} {ds : List D} : ∀ {i : Nat} {v : V}, Reps K F vs ds → vs[i]? = some v → ∃ d, ds[i]? = some d ∧ Rep K F v d
  | _, _, .nil, e => by simp at e
  | 0, _, .cons h r, e => by simp at e; subst e; exact ⟨_, rfl, h⟩
  | i + 1, _, .cons h r, e => by
    obtain ⟨v, h1, h2⟩ := Reps.getV r (by simpa using e)
    exact ⟨v, by simpa using h1, h2⟩
theorem Reps.set {vs : List V} {ds : List D} {v : V} {d : D} (x : Rep K F v d) : ∀ (i : Nat), Reps K F vs ds → Reps K F (vs.set i v) (ds.set i d)
  | _, .nil => .nil
  | 0, .cons h r => .cons x r
  | i + 1, .cons h r => .cons h (Reps.set x i r)
theorem Reps.take {vs : List V} {ds : List D} : ∀ (n : Nat), Reps K F vs ds → Reps K F (vs.take n) (ds.take n)
  | 0, _ => .nil
  | _ + 1, .nil => .nil
  | n + 1, .cons h r => .cons h (Reps.take n r)
theorem Reps.drop {vs : List V} {ds : List D} : ∀ (n : Nat), Reps K F vs ds → Reps K F (vs.drop n) (ds.drop n)
  | 0, r => r
  | _ + 1, .nil => .nil
  | n + 1, .cons h r => Reps.drop n r
theorem Reps.erase {vs : List V} {ds : List D} : ∀ (i : Nat), Reps K F vs ds → Reps K F (vs.eraseIdx i) (ds.eraseIdx i)
  | _, .nil => .nil
  | 0, .cons h r => r
  | i + 1, .cons h r => .cons h (Reps.erase i r)
theorem Reps.reverse {vs : List V} {ds : List D} (r : Reps K F vs ds) : Reps K F vs.reverse ds.reverse := by
  induction r using Reps.rec (motive_1 := fun _ _ _ => True) with
  | nil => exact .nil
  | cons h r _ ih => rw [List.reverse_cons, List.reverse_cons]; exact ih.app (.cons h .nil)
  | _ => trivial
end

/-! ### names' slots -/
inductive Sl where
  /-- frozen data -/
  | fr (d : D)
  /-- an object that this name alone holds -/
  | mu (m : M)
  /-- the same, of the caller's -/
  | bo (m : M)
  /-- an own object that is walked: read only -/
  | lk (m : M)
def Sl.cont : Sl → Option M
  | .fr _ => none
  | .mu m => some m
  | .bo m => some m
  | .lk m => some m
def Sl.mut : Sl → Option M
  | .fr _ => none
  | .mu m => some m
  | .bo m => some m
  | .lk _ => none
abbrev En := List (Option Sl)

def MRep (K : PySem.W.Frag) (F H : Hp) (a : Addr) : M → Prop
  | .lst ds => ∃ vs, H a = some (.lst vs) ∧ Reps K F vs ds
  | .dct ks ds => ∃ vs, H a = some (.dK (ks.zip vs)) ∧ ks.length = vs.length ∧ Reps K F vs ds
  | .ins C ns ds => ∃ dx vs, H a = some (.ins (He.ga K C) dx (ns.zip vs)) ∧ ns.length = vs.length ∧ Reps K F vs ds

theorem MRep.ex {K : PySem.W.Frag} {F H : Hp} {a : Addr} {m : M} (h : MRep K F H a m) : ∃ o, H a = some o ∧ ∀ F', Same F F' → F' a = some o → Rep K F' (.ref a) m.d := by
  cases m with
  | lst ds => obtain ⟨vs, e, r⟩ := h; exact ⟨_, e, fun F' s q => .lst q (r.up s)⟩
  | dct ks ds => obtain ⟨vs, e, l, r⟩ := h; exact ⟨_, e, fun F' s q => .dct q l (r.up s)⟩
  | ins C ns ds => obtain ⟨dx, vs, e, l, r⟩ := h; exact ⟨_, e, fun F' s q => .ins q l (r.up s)⟩
theorem MRep.up {K : PySem.W.Frag} {F F' H H' : Hp} {a : Addr} {m : M} (h : MRep K F H a m) (e : Same F F') (k : H' a = H a) : MRep K F' H' a m := by
  cases m with
  | lst ds => obtain ⟨vs, z, r⟩ := h; exact ⟨vs, k.trans z, r.up e⟩
  | dct ks ds => obtain ⟨vs, z, l, r⟩ := h; exact ⟨vs, k.trans z, l, r.up e⟩
  | ins C ns ds => obtain ⟨dx, vs, z, l, r⟩ := h; exact ⟨dx, vs, k.trans z, l, r.up e⟩

/-- the tables are kept; none of them is frozen -/
structure TabF (T : List (Addr × Str)) (F H : Hp) : Prop where
  t : LamX.Tabs T H
  n : ∀ a ps, F a ≠ some (.tbl ps)
theorem TabF.upF {T : List (Addr × Str)} {F H : Hp} {p : Addr} {o : HO} (t : TabF T F H) (no : ∀ ps, o ≠ .tbl ps) : TabF T (upd F p o) H := ⟨t.t, fun a ps e => by
  by_cases ha : a = p
  · subst ha; rw [upd_same] at e; exact no ps (Option.some.inj e)
  · rw [upd_ne ha] at e; exact t.n a ps e⟩
/-- the tables of code objects that are kept -/
class Tb where
  T : List (Addr × Str)
  /-- what is frozen from the start -/
  F0 : Hp
variable [Tb]
structure At (K : PySem.W.Frag) (F H : Hp) (σ : L2.St) (Γ : En) : Prop where
  sub : Same F H
  len : Γ.length = σ.length
  fr : ∀ (i : Nat) (d : D), Γ[i]? = some (some (.fr d)) → ∃ v, σ[i]? = some (some v) ∧ Rep K F v d
  ob : ∀ (i : Nat) (s : Sl) (m : M), Γ[i]? = some (some s) → s.cont = some m → ∃ a, σ[i]? = some (some (.ref a)) ∧ F a = none ∧ MRep K F H a m
  sep : ∀ (i j : Nat) (s t : Sl) (m n : M) (a : Addr), i ≠ j → Γ[i]? = some (some s) → s.cont = some m → Γ[j]? = some (some t) → t.cont = some n → σ[i]? = some (some (.ref a)) → σ[j]? ≠ some (some (.ref a))
  tab : TabF Tb.T F H
  f0 : Same Tb.F0 F

/-- the addresses that may change -/
def Mu (σ : L2.St) (Γ : En) (a : Addr) : Prop := ∃ (i : Nat) (s : Sl) (m : M), Γ[i]? = some (some s) ∧ s.mut = some m ∧ σ[i]? = some (some (.ref a))

/-- the heap has gone on: all but S is kept -/
structure Step (F H : Hp) (S : Addr → Prop) (F' H' : Hp) : Prop where
  fs : Same F F'
  hs : ∀ b o, H b = some o → ¬ S b → (∀ ps, o ≠ .tbl ps) → H' b = some o
  fn : ∀ b, ¬ S b → H b ≠ none → F' b = F b
  dom : ∀ b, H b ≠ none → H' b ≠ none

theorem Step.refl (F H : Hp) (S : Addr → Prop) : Step F H S F H := ⟨Same.refl F, fun _ _ h _ _ => h, fun _ _ _ => rfl, fun _ h => h⟩
theorem Step.trans {F H F1 H1 F2 H2 : Hp} {S S1 : Addr → Prop} (a : Step F H S F1 H1) (b : Step F1 H1 S1 F2 H2) (h : ∀ x, S1 x → S x ∨ H x = none) : Step F H S F2 H2 := by
  refine ⟨a.fs.trans b.fs, fun x o e n nt => ?_, fun x n e => ?_, fun x h => b.dom x (a.dom x h)⟩
  · refine b.hs x o (a.hs x o e n nt) (fun z => ?_) nt
    rcases h x z with q | q
    · exact n q
    · rw [q] at e; cases e
  · have n1 : ¬ S1 x := fun z => by
      rcases h x z with q | q
      · exact n q
      · exact e q
    rw [b.fn x n1 (a.dom x e), a.fn x n e]
theorem Step.mono {F H F' H' : Hp} {S S' : Addr → Prop} (a : Step F H S F' H') (h : ∀ x, S x → S' x ∨ H x = none) : Step F H S' F' H' :=
  (Step.refl F H S').trans a h
theorem Step.new {F H F' H' : Hp} {S : Addr → Prop} (a : Step F H S F' H') {p : Addr} (hp : H p = none) {o : HO} : Step F H S F' (upd H' p o) := by
  refine ⟨a.fs, fun x u e n nt => ?_, a.fn, fun x h => ?_⟩
  · rw [upd_ne (ne_of_none e hp)]
    exact a.hs x u e n nt
  · rw [upd_ne (fun z : x = p => h (by rw [z]; exact hp))]
    exact a.dom x h
/-- an object that has come is frozen -/
theorem Step.frz {F H F' H' : Hp} {S : Addr → Prop} (a : Step F H S F' H') {p : Addr} (hp : H p = none ∨ S p) (hn : F' p = none) {o : HO} : Step F H S (upd F' p o) H' := by
  refine ⟨fun x u e => ?_, a.hs, fun x n e => ?_, a.dom⟩
  · rw [upd_ne (ne_of_none (a.fs _ _ e) hn)]; exact a.fs _ _ e
  · have hx : x ≠ p := fun z => by
      subst z
      rcases hp with q | q
      · exact e q
      · exact n q
    rw [upd_ne hx]; exact a.fn x n e
theorem same_upd {F : Hp} {p : Addr} {o : HO} (h : F p = none) : Same F (upd F p o) := fun x u e => by rw [upd_ne (ne_of_none e h)]; exact e
theorem same_frz {F H : Hp} {p : Addr} {o : HO} (s : Same F H) (h : H p = some o) : Same (upd F p o) H := fun x u e => by
  by_cases hx : x = p
  · subst hx; rw [upd_same] at e; rw [h]; exact e
  · rw [upd_ne hx] at e; exact s _ _ e

/-- what may become of the slots while an expression runs -/
def SlGo : Option Sl → Option Sl → Prop
  | some (.bo _), t => ∃ m, t = some (.bo m)
  | some (.mu m), t => (∃ n, t = some (.mu n)) ∨ ∃ d, t = some (.fr d)
  | s, t => t = s
def ES (Γ Γ' : En) : Prop := Γ'.length = Γ.length ∧ ∀ (i : Nat) (s : Option Sl), Γ[i]? = some s → ∃ t, Γ'[i]? = some t ∧ SlGo s t
theorem SlGo.refl (s : Option Sl) : SlGo s s := by
  cases s with
  | none => rfl
  | some s =>
    cases s with
    | fr d => rfl
    | mu m => exact .inl ⟨m, rfl⟩
    | bo m => exact ⟨m, rfl⟩
    | lk m => rfl
theorem SlGo.trans {a b c : Option Sl} (x : SlGo a b) (y : SlGo b c) : SlGo a c := by
  cases a with
  | none => cases x; exact y
  | some s =>
    cases s with
    | fr d => cases x; exact y
    | mu m =>
      rcases x with ⟨n, rfl⟩ | ⟨d, rfl⟩
      · exact y
      · cases y; exact .inr ⟨d, rfl⟩
    | bo m => obtain ⟨n, rfl⟩ := x; exact y
    | lk m => cases x; exact y
theorem ES.refl (Γ : En) : ES Γ Γ := ⟨rfl, fun _ s e => ⟨s, e, SlGo.refl s⟩⟩
theorem ES.trans {a b c : En} (x : ES a b) (y : ES b c) : ES a c := ⟨y.1.trans x.1, fun i s e => by
  obtain ⟨t, e1, g1⟩ := x.2 i s e
  obtain ⟨u, e2, g2⟩ := y.2 i t e1
  exact ⟨u, e2, g1.trans g2⟩⟩
theorem ES.mu {σ : L2.St} {Γ Γ' : En} (x : ES Γ Γ') {a : Addr} (h : Mu σ Γ' a) : Mu σ Γ a := by
  obtain ⟨i, s, m, e, q, z⟩ := h
  have hi : i < Γ.length := by rw [← x.1]; exact (List.getElem?_eq_some_iff.mp e).1
  obtain ⟨t, e2, g⟩ := x.2 i _ (List.getElem?_eq_getElem hi)
  rw [e] at e2
  cases e2
  generalize hs : Γ[i] = s0 at g
  have e0 : Γ[i]? = some s0 := by rw [List.getElem?_eq_getElem hi, hs]
  cases s0 with
  | none => cases g
  | some s0 =>
    cases s0 with
    | fr d => cases g; cases q
    | mu m' => exact ⟨i, _, m', e0, rfl, z⟩
    | bo m' => exact ⟨i, _, m', e0, rfl, z⟩
    | lk m' => cases g; cases q

/-! ### results -/
inductive R where
  | d (d : D)
  | m (m : M)
def R.v : R → D
  | .d x => x
  | .m x => x.d
/-- a result: frozen data, or an object that has come since H0 and that nobody holds -/
def RRep (K : PySem.W.Frag) (H0 F H : Hp) (v : V) : R → Prop
  | .d d => Rep K F v d
  | .m m => ∃ a, v = .ref a ∧ H0 a = none ∧ F a = none ∧ MRep K F H a m

inductive Out (α : Type) where
  | ok (a : α) (Γ : En)
  | no
def EM (α : Type) := En → Out α
def EM.bind {α β : Type} (x : EM α) (f : α → EM β) : EM β := fun Γ => match x Γ with
  | .ok a Γ' => f a Γ'
  | .no => .no
def EM.ret {α : Type} (a : α) : EM α := fun Γ => .ok a Γ
def EM.opt {α : Type} (a : Option α) : EM α := fun Γ => match a with
  | some a => .ok a Γ
  | none => .no

/-- the reading of an expression that m says -/
def rE (K : PySem.W.Frag) (m : EM R) : TE := fun σ H Q => ∃ F Γ r Γ', At K F H σ Γ ∧ m Γ = .ok r Γ' ∧
  ∀ v F' H', Step F H (Mu σ Γ) F' H' → At K F' H' σ Γ' → ES Γ Γ' → RRep K H F' H' v r → Q v H'
def rD (K : PySem.W.Frag) (m : EM D) : TE := fun σ H Q => ∃ F Γ r Γ', At K F H σ Γ ∧ m Γ = .ok r Γ' ∧
  ∀ v F' H', Step F H (Mu σ Γ) F' H' → At K F' H' σ Γ' → ES Γ Γ' → Rep K F' v r → Q v H'
def rT (K : PySem.W.Frag) (m : EM Bool) : TT := fun σ H Q => ∃ F Γ r Γ', At K F H σ Γ ∧ m Γ = .ok r Γ' ∧
  ∀ F' H', Step F H (Mu σ Γ) F' H' → At K F' H' σ Γ' → ES Γ Γ' → Q r H'
def rA (K : PySem.W.Frag) (m : EM (List D)) : TA := fun σ H Q => ∃ F Γ r Γ', At K F H σ Γ ∧ m Γ = .ok r Γ' ∧
  ∀ vs F' H', Step F H (Mu σ Γ) F' H' → At K F' H' σ Γ' → ES Γ Γ' → Reps K F' vs r → Q vs H'
end Rf

set_option Elab.async false
set_option linter.all false
set_option maxRecDepth 100000
set_option maxHeartbeats 1000000
namespace Rf
open PySem PySem.Spec PyProof.Rows L2
variable [Tb]
/-- an object that is no table and no code object -/
def NoTC (o : HO) : Prop := (∀ ps, o ≠ .tbl ps) ∧ ∀ f, o ≠ .ext f
theorem NoTC.lst {xs : List V} : NoTC (.lst xs) := ⟨fun _ z => (nomatch z), fun _ z => (nomatch z)⟩
theorem NoTC.dK {xs : List (Key × V)} : NoTC (.dK xs) := ⟨fun _ z => (nomatch z), fun _ z => (nomatch z)⟩
theorem NoTC.ins {C dx : Addr} {fs : List (Str × V)} : NoTC (.ins C dx fs) := ⟨fun _ z => (nomatch z), fun _ z => (nomatch z)⟩
theorem MRep.noTC {K : PySem.W.Frag} {F H : Hp} {a : Addr} {m : M} (h : MRep K F H a m) : ∃ o, H a = some o ∧ NoTC o := by
  cases m with
  | lst ds => obtain ⟨vs, e, r⟩ := h; exact ⟨_, e, .lst⟩
  | dct ks ds => obtain ⟨vs, e, l, r⟩ := h; exact ⟨_, e, .dK⟩
  | ins C ns ds => obtain ⟨dx, vs, e, l, r⟩ := h; exact ⟨_, e, .ins⟩
theorem tabs_new {T : List (Addr × Str)} {F H : Hp} {p : Addr} {o : HO} (t : TabF T F H) (hp : H p = none) : TabF T F (upd H p o) :=
  ⟨t.t.ext fun b u e => by rw [upd_ne (ne_of_none e hp)]; exact e, t.n⟩
theorem tabs_chg {T : List (Addr × Str)} {F H H' : Hp} {p : Addr} {o : HO} (t : TabF T F H) (hp : H p = some o) (n : NoTC o) (k : ∀ b, b ≠ p → H' b = H b) : TabF T F H' := by
  refine ⟨fun q hq => ?_, t.n⟩
  obtain ⟨ps, h1, h2, h3⟩ := t.t q hq
  refine ⟨ps, (k _ fun z => ?_).trans h1, h2, fun pos cv hc => ?_⟩
  · rw [z, hp] at h1
    exact n.1 ps (Option.some.inj h1)
  · obtain ⟨c, e1, e2⟩ := h3 pos cv hc
    refine ⟨c, e1, (k _ fun z => ?_).trans e2⟩
    rw [z, hp] at e2
    exact n.2 _ (Option.some.inj e2)

section
variable {K : PySem.W.Frag} {F H F' H' : Hp} {σ : L2.St} {Γ Γ' : En}

theorem Mu.there (A : At K F H σ Γ) {a : Addr} (h : Mu σ Γ a) : H a ≠ none ∧ F a = none := by
  obtain ⟨i, s, m, e, q, z⟩ := h
  have hc : s.cont = some m := by cases s <;> first | (cases q; rfl) | cases q
  obtain ⟨b, e1, f, r⟩ := A.ob i s m e hc
  rw [z] at e1
  cases e1
  obtain ⟨o, ho, _⟩ := r.ex
  exact ⟨by rw [ho]; simp, f⟩
/-- a new frozen object -/
theorem At.newF (A : At K F H σ Γ) {p : Addr} (hp : H p = none) (o : HO) (no : ∀ ps, o ≠ .tbl ps) : At K (upd F p o) (upd H p o) σ Γ := by
  have fp : F p = none := A.sub.free hp
  have s : Same F (upd F p o) := same_upd fp
  refine ⟨fun x u e => ?_, A.len, fun i d e => ?_, fun i t m e c => ?_, A.sep, (tabs_new A.tab hp).upF no, A.f0.trans s⟩
  · by_cases hx : x = p
    · subst hx; rw [upd_same] at e ⊢; exact e
    · rw [upd_ne hx] at e ⊢; exact A.sub _ _ e
  · obtain ⟨v, e1, r⟩ := A.fr i d e
    exact ⟨v, e1, r.up s⟩
  · obtain ⟨a, e1, f, r⟩ := A.ob i t m e c
    obtain ⟨o2, ho, _⟩ := r.ex
    have ha : a ≠ p := ne_of_none ho hp
    exact ⟨a, e1, by rw [upd_ne ha]; exact f, r.up s (upd_ne ha)⟩
/-- a new object -/
theorem At.newH (A : At K F H σ Γ) {p : Addr} (hp : H p = none) (o : HO) : At K F (upd H p o) σ Γ := by
  refine ⟨fun x u e => ?_, A.len, A.fr, fun i t m e c => ?_, A.sep, tabs_new A.tab hp, A.f0⟩
  · rw [upd_ne (ne_of_none (A.sub _ _ e) hp)]; exact A.sub _ _ e
  · obtain ⟨a, e1, f, r⟩ := A.ob i t m e c
    obtain ⟨o2, ho, _⟩ := r.ex
    exact ⟨a, e1, f, r.up (Same.refl _) (upd_ne (ne_of_none ho hp))⟩
/-- an object that no slot holds is frozen -/
theorem At.frz (A : At K F H σ Γ) {p : Addr} {o : HO} (hp : H p = some o) (no : ∀ ps, o ≠ .tbl ps) (hf : F p = none)
    (hn : ∀ (i : Nat) (s : Sl) (m : M), Γ[i]? = some (some s) → s.cont = some m → σ[i]? ≠ some (some (.ref p))) : At K (upd F p o) H σ Γ := by
  have s : Same F (upd F p o) := same_upd hf
  refine ⟨same_frz A.sub hp, A.len, fun i d e => ?_, fun i t m e c => ?_, A.sep, A.tab.upF no, A.f0.trans s⟩
  · obtain ⟨v, e1, r⟩ := A.fr i d e
    exact ⟨v, e1, r.up s⟩
  · obtain ⟨a, e1, f, r⟩ := A.ob i t m e c
    have ha : a ≠ p := fun z => by subst z; exact hn i t m e c e1
    exact ⟨a, e1, by rw [upd_ne ha]; exact f, r.up s rfl⟩
/-- a result, frozen: the frozen heap goes on -/
theorem RRep.frz {H0 : Hp} {v : V} {r : R} (A : At K F H σ Γ) (x : RRep K H0 F H v r)
    (hn : ∀ a, H0 a = none → ∀ (i : Nat) (s : Sl) (m : M), Γ[i]? = some (some s) → s.cont = some m → σ[i]? ≠ some (some (.ref a))) :
    ∃ F', Same F F' ∧ (∀ b, F' b ≠ F b → H0 b = none ∧ F b = none ∧ H b ≠ none) ∧ At K F' H σ Γ ∧ Rep K F' v r.v := by
  cases r with
  | d x1 => exact ⟨F, Same.refl F, fun b z => absurd rfl z, A, x⟩
  | m m =>
    obtain ⟨a, rfl, h0, hf, hm⟩ := x
    obtain ⟨o, ho, q⟩ := hm.ex
    refine ⟨upd F a o, same_upd hf, fun b z => ?_, A.frz ho (by obtain ⟨o2, h2, n2⟩ := hm.noTC; rw [ho] at h2; cases h2; exact n2.1) hf (hn a h0), q _ (same_upd hf) upd_same⟩
    by_cases hb : b = a
    · subst hb; exact ⟨h0, hf, by rw [ho]; simp⟩
    · rw [upd_ne hb] at z; exact absurd rfl z
theorem Step.frzR {H0 F1 F2 H1 : Hp} {S : Addr → Prop} (a : Step F H0 S F1 H1) (s : Same F1 F2) (h : ∀ b, F2 b ≠ F1 b → H0 b = none ∧ F1 b = none ∧ H1 b ≠ none) : Step F H0 S F2 H1 := by
  refine ⟨a.fs.trans s, a.hs, fun x n e => ?_, a.dom⟩
  by_cases z : F2 x = F1 x
  · rw [z]; exact a.fn x n e
  · exact absurd (h x z).1 e
/-- no slot that stood before holds what has come since -/
theorem At.hold (A : At K F H σ Γ) (es : ES Γ Γ') {a : Addr} (h0 : H a = none) : ∀ (i : Nat) (s : Sl) (m : M), Γ'[i]? = some (some s) → s.cont = some m → σ[i]? ≠ some (some (.ref a)) := by
  intro i s m e c z
  have hi : i < Γ.length := by rw [← es.1]; exact (List.getElem?_eq_some_iff.mp e).1
  obtain ⟨t, e2, g⟩ := es.2 i _ (List.getElem?_eq_getElem hi)
  rw [e] at e2
  cases e2
  generalize hs : Γ[i] = s0 at g
  have e0 : Γ[i]? = some s0 := by rw [List.getElem?_eq_getElem hi, hs]
  have key : ∀ (t : Sl) (n : M), s0 = some t → t.cont = some n → False := fun t n h1 h2 => by
    subst h1
    obtain ⟨b, e1, f, r⟩ := A.ob i t n e0 h2
    rw [z] at e1
    cases e1
    obtain ⟨o, ho, _⟩ := r.ex
    rw [h0] at ho; cases ho
  cases s0 with
  | none => cases g
  | some s0 =>
    cases s0 with
    | fr d => cases g; cases c
    | mu m' => exact key _ m' rfl rfl
    | bo m' => exact key _ m' rfl rfl
    | lk m' => exact key _ m' rfl rfl

variable {X : Cx} {pe pe1 pe2 : Expr}
theorem PE.weak {t t' : TE} (h : PE X pe t) (k : ∀ σ H Q, t' σ H Q → t σ H Q) : PE X pe t' := ⟨fun pins s σ H Q I q => h.run pins s σ H Q I (k σ H Q q)⟩
theorem PT.weak {t t' : TT} (h : PT X pe t) (k : ∀ σ H Q, t' σ H Q → t σ H Q) : PT X pe t' := ⟨fun pins s σ H Q I q => h.run pins s σ H Q I (k σ H Q q)⟩
theorem PA.weak {es : List Expr} {t t' : TA} (h : PA X es t) (k : ∀ σ H Q, t' σ H Q → t σ H Q) : PA X es t' := ⟨fun pos pins s σ H Q I q => h.run pos pins s σ H Q I (k σ H Q q)⟩
theorem PS.weak {st : Stmt} {t t' : TS} (h : PS X st t) (k : ∀ D σ H, t' D σ H → t D σ H) : PS X st t' := ⟨fun pins s σ H D I q => h.run pins s σ H D I (k D σ H q)⟩
theorem PSs.weak {st : List Stmt} {t t' : TS} (h : PSs X st t) (k : ∀ D σ H, t' D σ H → t D σ H) : PSs X st t' := ⟨fun pins s σ H D I q => h.run pins s σ H D I (k D σ H q)⟩

def EM.v (x : EM R) : EM D := fun Γ => match x Γ with
  | .ok r Γ' => .ok r.v Γ'
  | .no => .no
theorem EM.v_ok {x : EM R} {d : D} (h : x.v Γ = .ok d Γ') : ∃ r, x Γ = .ok r Γ' ∧ r.v = d := by
  unfold EM.v at h
  cases e : x Γ with
  | ok r G => rw [e] at h; cases h; exact ⟨r, rfl, rfl⟩
  | no => rw [e] at h; cases h
theorem rD_of {m : EM R} (h : PE X pe (rE K m)) : PE X pe (rD K m.v) := PE.weak h fun σ H Q q => by
  obtain ⟨F, Γ, d, Γ', A, e, k⟩ := q
  obtain ⟨r, e1, rfl⟩ := EM.v_ok e
  refine ⟨F, Γ, r, Γ', A, e1, fun v F1 H1 st A1 es rr => ?_⟩
  obtain ⟨F2, s, hd, A2, rp⟩ := rr.frz A1 fun a h0 => A.hold es h0
  exact k v F2 H1 (st.frzR s hd) A2 es rp
theorem rE_of_d {m : EM R} {md : EM D} (h : PE X pe (rD K md)) (e : ∀ Γ, m Γ = (match md Γ with | .ok d Γ' => .ok (.d d) Γ' | .no => .no)) : PE X pe (rE K m) := PE.weak h fun σ H Q q => by
  obtain ⟨F, Γ, r, Γ', A, e1, k⟩ := q
  rw [e] at e1
  cases e2 : md Γ with
  | no => rw [e2] at e1; cases e1
  | ok d G =>
    rw [e2] at e1
    cases e1
    exact ⟨F, Γ, d, _, A, e2, fun v F1 H1 st A1 es rp => k v F1 H1 st A1 es rp⟩
/-- one, then the other -/
theorem seq2 {ma mb : EM D} {Γ1 Γ2 : En} {d1 d2 : D} {R2 : V → V → Hp → Prop} (A : At K F H σ Γ) (e1 : ma Γ = .ok d1 Γ1) (e2 : mb Γ1 = .ok d2 Γ2)
    (k : ∀ x y F2 H2, Step F H (Mu σ Γ) F2 H2 → At K F2 H2 σ Γ2 → ES Γ Γ2 → Rep K F2 x d1 → Rep K F2 y d2 → R2 x y H2) :
    rD K ma σ H fun x H1 => rD K mb σ H1 fun y H2 => R2 x y H2 :=
  ⟨F, Γ, d1, Γ1, A, e1, fun x F1 H1 s1 A1 g1 r1 => ⟨F1, Γ1, d2, Γ2, A1, e2, fun y F2 H2 s2 A2 g2 r2 =>
    k x y F2 H2 (s1.trans s2 fun z q => .inl (g1.mu q)) A2 (g1.trans g2) (r1.up s2.fs) r2⟩⟩
end
end Rf

set_option Elab.async false
set_option linter.all false
set_option maxRecDepth 100000
set_option maxHeartbeats 1000000
namespace Rf
open PySem PySem.Spec PyProof.Rows L2

/-! ### the syntax -/
inductive BOp where | add | sub | mul | fdiv | mod | pow | band
  deriving DecidableEq
inductive COp where | eq | ne | lt | le | gt | ge | inn | nin
inductive Ty where | int | bool | str | list | tuple | dict | own (C : Str)
inductive Bl where | len | int | abs | max | min | sum | all | any | list | tuple | gcd | sorted | sset | lrange | lset
inductive Me where | index
inductive Mn where | append | extend | pop
inductive T where
  | var (i : Nat)
  | tup (ts : List T)
mutual
inductive E where
  | var (i : Nat)
  | non | bl (b : Bool) | int (i : Int) | str (x : Str)
  | gint (x : Str)
  | fnv (x : Str)
  | bin (op : BOp) (a b : E)
  | neg (a : E)
  | nt (a : E)
  | bop (an : Bool) (as : Es)
  | cmp (op : COp) (a b : E)
  | cmp2 (o1 o2 : COp) (a b c : E)
  | isc (ng : Bool) (a : E) (c : Option Bool)
  | ite (t a b : E)
  | call (f : Str) (as : Es)
  | make (C : Str) (as : Es)
  | blt (f : Bl) (as : Es)
  | isi (a : E) (one : Bool) (ts : List Ty)
  | meth (m : Me) (a : E) (as : Es)
  | mut (m : Mn) (i : Nat) (as : Es)
  | attr (a : E) (f : Str)
  | ix (a b : E)
  | cut (a : E) (lo hi : Es)
  | rev (a : E)
  | tup (as : Es) | lst (as : Es)
  | dct (ks : List Str) (as : Es)
  | comp (e : E) (t : T) (it : It) (c : Es) (own : List (Str × Nat))
  /-- _law_fault(lambda: f(..)); of a class; of a name that holds a def -/
  | fault (f : Str) (as : Es) | faultM (C : Str) (as : Es) | faultV (i : Nat) (as : Es)
  | repr (a : E)
inductive Es where
  | nil
  | cons (e : E) (es : Es)
inductive It where
  | val (e : E)
  | r1 (a : E) | r2 (a b : E)
  | zip (a b : E) | enum (a : E)
  | zipr (a b : E)
end
mutual
inductive S where
  | asg (t : T) (e : E)
  | asgs (ts : List T) (es : Es)
  | put (i : Nat) (k v : E)
  | fld (i : Nat) (f : Str) (e : E)
  | aug (i : Nat) (op : BOp) (e : E)
  | exp (e : E)
  | ret (e : E) | retN
  | ite (c : E) (a b : Ss)
  | for (t : T) (it : It) (b : Ss)
  | whil (c : E) (b : Ss)
  | never
  | raise (C : Str) (as : Es)
  | pass | brk | cont
inductive Ss where
  | nil
  | cons (s : S) (ss : Ss)
end

/-! ### data: comparisons and so on -/
mutual
def D.eqv : D → D → Bool
  | .non, .non => true
  | .bl a, .bl b => a == b
  | .bl a, .int j => (if a then 1 else 0) == j
  | .int i, .bl b => i == (if b then 1 else 0)
  | .int i, .int j => i == j
  | .str x, .str y => x == y
  | .lst xs, .lst ys => D.eqvs xs ys
  | .tup xs, .tup ys => D.eqvs xs ys
  | _, _ => false
def D.eqvs : List D → List D → Bool
  | [], [] => true
  | x :: xs, y :: ys => D.eqv x y && D.eqvs xs ys
  | _, _ => false
end
/-- plain data, at most n deep -/
def D.okd : Nat → D → Bool
  | _, .non => true
  | _, .bl _ => true
  | _, .int _ => true
  | _, .str x => PyData.strOk x
  | n + 1, .lst ds => ds.all (D.okd n)
  | n + 1, .tup ds => ds.all (D.okd n)
  | _, _ => false
/-- lists of unlike lengths are unlike, whatever they hold -/
def lenNe : D → D → Bool
  | .lst xs, .lst ys => decide (xs.length ≠ ys.length)
  | _, _ => false
def eqD (a b : D) : Option Bool := if a.okd 60 && b.okd 60 then some (a.eqv b) else if lenNe a b then some false else none
def inD (a b : D) : Option Bool := match b with
  | .lst ds => if a.okd 60 && ds.all (D.okd 60) then some (ds.any fun d => d.eqv a) else none
  | .tup ds => if a.okd 60 && ds.all (D.okd 60) then some (ds.any fun d => d.eqv a) else none
  | _ => none
def D.int? : D → Option Int
  | .int i => some i
  | _ => none
def D.bl? : D → Option Bool
  | .bl b => some b
  | _ => none
def D.seq? : D → Option (List D)
  | .tup ds => some ds
  | .lst ds => some ds
  | .scr ns => some (ns.map D.int)
  | _ => none
def lim : Int := 2 ^ 4000
@[irreducible] def small (i : Int) : Bool := decide (-lim < i) && decide (i < lim)
def binI : BOp → Int → Int → Option Int
  | .add, i, j => some (i + j)
  | .sub, i, j => some (i - j)
  | .mul, i, j => if small i && small j then some (i * j) else none
  | .fdiv, i, j => if decide (j ≠ 0) && small j then some (i.fdiv j) else none
  | .mod, i, j => if decide (j ≠ 0) then some (i.fmod j) else none
  | .pow, i, j => if decide (0 ≤ j) && decide (j ≤ 1000) && decide (i.natAbs < 2 ^ 64) then some (i ^ j.toNat) else none
  | .band, i, j => some (Builtin.bitAnd i j)
def binD : BOp → D → D → Option R
  | op, .int i, .int j => (binI op i j).map fun k => .d (.int k)
  | .add, .tup xs, .tup ys => if xs.length + ys.length ≤ 1000000 then some (.d (.tup (xs ++ ys))) else none
  | .add, .lst xs, .lst ys => if xs.length + ys.length ≤ 1000000 then some (.m (.lst (xs ++ ys))) else none
  | .mul, .lst xs, .int k => if decide (-1000000 ≤ k) && decide (k ≤ 1000000) && decide (xs.length * k.toNat ≤ 1000000) then some (.m (.lst (List.replicate k.toNat xs).flatten)) else none
  | .mul, .tup xs, .int k => if decide (-1000 ≤ k) && decide (k ≤ 1000) && decide (xs.length ≤ 1000) then some (.d (.tup (List.replicate k.toNat xs).flatten)) else none
  | _, _, _ => none
def cmpD : COp → D → D → Option Bool
  | .eq, a, b => eqD a b
  | .ne, a, b => (eqD a b).map (!·)
  | .inn, a, b => inD a b
  | .nin, a, b => (inD a b).map (!·)
  | .lt, .int i, .int j => some (decide (i < j))
  | .le, .int i, .int j => some (decide (i ≤ j))
  | .gt, .int i, .int j => some (decide (j < i))
  | .ge, .int i, .int j => some (decide (j ≤ i))
  | _, _, _ => none
def truD : D → Option Bool
  | .bl b => some b
  | .int i => some (i != 0)
  | .non => some false
  | .lst ds => some (!ds.isEmpty)
  | .tup ds => some (!ds.isEmpty)
  | _ => none
def isC : Option Bool → D → Bool
  | none, .non => true
  | some b, .bl c => b == c
  | _, _ => false
def lk {α β : Type} [DecidableEq α] (x : α) : List α → List β → Option β
  | k :: ks, d :: ds => if k = x then some d else lk x ks ds
  | _, _ => none
def ixD : D → D → Option D
  | .lst ds, .int i => atI ds i
  | .tup ds, .int i => atI ds i
  | .dct ks ds, .str x => lk (Sum.inr x) ks ds
  | _, _ => none
/-- what stands in the tuple that tells an error -/
inductive Ki where
  | lit (x : Str) | fld (f : Str) | rep (f : Str)
/-- what the module's top holds: int constants, own classes (of no base) with their fields -/
structure CtxR where
  nums : List (Str × Int)
  cls : List (Str × List Str)
  /-- how often a while may turn -/
  fuel : Nat
  /-- the error classes with their fields; how they are told -/
  exc : List (Str × List Str) := []
  kinds : List (Str × List Ki) := []
  /-- the defs that a name may hold to be called -/
  fnl : List Str := []
/-- an exception -/
structure Xc where
  C : Str
  ns : List Str
  ds : List D
/-- isinstance for one class -/
def isi1 (cx : CtxR) : D → Ty → Option Bool
  | d, .own C => if (cx.cls.map (·.1)).contains C then (match d with
    | .fn _ => none
    | .exc _ => none
    | .scr _ => none
    | .ins C' _ _ => if (cx.cls.map (·.1)).contains C' then some (decide (C' = C)) else none
    | _ => some false) else none
  | .non, _ => some false
  | .bl _, .int => some true
  | .bl _, .bool => some true
  | .bl _, _ => some false
  | .int _, .int => some true
  | .int _, _ => some false
  | .str _, .str => some true
  | .str _, _ => some false
  | .tup _, .tuple => some true
  | .tup _, _ => some false
  | .lst _, .list => some true
  | .lst _, _ => some false
  | .dct _ _, .dict => some true
  | .dct _ _, _ => some false
  | .ins C _ _, _ => if (cx.cls.map (·.1)).contains C then some false else none
  | _, _ => none
def isiD (cx : CtxR) (d : D) : List Ty → Option Bool
  | [] => some false
  | t :: ts => match isi1 cx d t with
    | some true => some true
    | some false => isiD cx d ts
    | none => none
def cutL (xs : List D) (lo hi : Option Int) : List D := (xs.drop (HT.sIx xs.length 0 lo)).take (HT.sIx xs.length xs.length hi - HT.sIx xs.length 0 lo)
def cutD : D → Option Int → Option Int → Option R
  | .lst ds, lo, hi => some (.m (.lst (cutL ds lo hi)))
  | .tup ds, lo, hi => some (.d (.tup (cutL ds lo hi)))
  | _, _, _ => none
def revD : D → Option R
  | .lst ds => some (.m (.lst ds.reverse))
  | .tup ds => some (.d (.tup ds.reverse))
  | _ => none
def allI (ds : List D) : Option (List Int) := ds.mapM D.int?
def allB (ds : List D) : Option (List Bool) := ds.mapM D.bl?
def maxI : List Int → Option Int
  | [] => none
  | x :: xs => some (xs.foldl max x)
def minI : List Int → Option Int
  | [] => none
  | x :: xs => some (xs.foldl min x)
def sortI (ns : List Int) : List Int := ns.mergeSort (fun a b => decide (a ≤ b))
def dedI : List Int → List Int
  | [] => []
  | x :: xs => if xs.contains x then dedI xs else x :: dedI xs
def bLen : List D → Option R
  | [.lst xs] => some (.d (.int xs.length))
  | [.tup xs] => some (.d (.int xs.length))
  | [.scr xs] => some (.d (.int xs.length))
  | _ => none
def bInt : List D → Option R
  | [.int i] => some (.d (.int i))
  | [.bl b] => some (.d (.int (if b then 1 else 0)))
  | _ => none
def bAbs : List D → Option R
  | [.int i] => some (.d (.int (if i < 0 then -i else i)))
  | _ => none
def bMax : List D → Option R
  | [.lst xs] => ((allI xs).bind maxI).map fun k => .d (.int k)
  | [.tup xs] => ((allI xs).bind maxI).map fun k => .d (.int k)
  | [.int i, .int j] => some (.d (.int (if j > i then j else i)))
  | _ => none
def bMin : List D → Option R
  | [.lst xs] => ((allI xs).bind minI).map fun k => .d (.int k)
  | [.tup xs] => ((allI xs).bind minI).map fun k => .d (.int k)
  | [.int i, .int j] => some (.d (.int (if j < i then j else i)))
  | _ => none
def bSum : List D → Option R
  | [.lst xs] => (allI xs).map fun ns => .d (.int ns.sum)
  | _ => none
def bAll : List D → Option R
  | [.lst xs] => (allB xs).map fun bs => .d (.bl (bs.all id))
  | _ => none
def bAny : List D → Option R
  | [.lst xs] => (allB xs).map fun bs => .d (.bl (bs.any id))
  | _ => none
def bList : List D → Option R
  | [.lst xs] => some (.m (.lst xs))
  | [.tup xs] => some (.m (.lst xs))
  | [.scr ns] => some (.m (.lst (ns.map D.int)))
  | _ => none
def bTuple : List D → Option R
  | [.lst xs] => some (.d (.tup xs))
  | [.tup xs] => some (.d (.tup xs))
  | _ => none
def bGcd : List D → Option R
  | [.int i, .int j] => some (.d (.int (Int.gcd i j : Nat)))
  | _ => none
def bSorted : List D → Option R
  | [.lst xs] => (allI xs).bind fun ns => some (.m (.lst ((sortI ns).map D.int)))
  | _ => none
def bSset : List D → Option R
  | [.lst xs] => if xs.length < 60 then (allI xs).bind fun ns => some (.m (.lst ((sortI (dedI ns)).map D.int))) else none
  | [.tup xs] => if xs.length < 60 then (allI xs).bind fun ns => some (.m (.lst ((sortI (dedI ns)).map D.int))) else none
  | _ => none
/-- len(set(..)) -/
def bLset : List D → Option R
  | [.lst xs] => if xs.length < 60 then (allI xs).bind fun ns => some (.d (.int ((dedI ns).length : Nat))) else none
  | [.tup xs] => if xs.length < 60 then (allI xs).bind fun ns => some (.d (.int ((dedI ns).length : Nat))) else none
  | _ => none
def bLrange : List D → Option R
  | [.int n] => if decide (n ≤ 1000000) && decide (-1000000 ≤ n) then some (.m (.lst ((List.range n.toNat).map fun k => D.int (k : Nat)))) else none
  | _ => none
def bltD : Bl → List D → Option R
  | .len => bLen
  | .int => bInt
  | .abs => bAbs
  | .max => bMax
  | .min => bMin
  | .sum => bSum
  | .all => bAll
  | .any => bAny
  | .list => bList
  | .tuple => bTuple
  | .gcd => bGcd
  | .sorted => bSorted
  | .sset => bSset
  | .lrange => bLrange
  | .lset => bLset
def fstAt : List D → D → Nat → Option Nat
  | [], _, _ => none
  | x :: xs, d, n => if x.eqv d then some n else fstAt xs d (n + 1)
def methD : Me → D → List D → Option R
  | .index, .lst xs, [a] => if a.okd 60 && xs.all (D.okd 50) then (fstAt xs a 0).map fun (n : Nat) => R.d (.int (n : Int)) else none
  | _, _, _ => none
/-- a method that changes its object: what it hands back, the object then -/
def mutD : Mn → M → List D → Option (R × M)
  | .append, .lst xs, [a] => if xs.length < 1000000 then some (.d .non, .lst (xs ++ [a])) else none
  | .extend, .lst xs, [.lst ys] => if xs.length + ys.length ≤ 1000000 then some (.d .non, .lst (xs ++ ys)) else none
  | .pop, .lst xs, [.int i] => if decide (-(2 ^ 60) < i) && decide (i < 2 ^ 60) then (ixN xs.length i).bind fun k => xs[k]?.map fun y => (.d y, .lst (xs.eraseIdx k)) else none
  | .pop, .lst xs, [] => xs[xs.length - 1]?.map fun y => (.d y, .lst xs.dropLast)
  | _, _, _ => none
def putA (x : Key) (d : D) : List Key → List D → List D
  | k :: ks, e :: es => (if k = x then d else e) :: putA x d ks es
  | _, _ => []
/-- o[k] = v -/
def putM : M → D → D → Option M
  | .lst xs, .int i, d => (ixN xs.length i).map fun k => .lst (xs.set k d)
  | .dct ks ds, .str x, d => if ks.any (fun k => decide (k = Sum.inr x)) && decide (ks.length ≤ 1000) then some (.dct ks (putA (Sum.inr x) d ks ds)) else none
  | _, _, _ => none
def fldM (cx : CtxR) : M → Str → D → Option M
  | .ins C ns ds, f, d => if ns.contains f || decide (500 < ns.length) || !((cx.cls.lookup C).getD []).contains f then none else some (.ins C (ns ++ [f]) (ds ++ [d]))
  | _, _, _ => none
def attrD (cx : CtxR) : D → Str → Option D
  | .ins C ns ds, f => if ((cx.cls.lookup C).getD []).contains f then lk f ns ds else none
  | _, _ => none

/-! ### slots -/
def rdV (i : Nat) : EM D := fun Γ => match Γ[i]? with
  | some (some (.fr d)) => .ok d Γ
  | some (some (.mu m)) => .ok m.d (Γ.set i (some (.fr m.d)))
  | _ => .no
def pkV (i : Nat) : EM D := fun Γ => match Γ[i]? with
  | some (some (.fr d)) => .ok d Γ
  | some (some (.mu m)) => .ok m.d Γ
  | some (some (.bo m)) => .ok m.d Γ
  | some (some (.lk m)) => .ok m.d Γ
  | _ => .no
/-- what is walked: not the caller's object -/
def itV (i : Nat) : EM D := fun Γ => match Γ[i]? with
  | some (some (.fr d)) => .ok d Γ
  | some (some (.mu m)) => .ok m.d Γ
  | some (some (.lk m)) => .ok m.d Γ
  | _ => .no
/-- the object of a slot that may be changed -/
def obV (i : Nat) (Γ : En) : Option M := match Γ[i]? with
  | some (some (.mu m)) => some m
  | some (some (.bo m)) => some m
  | _ => none
def stV (i : Nat) (m : M) (Γ : En) : En := match Γ[i]? with
  | some (some (.bo _)) => Γ.set i (some (.bo m))
  | _ => Γ.set i (some (.mu m))
def E.slot : E → Option Nat
  | .var i => some i
  | _ => none
/-- asked behind others, it stands as it stood -/
def E.still : E → Bool
  | .var _ => true | .non => true | .bl _ => true | .int _ => true | .str _ => true | .gint _ => true
  | .lst .nil => true | .tup .nil => true
  | _ => false
def R.sl : R → Sl
  | .d x => .fr x
  | .m x => .mu x
/-- a store to a name -/
def setV (i : Nat) (r : R) (Γ : En) : Option En := match Γ[i]? with
  | some (some (.bo _)) => none
  | some (some (.lk _)) => none
  | some _ => some (Γ.set i (some r.sl))
  | none => none
mutual
def asgT : T → R → En → Option En
  | .var i, r, Γ => setV i r Γ
  | .tup ts, r, Γ => match r with
    | .d (.tup ds) => asgTs ts (ds.map R.d) Γ
    | _ => none
def asgTs : List T → List R → En → Option En
  | [], [], Γ => some Γ
  | t :: ts, r :: rs, Γ => (asgT t r Γ).bind (asgTs ts rs)
  | _, _, _ => none
end
mutual
def T.slots : T → List Nat
  | .var i => [i]
  | .tup ts => T.slotss ts
def T.slotss : List T → List Nat
  | [] => []
  | t :: ts => t.slots ++ T.slotss ts
end
def wipeE (Γ : En) : List Nat → En
  | [] => Γ
  | v :: vs => (wipeE Γ vs).set v none
/-- the slots vs as they were -/
def backE (Γ0 : En) : List Nat → En → En
  | [], Γ => Γ
  | v :: vs, Γ => (backE Γ0 vs Γ).set v (Γ0.getD v none)
def lockE (i : Nat) (Γ : En) : En := match Γ[i]? with
  | some (some (.mu m)) => Γ.set i (some (.lk m))
  | _ => Γ
def freeE (i : Nat) (Γ0 Γ : En) : En := match Γ0[i]?, Γ[i]? with
  | some (some (.mu _)), some (some (.lk m)) => Γ.set i (some (.mu m))
  | _, _ => Γ
def lockO (o : Option Nat) (Γ : En) : En := match o with
  | none => Γ
  | some i => lockE i Γ
def freeO (o : Option Nat) (Γ0 Γ : En) : En := match o with
  | none => Γ
  | some i => freeE i Γ0 Γ

def mMut (m : Mn) (i : Nat) (ms : EM (List D)) : EM R := fun Γ => match obV i Γ with
    | some (.lst _) => match ms Γ with
      | .no => .no
      | .ok ds Γ1 => match obV i Γ1 with
        | none => .no
        | some o => match mutD m o ds with
          | none => .no
          | some (r, o') => .ok r (stV i o' Γ1)
    | _ => .no
inductive Fl where
  | nx (Γ : En) | rt (r : R) (Γ : En) | bk (Γ : En) | ct (Γ : En) | no | ex (c : Xc)
def mPut (i : Nat) (mv mk : EM D) : En → Fl := fun Γ => match obV i Γ with
    | none => .no
    | some _ => match mv Γ with
      | .no => .no
      | .ok x Γ1 => match mk Γ1 with
        | .no => .no
        | .ok y Γ2 => match (obV i Γ2).bind fun o => putM o y x with
          | some o => .nx (stV i o Γ2)
          | none => .no
def mFld (cx : CtxR) (i : Nat) (f : Str) (mv : EM D) : En → Fl := fun Γ => match mv Γ with
    | .no => .no
    | .ok x Γ1 => match (obV i Γ1).bind fun o => fldM cx o f x with
      | some o => .nx (stV i o Γ1)
      | none => .no
/-- what calls give, what they raise -/
def Phi := (Str → List Sl → Option (R × En)) × (Str → List Sl → Option Xc)
def Phi.ok (Φ : Phi) : Str → List Sl → Option (R × En) := Prod.fst Φ
def Phi.ex (Φ : Phi) : Str → List Sl → Option Xc := Prod.snd Φ
instance : CoeFun Phi (fun _ => Str → List Sl → Option (R × En)) := ⟨Phi.ok⟩
/-! repr -/
mutual
def D.okr : Nat → D → Bool
  | _, .non => true
  | _, .bl _ => true
  | _, .int i => decide (i.natAbs.log2 < 1920)
  | _, .str x => PyData.strOk x
  | n + 1, .lst ds => D.okrs n ds
  | n + 1, .tup ds => D.okrs n ds
  | _, .dct [] [] => true
  | _, _ => false
def D.okrs : Nat → List D → Bool
  | _, [] => true
  | n, d :: ds => D.okr n d && D.okrs n ds
end
mutual
def D.pr : D → PyData
  | .non => .none
  | .bl b => .bool b
  | .int i => .int i
  | .str x => .str x
  | .lst ds => .list (D.prs ds)
  | .tup ds => .tuple (D.prs ds)
  | _ => .dict []
def D.prs : List D → List PyData
  | [] => []
  | d :: ds => D.pr d :: D.prs ds
end
def reprD (d : D) : Option Str := if d.okr 50 && decide (d.pr.shown.length ≤ 1000000) then some d.pr.shown else none
def kindI (c : Xc) : Ki → Option D
  | .lit x => some (.str x)
  | .fld f => lk f c.ns c.ds
  | .rep f => (lk f c.ns c.ds).bind fun d => (reprD d).map .str
/-- how an error is told -/
def kindD (cx : CtxR) (c : Xc) : Option D := match cx.kinds.filter fun p => decide (p.1 = c.C) with
  | [p] => if cx.exc.lookup c.C = some c.ns then (p.2.mapM (kindI c)).map .tup else none
  | _ => none
/-- a comprehension's loop -/
def compL (tg : T) (cond : EM Bool) (elt : EM D) (own : List Nat) : List D → List D → EM (List D)
  | [], acc => fun Γ => .ok acc Γ
  | x :: xs, acc => fun Γ => match asgT tg (.d x) (wipeE Γ own) with
    | none => .no
    | some Γ1 => match cond Γ1 with
      | .no => .no
      | .ok false Γ2 => compL tg cond elt own xs acc (wipeE Γ2 own)
      | .ok true Γ2 => match elt Γ2 with
        | .no => .no
        | .ok d Γ3 => if acc.length < 1000000 then compL tg cond elt own xs (acc ++ [d]) (wipeE Γ3 own) else .no
/-- the own names of a comprehension hold no objects ahead of it -/
def bareE (Γ : En) (vs : List Nat) : Bool := vs.all fun v => match Γ[v]? with
  | some none => true
  | some (some (.fr _)) => true
  | _ => false
def mComp (t : T) (vs : List Nat) (mi : EM (Option Nat × List D)) (mc : EM Bool) (me : EM D) : EM R := fun Γ => match mi Γ with
    | .no => .no
    | .ok (ls, xs) Γ1 => if bareE (lockO ls Γ1) vs then (match compL t mc me vs xs [] (wipeE (lockO ls Γ1) vs) with
      | .no => .no
      | .ok ds Γ2 => .ok (.m (.lst ds)) (freeO ls Γ1 (backE (lockO ls Γ1) vs Γ2))) else .no
def mFor (t : T) (mi : EM (Option Nat × List D)) (mb : En → Fl) (forL : T → (En → Fl) → List D → En → Fl) : En → Fl := fun Γ => match mi Γ with
    | .no => .no
    | .ok (ls, xs) Γ1 => match forL t mb xs (lockO ls Γ1) with
      | .nx Γ2 => .nx (freeO ls Γ1 Γ2)
      | f => f
def forL (tg : T) (body : En → Fl) : List D → En → Fl
  | [], Γ => .nx Γ
  | x :: xs, Γ => match asgT tg (.d x) Γ with
    | none => .no
    | some Γ1 => match body Γ1 with
      | .nx Γ2 => forL tg body xs Γ2
      | .ct Γ2 => forL tg body xs Γ2
      | .bk Γ2 => .nx Γ2
      | .rt r Γ2 => .rt r Γ2
      | .no => .no
      | .ex c => .ex c
def whL (cond : EM Bool) (body : En → Fl) : Nat → En → Fl
  | 0, _ => .no
  | n + 1, Γ => match cond Γ with
    | .no => .no
    | .ok false Γ1 => .nx Γ1
    | .ok true Γ1 => match body Γ1 with
      | .nx Γ2 => whL cond body n Γ2
      | .ct Γ2 => whL cond body n Γ2
      | .bk Γ2 => .nx Γ2
      | .rt r Γ2 => .rt r Γ2
      | .no => .no
      | .ex c => .ex c

def mIv (i : Nat) : EM (Option Nat × List D) := (itV i).bind fun x => EM.opt (x.seq?.map fun xs => (some i, xs))
def mIe (me : EM D) : EM (Option Nat × List D) := me.bind fun x => EM.opt (x.seq?.map fun xs => (none, xs))
def r1D : D → Option (List D)
  | .int n => if decide (n < 2 ^ 60) && decide (-2 ^ 60 < n) then some ((List.range n.toNat).map fun k => .int (k : Nat)) else none
  | _ => none
def r2D : D → D → Option (List D)
  | .int i, .int j => if decide (i < 2 ^ 60) && decide (-2 ^ 60 < i) && decide (j < 2 ^ 60) && decide (-2 ^ 60 < j) then some ((List.range (j - i).toNat).map fun k => .int (i + (k : Nat))) else none
  | _, _ => none
def zipD : D → D → Option (List D)
  | .lst xs, .lst ys => some ((xs.zip ys).map fun p => .tup [p.1, p.2])
  | .tup xs, .tup ys => some ((xs.zip ys).map fun p => .tup [p.1, p.2])
  | _, _ => none
def enumD : D → Option (List D)
  | .lst xs => some (xs.zipIdx.map fun p => .tup [.int (p.2 : Nat), p.1])
  | _ => none
def mR1 (me : EM D) : EM (Option Nat × List D) := me.bind fun x => EM.opt ((r1D x).map fun xs => (none, xs))
def mR2 (ma mb : EM D) : EM (Option Nat × List D) := ma.bind fun x => mb.bind fun y => EM.opt ((r2D x y).map fun xs => (none, xs))
def mZip0 (ma mb : EM D) : EM (Option Nat × List D) := ma.bind fun x => mb.bind fun y => EM.opt ((zipD x y).map fun xs => (none, xs))
/-- a list and a tuple: as long as the list lasts -/
def zipMx : D → D → Option (List D)
  | .lst xs, .tup ys => if xs.length ≤ ys.length then some ((xs.zip ys).map fun p => .tup [p.1, p.2]) else none
  | _, _ => none
def mZipM (ma mb : EM D) : EM (Option Nat × List D) := ma.bind fun x => mb.bind fun y => EM.opt ((zipMx x y).map fun xs => (none, xs))
def zipA (x y : D) : Option (List D) := match zipMx x y with
  | some l => some l
  | none => zipD x y
def mZip (ma mb : EM D) : EM (Option Nat × List D) := ma.bind fun x => mb.bind fun y => EM.opt ((zipA x y).map fun xs => (none, xs))
/-- zip(range(n), t): as long as the range lasts -/
def ziprD : D → D → Option (List D)
  | .int n, .tup ys => if decide (0 ≤ n) && decide (n.toNat ≤ ys.length) && decide (n < 2 ^ 60) then some ((((List.range n.toNat).map fun k => D.int (k : Nat)).zip ys).map fun p => .tup [p.1, p.2]) else none
  | _, _ => none
def mZipr (ma mb : EM D) : EM (Option Nat × List D) := ma.bind fun x => (EM.opt x.int?).bind fun _ => mb.bind fun y => EM.opt ((ziprD x y).map fun xs => (none, xs))
def mEnum (ma : EM D) : EM (Option Nat × List D) := ma.bind fun x => EM.opt ((enumD x).map fun xs => (none, xs))
def mBor (Φ : Phi) (f : Str) (i : Nat) (ms : EM (List D)) (alt : EM R) : EM R := fun Γ => match obV i Γ with
        | some (.dct ks es) => match ms Γ with
          | .ok ds Γ1 => match obV i Γ1 with
            | some m => match Φ f (.bo m :: ds.map Sl.fr) with
              | some (r, some (.bo m') :: _) => .ok r (stV i m' Γ1)
              | _ => .no
            | none => .no
          | .no => .no
        | _ => alt Γ
def mMake (Φ : Phi) (C f : Str) (ms : EM (List D)) : EM R := ms.bind fun ds => EM.opt (match Φ f (.bo (.ins C [] []) :: ds.map Sl.fr) with
      | some (.d .non, some (.bo m) :: _) => some (.m m)
      | _ => none)
def mCall (Φ : Phi) (f : Str) (ms : EM (List D)) : EM R := ms.bind fun ds => EM.opt ((Φ f (ds.map Sl.fr)).map (·.1))

/-- what an expression says: its value; as a test -/
structure EvR where
  r : EM R
  t : EM Bool
/-- with a name: what it holds, left as it is -/
def pkO (e : E) (m : EM R) : EM D := match e with
  | .var i => pkV i
  | _ => m.v
def mkR (m : EM R) : EvR := ⟨m, m.v.bind fun x => EM.opt (truD x)⟩
abbrev Lv := List (E × EvR)
def lS : Lv → EM (List D)
  | [] => EM.ret []
  | p :: ps => p.2.r.v.bind fun x => (lS ps).bind fun xs => EM.ret (x :: xs)
/-- the last one as it is -/
def lP : Lv → EM (List D)
  | [] => EM.ret []
  | [p] => (pkO p.1 p.2.r).bind fun x => EM.ret [x]
  | p :: q :: ps => p.2.r.v.bind fun x => (lP (q :: ps)).bind fun xs => EM.ret (x :: xs)
def lR : Lv → EM (List R)
  | [] => EM.ret []
  | p :: ps => p.2.r.bind fun x => (lR ps).bind fun xs => EM.ret (x :: xs)
def mAndOr (an : Bool) (ma : EM D) (m : EM R) : EM R := ma.bind fun x => match x with
    | .bl k => if k = an then m else EM.ret (.d (.bl k))
    | _ => fun _ => .no
def lB (an : Bool) : Lv → EM R
  | [] => fun _ => .no
  | [p] => p.2.r
  | p :: q :: ps => mAndOr an p.2.r.v (lB an (q :: ps))
def lBT (an : Bool) : Lv → EM Bool
  | [] => EM.ret an
  | [p] => p.2.t
  | p :: q :: ps => p.2.t.bind fun k => if k = an then lBT an (q :: ps) else EM.ret k
def lT : Lv → EM Bool
  | [] => EM.ret true
  | p :: _ => p.2.t
def lO : Lv → EM (Option Int)
  | [] => EM.ret none
  | p :: _ => p.2.r.v.bind fun x => match x with
    | .int i => EM.ret (some i)
    | _ => fun _ => .no
def mCallE (Φ : Phi) (f : Str) : Lv → EM R
  | [] => EM.opt ((Φ f []).map (·.1))
  | p :: ps => match p.1.slot with
    | some i => mBor Φ f i (lS ps) (mCall Φ f (lS (p :: ps)))
    | none => mCall Φ f (lS (p :: ps))
def mCmp (op : COp) (ma mb : EM D) : EM R := ma.bind fun x => mb.bind fun y => (EM.ret x).bind fun x => EM.opt ((cmpD op x y).map fun c => .d (.bl c))
def mCmpV (op : COp) (i : Nat) (mb : EM D) : EM R := (pkV i).bind fun _ => mb.bind fun y => (pkV i).bind fun x => EM.opt ((cmpD op x y).map fun c => .d (.bl c))
def mCmpE (op : COp) (a : E) (still : Bool) (ma : EM D) (mb : EM D) : EM R := match a, still with
  | .var i, true => mCmpV op i mb
  | _, _ => mCmp op ma mb
def mCmp2 (o1 o2 : COp) (ma mb mc : EM D) : EM R := ma.bind fun x => mb.bind fun y => (EM.opt (cmpD o1 x y)).bind fun k => match k with
    | false => EM.ret (.d (.bl false))
    | true => mc.bind fun z => EM.opt ((cmpD o2 y z).map fun k => .d (.bl k))
def mIs (ng : Bool) (c : Option Bool) (ma : EM D) : EM R := ma.bind fun x => EM.ret (.d (.bl (if ng then !isC c x else isC c x)))
def mIsi (cx : CtxR) (ts : List Ty) (ma : EM D) : EM R := ma.bind fun x => EM.opt ((isiD cx x ts).map fun b => .d (.bl b))
def mIx (a : E) (ma mb : EM D) : EM R := match a with
  | .var i => (pkV i).bind fun _ => mb.bind fun y => (pkV i).bind fun x => EM.opt ((ixD x y).map .d)
  | _ => ma.bind fun x => mb.bind fun y => EM.opt ((ixD x y).map .d)
def mMeth (m : Me) (a : E) (ms : EM (List D)) : EM R := match a with
  | .var i => (pkV i).bind fun x0 => (EM.opt (match x0 with | .lst _ => some () | _ => none)).bind fun _ => ms.bind fun ds => (pkV i).bind fun x => EM.opt (methD m x ds)
  | _ => fun _ => .no
def mIt (a : E) (ma : EM D) : EM (Option Nat × List D) := match a with
  | .var i => mIv i
  | _ => mIe ma

/-- what a call raises, told; None if it raises nothing -/
def mFault (cx : CtxR) (Φ : Phi) (f : Str) (ms : EM (List D)) : EM R := ms.bind fun ds => EM.opt (match Φ.ok f (ds.map Sl.fr) with
  | some _ => some (.d .non)
  | none => ((Φ.ex f (ds.map Sl.fr)).bind (kindD cx)).map .d)
def mFaultM (cx : CtxR) (Φ : Phi) (f C : Str) (ms : EM (List D)) : EM R := ms.bind fun ds => EM.opt (match Φ.ok f (.bo (.ins C [] []) :: ds.map Sl.fr) with
  | some (.d .non, some (.bo _) :: _) => some (.d .non)
  | some _ => none
  | none => ((Φ.ex f (.bo (.ins C [] []) :: ds.map Sl.fr)).bind (kindD cx)).map .d)

def mFaultV (cx : CtxR) (Φ : Phi) (i : Nat) (ms : EM (List D)) : EM R := (pkV i).bind fun x => match x with
    | .fn f => if cx.fnl.contains f then mFault cx Φ f ms else fun _ => .no
    | _ => fun _ => .no
section
variable (cx : CtxR) (Φ : Phi)
mutual
def ev2 : E → EvR
  | .var i => ⟨fun Γ => match rdV i Γ with
    | .ok d Γ' => .ok (.d d) Γ'
    | .no => .no, (pkV i).bind fun x => EM.opt (truD x)⟩
  | .non => mkR (EM.ret (.d .non))
  | .bl b => mkR (EM.ret (.d (.bl b)))
  | .int i => mkR (EM.ret (.d (.int i)))
  | .str x => mkR (EM.ret (.d (.str x)))
  | .gint x => mkR (EM.opt ((cx.nums.lookup x).map fun i => .d (.int i)))
  | .fnv x => mkR (EM.ret (.d (.fn x)))
  | .bin op a b => mkR ((ev2 a).r.v.bind fun x => (ev2 b).r.v.bind fun y => EM.opt (binD op x y))
  | .neg a => mkR ((ev2 a).r.v.bind fun x => EM.opt (x.int?.map fun i => .d (.int (-i))))
  | .nt a => ⟨(pkO a (ev2 a).r).bind fun x => EM.opt ((truD x).map fun b => .d (.bl (!b))), (ev2 a).t.bind fun b => EM.ret (!b)⟩
  | .bop an as => ⟨lB an (evL as), lBT an (evL as)⟩
  | .cmp op a b => mkR (mCmpE op a b.still (ev2 a).r.v (pkO b (ev2 b).r))
  | .cmp2 o1 o2 a b c => mkR (mCmp2 o1 o2 (ev2 a).r.v (ev2 b).r.v (ev2 c).r.v)
  | .isc ng a c => mkR (mIs ng c (pkO a (ev2 a).r))
  | .ite t a b => ⟨(ev2 t).t.bind fun k => match k with
    | true => (ev2 a).r
    | false => (ev2 b).r, (ev2 t).t.bind fun k => match k with
    | true => (ev2 a).t
    | false => (ev2 b).t⟩
  | .call f as => mkR (mCallE Φ f (evL as))
  | .make C as => mkR (mMake Φ C (C ++ ".__init__") (lS (evL as)))
  | .blt f as => mkR ((lP (evL as)).bind fun ds => EM.opt (bltD f ds))
  | .isi a _ ts => mkR (mIsi cx ts (pkO a (ev2 a).r))
  | .meth m a as => mkR (mMeth m a (lS (evL as)))
  | .mut m i as => mkR (mMut m i (lS (evL as)))
  | .attr a f => mkR ((pkO a (ev2 a).r).bind fun x => EM.opt ((attrD cx x f).map .d))
  | .ix a b => mkR (mIx a (ev2 a).r.v (ev2 b).r.v)
  | .cut a lo hi => mkR ((ev2 a).r.v.bind fun x => (lO (evL lo)).bind fun l => (lO (evL hi)).bind fun h => EM.opt (cutD x l h))
  | .rev a => mkR ((ev2 a).r.v.bind fun x => EM.opt (revD x))
  | .tup as => mkR ((lS (evL as)).bind fun ds => EM.opt (if ds.length ≤ 1000 then some (.d (.tup ds)) else none))
  | .lst as => mkR ((lS (evL as)).bind fun ds => EM.opt (if ds.length ≤ 1000 then some (.m (.lst ds)) else none))
  | .dct ks as => mkR ((lS (evL as)).bind fun ds => EM.opt (if ds.length = ks.length && decide (ks.length ≤ 15) && decide ks.Nodup then some (.m (.dct (ks.map Sum.inr) ds)) else none))
  | .comp e t it c own => mkR (mComp t (own.map (·.2)) (evI it) (lT (evL c)) (ev2 e).r.v)
  | .fault f as => mkR (mFault cx Φ f (lS (evL as)))
  | .faultM C as => mkR (mFaultM cx Φ (C ++ ".__init__") C (lS (evL as)))
  | .faultV i as => mkR (mFaultV cx Φ i (lS (evL as)))
  | .repr a => mkR ((pkO a (ev2 a).r).bind fun x => EM.opt ((reprD x).map fun s => .d (.str s)))
def evL : Es → Lv
  | .nil => []
  | .cons a as => (a, ev2 a) :: evL as
def evI : It → EM (Option Nat × List D)
  | .val a => mIt a (ev2 a).r.v
  | .r1 a => mR1 (ev2 a).r.v
  | .r2 a b => mR2 (ev2 a).r.v (ev2 b).r.v
  | .zip a b => mZip (ev2 a).r.v (ev2 b).r.v
  | .enum a => mEnum (ev2 a).r.v
  | .zipr a b => mZipr (ev2 a).r.v (ev2 b).r.v
end
abbrev ev (e : E) : EM R := (ev2 cx Φ e).r
abbrev evT (e : E) : EM Bool := (ev2 cx Φ e).t
abbrev pk (e : E) : EM D := pkO e (ev2 cx Φ e).r
abbrev evs (as : Es) : EM (List D) := lS (evL cx Φ as)
abbrev evr (as : Es) : EM (List R) := lR (evL cx Φ as)
mutual
/-- what an expression raises -/
def xe : E → En → Option Xc
  | .call f as => fun Γ => match evs cx Φ as Γ with
    | .ok ds _ => Φ.ex f (ds.map Sl.fr)
    | .no => xl as Γ
  | .make C as => fun Γ => match evs cx Φ as Γ with
    | .ok ds _ => Φ.ex (C ++ ".__init__") (.bo (.ins C [] []) :: ds.map Sl.fr)
    | .no => xl as Γ
  | .ix a _ => xe a
  | _ => fun _ => none
def xl : Es → En → Option Xc
  | .nil => fun _ => none
  | .cons e es => fun Γ => match (ev cx Φ e).v Γ with
    | .ok _ Γ1 => xl es Γ1
    | .no => xe e Γ
end
def xr (e : E) (Γ : En) : Fl := match xe cx Φ e Γ with
  | some c => .ex c
  | none => .no
def mRaise (C : Str) (ms : EM (List D)) : En → Fl := fun Γ => match ms Γ with
  | .ok ds _ => (match cx.exc.lookup C with
    | some ns => if ns.length = ds.length then .ex ⟨C, ns, ds⟩ else .no
    | none => .no)
  | .no => .no
mutual
def ex : S → En → Fl
  | .asg t e, Γ => match ev cx Φ e Γ with
    | .no => xr cx Φ e Γ
    | .ok r Γ1 => match asgT t r Γ1 with
      | some Γ2 => .nx Γ2
      | none => .no
  | .asgs ts es, Γ => match evr cx Φ es Γ with
    | .no => .no
    | .ok rs Γ1 => match asgTs ts rs Γ1 with
      | some Γ2 => .nx Γ2
      | none => .no
  | .put i k v, Γ => mPut i (ev cx Φ v).v (ev cx Φ k).v Γ
  | .fld i f e, Γ => mFld cx i f (ev cx Φ e).v Γ
  | .aug i op e, Γ => match ((pkV i).bind fun x => (ev cx Φ e).v.bind fun y => EM.opt (match x, y with | .int a, .int b => (binI op a b).map D.int | _, _ => none)) Γ with
    | .no => .no
    | .ok x Γ1 => match setV i (.d x) Γ1 with
      | some Γ2 => .nx Γ2
      | none => .no
  | .exp e, Γ => match ev cx Φ e Γ with
    | .no => xr cx Φ e Γ
    | .ok _ Γ1 => .nx Γ1
  | .ret e, Γ => match e.slot with
    | some i => match Γ[i]? with
      | some (some (.mu m)) => .rt (.m m) (Γ.set i none)
      | some (some (.fr d)) => .rt (.d d) Γ
      | _ => .no
    | none => match ev cx Φ e Γ with
      | .no => xr cx Φ e Γ
      | .ok r Γ1 => .rt r Γ1
  | .retN, Γ => .rt (.d .non) Γ
  | .ite c a b, Γ => match evT cx Φ c Γ with
    | .no => .no
    | .ok true Γ1 => exs a Γ1
    | .ok false Γ1 => exs b Γ1
  | .for t it b, Γ => mFor t (evI cx Φ it) (exs b) forL Γ
  | .whil c b, Γ => whL (evT cx Φ c) (exs b) cx.fuel Γ
  | .never, _ => .no
  | .raise C as, Γ => mRaise cx C (evs cx Φ as) Γ
  | .pass, Γ => .nx Γ
  | .brk, Γ => .bk Γ
  | .cont, Γ => .ct Γ
def exs : Ss → En → Fl
  | .nil, Γ => .nx Γ
  | .cons s ss, Γ => match ex s Γ with
    | .nx Γ1 => exs ss Γ1
    | f => f
end
end

structure Fn where
  ps : Nat
  n : Nat
  body : Ss
abbrev Prg := List (Str × Fn)
def Phi.of (g : Str → List Sl → Fl) : Phi := Prod.mk (fun f as => match g f as with
  | .rt r Γ => some (r, Γ)
  | .nx Γ => some (.d .non, Γ)
  | _ => none) (fun f as => match g f as with
  | .ex c => some c
  | _ => none)
/-- a def's body over its arguments -/
def runF (cx : CtxR) (P : Prg) (Φ : Phi) (f : Str) (args : List Sl) : Fl := match P.lookup f with
    | none => .no
    | some d => if args.length = d.ps then exs cx Φ d.body (args.map some ++ List.replicate (d.n - d.ps) none) else .no
def run0 (cx : CtxR) (P : Prg) : Nat → Phi
  | 0 => Prod.mk (fun _ _ => none) (fun _ _ => none)
  | n + 1 => Phi.of (runF cx P (run0 cx P n))
/-- the same, closed -/
@[irreducible] def run (cx : CtxR) (P : Prg) (n : Nat) : Phi := run0 cx P n
theorem run_def (cx : CtxR) (P : Prg) (n : Nat) : run cx P n = run0 cx P n := by unfold run; rfl
theorem run_succ (cx : CtxR) (P : Prg) (n : Nat) : run cx P (n + 1) = Phi.of (runF cx P (run cx P n)) := by rw [run_def, run_def]; rfl
end Rf

set_option Elab.async false
set_option linter.all false
set_option maxRecDepth 100000
set_option maxHeartbeats 4000000
namespace Rf
open PySem PySem.Spec PyProof.Rows L2
/-! ### a program as the head's hook asks of it: early, where the kernel's memory is small -/
def baseTys : List String := ["NoneType", "bool", "int", "str", "tuple", "list", "dict"]
def askTys : List String := ["int", "bool", "str", "list", "tuple", "dict"]
def ownB (K : PySem.W.Frag) (cx : CtxR) : Bool :=
  (cx.cls.map (·.1)).all (fun C => (He.Fa.cls C).ok K && (He.Fa.mkr C).ok K && (He.Fa.glo C).ok K && decide (PySem.W.findIn K (.ref (He.ga K C)) "__class__" = some (some (.builtin "object.__class__"))) && decide (PySem.W.mroIn K (He.ga K C) (.type "object") = some true)
    && baseTys.all (fun T => decide (PySem.W.kitOne K (.type T) (.ref (He.ga K C)) = some false)) && askTys.all (fun T => decide (PySem.W.kitOne K (.ref (He.ga K C)) (.type T) = some false))
    && (cx.cls.map (·.1)).all (fun C' => decide (PySem.W.kitOne K (.ref (He.ga K C)) (.ref (He.ga K C')) = some (decide (C = C'))))) &&
  (cx.cls.isEmpty || (decide (PySem.W.specialIn K (.builtin "object.__class__") "__get__" = some (some (.builtin "getset_descriptor.__get__"))) && decide (PySem.W.takesIn K (.builtin "object.__class__") = some true))) &&
  cx.cls.all (fun p => p.2.all fun f => decide (PySem.W.findIn K (.ref (He.ga K p.1)) f = some none))
def frees : List Str := ["len", "int", "abs", "max", "min", "sum", "all", "any", "list", "tuple", "sorted", "set", "range", "zip", "enumerate", "isinstance", "bool", "str", "dict", "repr"]
structure PDef where
  f : Str
  x : Str
  qual : Str
  params : Arguments
  body : List Stmt
  scope : Scope
  at_ : Str × Option Str
  ps : List Str
  N : List Str
  fn : Fn
structure FtD where
  g : PDef
  k : PDef
  m : PDef
  /-- how many rows the first one has -/
  n : Nat
/-- the class of an error, by the written part -/
def excB (K : PySem.W.Frag) (D : Addr) : Bool := decide (PySem.W.findIn K (.ref D) "__getattribute__" = some (some (.builtin "BaseException.__getattribute__"))) && decide (PySem.W.findIn K (.ref D) "__getattr__" = some none) && decide (PySem.W.subIn K (.ref D) (.type "BaseException") = some true) && PySem.W.hasDictIn K D &&
  decide (PySem.W.findIn K (.ref D) "__class__" = some (some (.builtin "object.__class__"))) && decide (PySem.W.specialIn K (.builtin "object.__class__") "__get__" = some (some (.builtin "getset_descriptor.__get__"))) && decide (PySem.W.takesIn K (.builtin "object.__class__") = some true) && decide (PySem.W.mroIn K D (.type "object") = some true) && (PySem.W.clsIn K D).isSome
def gloB (K : PySem.W.Frag) (x : Str) : Bool := decide (PySem.W.nsIn K mainGlobals x = some (some (.ref (He.ga K x))))
/-- by the written part -/
def FtD.exB (cx : CtxR) (K : PySem.W.Frag) : Bool := gloB K "StretchError" && gloB K "_law_fault" && gloB K "_law_kinds" && gloB K "_law_more_kinds" && (cx.kinds.all fun r => gloB K r.1) &&
  cx.exc.all fun e => excB K (He.ga K e.1) && (e.2.all fun f => decide (PySem.W.findIn K (.ref (He.ga K e.1)) f = some none)) && decide e.2.Nodup && (cx.kinds.all fun r => decide (PySem.W.kitOne K (.ref (He.ga K e.1)) (.ref (He.ga K r.1)) = some (decide (r.1 = e.1)))) &&
    decide (PySem.W.kitOne K (.ref (He.ga K e.1)) (.type "ValueError") = some true) && decide (PySem.W.exmOne K (.ref (He.ga K e.1)) (.ref (He.ga K "StretchError")) = some true)
/-- an error class that is raised: its fields, its __init__ -/
structure EDef where
  c : Str
  ns : List Str
  d : PDef
structure PC where
  cx : CtxR
  gcd : Bool
  fns : List Str
  mks : List Str
  P : List PDef
  exs : List EDef
  /-- how errors are told; the defs that make lambdas -/
  ft : Option FtD
  lam : List Str
def PDef.dd (d : PDef) : He.DefD := ⟨d.at_, d.x, d.qual, d.params, d.body, d.scope, [], []⟩
def FtD.all (d : FtD) : List PDef := [d.g, d.k, d.m]
def PC.ftl (p : PC) : List PDef := match p.ft with
  | some d => d.all
  | none => []
def PC.lamP (p : PC) : List PDef := p.P.filter fun d => p.lam.contains d.f
def PC.tf (p : PC) : List He.Defn := p.lamP.map (·.at_)
def PC.fa (p : PC) : List He.Fa := ((frees ++ [("ValueError" : Str)]).map He.Fa.free) ++ (p.fns.map He.Fa.glo ++ p.cx.nums.map fun q => He.Fa.int q.1 q.2)
def PC.dds (p : PC) : List He.DefD := (p.P ++ (p.ftl ++ p.exs.map (·.d))).map PDef.dd
/-- an error class that is raised, by the written part -/
def oexB (K : PySem.W.Frag) (C : Addr) : Bool := (match K.lookup C with
    | some ⟨.type t, _, .cls c, sl⟩ => decide (t = "type") && (match c.mro with
      | .ref C' :: bm => decide (C' = C) && PySem.HandSPX.refsVE bm
      | _ => false) && c.hasDict && !c.hasDel && (match sl.toList with
      | [_, _, _, _, some (.builtin id), _] => decide (id = "ValueError.__new__")
      | _ => false)
    | _ => false) && decide (PySem.W.findIn K (.ref C) "__setattr__" = some (some (.builtin "object.__setattr__"))) && decide (PySem.W.subIn K (.ref C) (.type "BaseException") = some true) && decide (PySem.W.typeIn K (.ref C) = some (.type "type")) && PySem.W.keepIn K (.ref C)
def EDef.exB (K : PySem.W.Frag) (e : EDef) : Bool := oexB K (He.ga K e.c) && gloB K e.c && (e.ns.all fun f => decide (PySem.W.findIn K (.ref (He.ga K e.c)) f = some none)) && decide (PySem.W.findIn K (.ref (He.ga K e.c)) "__init__" = some (some (.ref (He.ma K (He.ga K e.c) "__init__")))) && decide (PySem.W.typeIn K (.ref (He.ma K (He.ga K e.c) "__init__")) = some (.type "function"))
def PC.ex (p : PC) (K : PySem.W.Frag) : Bool := ownB K p.cx && (!p.gcd || decide (PySem.W.nsIn K mainGlobals "gcd" = some (some (.builtin "math.gcd")))) && (K.lookup sysModules).isSome && p.exs.all (EDef.exB K) && (p.ft.isNone || FtD.exB p.cx K) && decide ((p.lamP.map fun d => (He.cT K d.at_).2).Nodup)
/-- a function's code and defaults, a class's names, a dict's values: all that the checks ask for, with no search for what is twice there -/
def refsS (o : Obj) : List Addr := match o.data with
  | .func fd => He.refV fd.code ++ (He.refV fd.defaults ++ He.refV fd.kwdefaults)
  | .cls cd => [cd.ns]
  | .dict es _ => es.toList.flatMap fun e => He.refV e.val
  | _ => []
def growS (g : Addr → Option Obj) (as : List Addr) : List Addr := as.flatMap fun a => match g a with
  | some o => refsS o
  | none => []
def asS (g : Addr → Option Obj) : Nat → List Addr → List Addr
  | 0, as => as
  | n + 1, as => as ++ asS g n (growS g as)
def fragS (n : Nat) (g : Addr → Option Obj) : PySem.W.Frag := He.frT g (sysModules :: asS g n [mainGlobals])
def obsK (n : Nat) (fa : List He.Fa) (fn : List He.DefD) (tf : List He.Defn) (ex : PySem.W.Frag → Bool) (g : Addr → Option Obj) : He.AlX := (He.obsT fa fn [] (fragS n g), ex (fragS n g) && He.tabsB g tf (fragS n g))
theorem says_of {n : Nat} {fa : List He.Fa} {fn : List He.DefD} {tf : List He.Defn} {ex : PySem.W.Frag → Bool} {w : World} {h : Heap} (e : obsK n fa fn tf ex h.get? = He.valX fn [] w) : He.SaysX fa fn [] tf ex w h (fragS n h.get?) := by
  have two := Bool.and_eq_true_iff.mp (show (ex (fragS n h.get?) && He.tabsB h.get? tf (fragS n h.get?)) = true from congrArg Prod.snd e)
  have each : ∀ p ∈ tf, PySem.W.codeHdIn (fragS n h.get?) (He.cT (fragS n h.get?) p).1 (He.cT (fragS n h.get?) p).2 = true ∧ ∃ o, h.get? (He.cT (fragS n h.get?) p).2 = some o ∧ He.emptyTab o = true := fun p hp => by
    have q := List.all_eq_true.mp two.2 p hp
    rw [Bool.and_eq_true] at q
    refine ⟨q.1, ?_⟩
    have q2 := q.2
    split at q2
    · rename_i o ho
      exact ⟨o, ho, q2⟩
    · cases q2
  refine ⟨congrArg Prod.fst e, two.1, fun p hp => (each p hp).1, fun p hp => ?_, fun p hp => ?_⟩
  · obtain ⟨_, o, a, b⟩ := each p hp
    exact He.frT_none a b
  · obtain ⟨_, o, a, b⟩ := each p hp
    rw [a, He.emptyTab_eq b]
def hookK (n : Nat) (fa : List He.Fa) (fn : List He.DefD) (tf : List He.Defn) (ex : PySem.W.Frag → Bool) : PySem.W.Hook :=
  { α := He.AlX, obs := fun s => obsK n fa fn tf ex s.heap.get?, val := fun w => He.valX fn [] w, says := fun w h => ∃ K : PySem.W.Frag, K.In h ∧ He.SaysX fa fn [] tf ex w h K,
    of := fun _ _ e => ⟨_, He.frT_in, says_of e⟩,
    keeps := fun _ _ _ ⟨K, kin, c⟩ stay => ⟨K, PySem.W.Frag.In.keeps kin stay, c.t, c.more, c.hd, c.out, fun p hp => stay _ _ (c.empty p hp)⟩ }
theorem obsK_eq {n : Nat} {fa : List He.Fa} {fn : List He.DefD} {tf : List He.Defn} {ex : PySem.W.Frag → Bool} {g : Addr → Option Obj} {s : Shared} (h : ∀ a, g a = s.heap.get? a) : obsK n fa fn tf ex g = (hookK n fa fn tf ex).obs s := by
  obtain rfl : g = s.heap.get? := funext h
  rfl
end Rf

set_option Elab.async false
set_option linter.all false
set_option maxRecDepth 100000
set_option maxHeartbeats 0
namespace RfL
open PySem PySem.Spec PyProof.Rows L2 Rf
def d_is_integer : Fn := ⟨1, 1, (.cons (.ret (.bop true (.cons (.isi (.var 0) true [.int]) (.cons (.nt (.isi (.var 0) true [.bool])) .nil)))) .nil)⟩
def d_is_ratio : Fn := ⟨1, 1, (.cons (.ite (.nt (.isi (.var 0) true [.tuple])) (.cons (.ret (.call "is_integer" (.cons (.var 0) .nil))) .nil) .nil) (.cons (.ite (.bop false (.cons (.cmp .ne (.blt .len (.cons (.var 0) .nil)) (.int 2)) (.cons (.nt (.call "is_integer" (.cons (.ix (.var 0) (.int 0)) .nil))) (.cons (.nt (.call "is_integer" (.cons (.ix (.var 0) (.int 1)) .nil))) .nil)))) (.cons (.ret (.bl false)) .nil) .nil) (.cons (.ret (.bop true (.cons (.cmp .gt (.ix (.var 0) (.int 1)) (.int 1)) (.cons (.cmp .eq (.blt .gcd (.cons (.ix (.var 0) (.int 0)) (.cons (.ix (.var 0) (.int 1)) .nil))) (.int 1)) .nil)))) .nil)))⟩
def d_pair : Fn := ⟨1, 1, (.cons (.ret (.ite (.isi (.var 0) true [.int]) (.tup (.cons (.var 0) (.cons (.int 1) .nil))) (.var 0))) .nil)⟩
def d_in_lowest : Fn := ⟨2, 3, (.cons (.asg (.var 2) (.ite (.cmp .gt (.var 1) (.int 0)) (.blt .gcd (.cons (.var 0) (.cons (.var 1) .nil))) (.neg (.blt .gcd (.cons (.var 0) (.cons (.var 1) .nil)))))) (.cons (.ret (.ite (.cmp .eq (.var 1) (.var 2)) (.bin .fdiv (.var 0) (.var 2)) (.tup (.cons (.bin .fdiv (.var 0) (.var 2)) (.cons (.bin .fdiv (.var 1) (.var 2)) .nil))))) .nil))⟩
def d_ratio : Fn := ⟨2, 2, (.cons (.ite (.nt (.call "is_integer" (.cons (.var 0) .nil))) (.cons (.raise "BadNumber" (.cons (.str "top") (.cons (.var 0) .nil))) .nil) .nil) (.cons (.ite (.bop false (.cons (.nt (.call "is_integer" (.cons (.var 1) .nil))) (.cons (.cmp .eq (.var 1) (.int 0)) .nil))) (.cons (.raise "BadNumber" (.cons (.str "bottom") (.cons (.var 1) .nil))) .nil) .nil) (.cons (.ret (.call "in_lowest" (.cons (.var 0) (.cons (.var 1) .nil)))) .nil)))⟩
def d_need_ratios : Fn := ⟨2, 2, (.cons (.ite (.nt (.call "is_ratio" (.cons (.var 0) .nil))) (.cons (.raise "BadNumber" (.cons (.str "one") (.cons (.var 0) .nil))) .nil) .nil) (.cons (.ite (.nt (.call "is_ratio" (.cons (.var 1) .nil))) (.cons (.raise "BadNumber" (.cons (.str "other") (.cons (.var 1) .nil))) .nil) .nil) .nil))⟩
def d_plus : Fn := ⟨2, 2, (.cons (.exp (.call "need_ratios" (.cons (.var 0) (.cons (.var 1) .nil)))) (.cons (.ret (.call "added" (.cons (.var 0) (.cons (.var 1) .nil)))) .nil))⟩
def d_added : Fn := ⟨2, 6, (.cons (.ite (.bop true (.cons (.isi (.var 0) true [.int]) (.cons (.isi (.var 1) true [.int]) .nil))) (.cons (.ret (.bin .add (.var 0) (.var 1))) .nil) .nil) (.cons (.asgs [.tup [.var 2, .var 3], .tup [.var 4, .var 5]] (.cons (.call "pair" (.cons (.var 0) .nil)) (.cons (.call "pair" (.cons (.var 1) .nil)) .nil))) (.cons (.ret (.call "in_lowest" (.cons (.bin .add (.bin .mul (.var 2) (.var 5)) (.bin .mul (.var 4) (.var 3))) (.cons (.bin .mul (.var 3) (.var 5)) .nil)))) .nil)))⟩
def d_minus : Fn := ⟨2, 2, (.cons (.exp (.call "need_ratios" (.cons (.var 0) (.cons (.var 1) .nil)))) (.cons (.ret (.call "added" (.cons (.var 0) (.cons (.call "opposite" (.cons (.var 1) .nil)) .nil)))) .nil))⟩
def d_opposite : Fn := ⟨1, 1, (.cons (.ret (.ite (.isi (.var 0) true [.int]) (.neg (.var 0)) (.tup (.cons (.neg (.ix (.var 0) (.int 0))) (.cons (.ix (.var 0) (.int 1)) .nil))))) .nil)⟩
def d_times : Fn := ⟨2, 2, (.cons (.exp (.call "need_ratios" (.cons (.var 0) (.cons (.var 1) .nil)))) (.cons (.ret (.call "multiplied" (.cons (.var 0) (.cons (.var 1) .nil)))) .nil))⟩
def d_multiplied : Fn := ⟨2, 6, (.cons (.ite (.bop true (.cons (.isi (.var 0) true [.int]) (.cons (.isi (.var 1) true [.int]) .nil))) (.cons (.ret (.bin .mul (.var 0) (.var 1))) .nil) .nil) (.cons (.asgs [.tup [.var 2, .var 3], .tup [.var 4, .var 5]] (.cons (.call "pair" (.cons (.var 0) .nil)) (.cons (.call "pair" (.cons (.var 1) .nil)) .nil))) (.cons (.ret (.call "in_lowest" (.cons (.bin .mul (.var 2) (.var 4)) (.cons (.bin .mul (.var 3) (.var 5)) .nil)))) .nil)))⟩
def d_over : Fn := ⟨2, 2, (.cons (.exp (.call "need_ratios" (.cons (.var 0) (.cons (.var 1) .nil)))) (.cons (.ite (.cmp .eq (.var 1) (.int 0)) (.cons (.raise "BadNumber" (.cons (.str "other") (.cons (.var 1) .nil))) .nil) .nil) (.cons (.ret (.call "divided" (.cons (.var 0) (.cons (.var 1) .nil)))) .nil)))⟩
def d_divided : Fn := ⟨2, 6, (.cons (.asgs [.tup [.var 2, .var 3], .tup [.var 4, .var 5]] (.cons (.call "pair" (.cons (.var 0) .nil)) (.cons (.call "pair" (.cons (.var 1) .nil)) .nil))) (.cons (.ret (.call "in_lowest" (.cons (.bin .mul (.var 2) (.var 5)) (.cons (.bin .mul (.var 3) (.var 4)) .nil)))) .nil))⟩
def d_sign : Fn := ⟨1, 1, (.cons (.ite (.nt (.call "is_ratio" (.cons (.var 0) .nil))) (.cons (.raise "BadNumber" (.cons (.str "one") (.cons (.var 0) .nil))) .nil) .nil) (.cons (.ret (.call "sign_of" (.cons (.var 0) .nil))) .nil))⟩
def d_sign_of : Fn := ⟨1, 2, (.cons (.asg (.var 1) (.ite (.isi (.var 0) true [.int]) (.var 0) (.ix (.var 0) (.int 0)))) (.cons (.ret (.ite (.cmp .gt (.var 1) (.int 0)) (.int 1) (.ite (.cmp .lt (.var 1) (.int 0)) (.neg (.int 1)) (.int 0)))) .nil))⟩
def d_below : Fn := ⟨2, 2, (.cons (.exp (.call "need_ratios" (.cons (.var 0) (.cons (.var 1) .nil)))) (.cons (.ret (.call "is_below" (.cons (.var 0) (.cons (.var 1) .nil)))) .nil))⟩
def d_is_below : Fn := ⟨2, 6, (.cons (.asgs [.tup [.var 2, .var 3], .tup [.var 4, .var 5]] (.cons (.call "pair" (.cons (.var 0) .nil)) (.cons (.call "pair" (.cons (.var 1) .nil)) .nil))) (.cons (.ret (.cmp .lt (.bin .mul (.var 2) (.var 5)) (.bin .mul (.var 4) (.var 3)))) .nil))⟩
def d_dot : Fn := ⟨2, 3, (.cons (.ite (.bop false (.cons (.nt (.isi (.var 0) false [.list, .tuple])) (.cons (.nt (.blt .all (.cons (.comp (.call "is_ratio" (.cons (.var 2) .nil)) (.var 2) (.val (.var 0)) .nil [("one", 2)]) .nil))) .nil))) (.cons (.raise "BadRow" (.cons (.str "row") (.cons (.var 0) .nil))) .nil) .nil) (.cons (.ite (.bop false (.cons (.nt (.isi (.var 1) false [.list, .tuple])) (.cons (.nt (.blt .all (.cons (.comp (.call "is_ratio" (.cons (.var 2) .nil)) (.var 2) (.val (.var 1)) .nil [("one", 2)]) .nil))) .nil))) (.cons (.raise "BadRow" (.cons (.str "other") (.cons (.var 1) .nil))) .nil) .nil) (.cons (.ite (.cmp .ne (.blt .len (.cons (.var 0) .nil)) (.blt .len (.cons (.var 1) .nil))) (.cons (.raise "Unlike" (.cons (.str "other") .nil)) .nil) .nil) (.cons (.ret (.call "summed" (.cons (.var 0) (.cons (.var 1) .nil)))) .nil))))⟩
def d_summed : Fn := ⟨2, 10, (.cons (.asgs [.var 2, .var 3] (.cons (.int 0) (.cons (.int 1) .nil))) (.cons (.for (.tup [.var 4, .var 5]) (.zip (.var 0) (.var 1)) (.cons (.ite (.bop false (.cons (.cmp .eq (.var 4) (.int 0)) (.cons (.cmp .eq (.var 5) (.int 0)) .nil))) (.cons .cont .nil) .nil) (.cons (.asgs [.tup [.var 6, .var 7], .tup [.var 8, .var 9]] (.cons (.call "pair" (.cons (.var 4) .nil)) (.cons (.call "pair" (.cons (.var 5) .nil)) .nil))) (.cons (.asg (.var 7) (.bin .mul (.var 7) (.var 9))) (.cons (.ite (.cmp .eq (.var 7) (.var 3)) (.cons (.asg (.var 2) (.bin .add (.var 2) (.bin .mul (.var 6) (.var 8)))) .nil) (.cons (.asg (.var 2) (.bin .add (.bin .mul (.var 2) (.var 7)) (.bin .mul (.bin .mul (.var 6) (.var 8)) (.var 3)))) (.cons (.asg (.var 3) (.bin .mul (.var 3) (.var 7))) .nil))) .nil))))) (.cons (.ret (.call "in_lowest" (.cons (.var 2) (.cons (.var 3) .nil)))) .nil)))⟩
def d__law_pen : Fn := ⟨1, 3, (.cons (.asg (.var 1) (.int 0)) (.cons (.for (.var 2) (.val (.var 0)) (.cons (.asg (.var 1) (.bin .mod (.blt .int (.cons (.bin .add (.bin .mul (.var 1) (.int 47)) (.var 2)) .nil)) (.int 1000000007))) .nil)) (.cons (.ret (.dct ["cells", "at", "digits", "count", "fold"] (.cons (.blt .list (.cons (.var 0) .nil)) (.cons (.int 0) (.cons (.int 0) (.cons (.int 0) (.cons (.var 1) .nil))))))) .nil)))⟩
def d__law_draw : Fn := ⟨2, 5, (.cons (.put 0 (.str "count") (.bin .add (.ix (.var 0) (.str "count")) (.int 1))) (.cons (.ite (.bop true (.cons (.cmp .eq (.ix (.var 0) (.str "digits")) (.int 0)) (.cons (.cmp .lt (.ix (.var 0) (.str "at")) (.blt .len (.cons (.ix (.var 0) (.str "cells")) .nil))) .nil))) (.cons (.asg (.var 2) (.ix (.ix (.var 0) (.str "cells")) (.ix (.var 0) (.str "at")))) (.cons (.put 0 (.str "at") (.bin .add (.ix (.var 0) (.str "at")) (.int 1))) (.cons (.ite (.cmp .ge (.var 2) (.bin .pow (.int 10) (.int 18))) (.cons (.put 0 (.str "digits") (.bin .sub (.var 2) (.bin .pow (.int 10) (.int 18)))) .nil) (.cons (.put 0 (.str "fold") (.bin .mod (.blt .int (.cons (.bin .add (.bin .mul (.ix (.var 0) (.str "fold")) (.int 69069)) (.var 2)) .nil)) (.int 2147483587))) .nil)) .nil))) .nil) (.cons (.ite (.cmp .gt (.ix (.var 0) (.str "digits")) (.int 0)) (.cons (.asg (.var 3) (.bin .mod (.blt .int (.cons (.ix (.var 0) (.str "digits")) .nil)) (.var 1))) (.cons (.put 0 (.str "digits") (.bin .fdiv (.ix (.var 0) (.str "digits")) (.var 1))) (.cons (.ret (.var 3)) .nil))) .nil) (.cons (.asg (.var 4) (.bin .mod (.blt .int (.cons (.bin .add (.bin .add (.bin .mul (.ix (.var 0) (.str "fold")) (.int 48271)) (.bin .mul (.ix (.var 0) (.str "count")) (.int 7919))) (.int 13)) .nil)) (.int 2147483647))) (.cons (.asg (.var 4) (.bin .mod (.blt .int (.cons (.bin .add (.bin .add (.bin .mul (.var 4) (.var 4)) (.bin .mul (.int 31) (.var 4))) (.ix (.var 0) (.str "count"))) .nil)) (.int 2147483629))) (.cons (.put 0 (.str "fold") (.bin .mod (.blt .int (.cons (.bin .add (.bin .mul (.var 4) (.int 16807)) (.int 7)) .nil)) (.int 2147483647))) (.cons (.ret (.bin .mod (.blt .int (.cons (.bin .fdiv (.var 4) (.int 64)) .nil)) (.var 1))) .nil)))))))⟩
def d__law_pick : Fn := ⟨2, 2, (.cons (.ret (.ix (.var 1) (.call "_law_draw" (.cons (.var 0) (.cons (.blt .len (.cons (.var 1) .nil)) .nil))))) .nil)⟩
def d__law_is : Fn := ⟨2, 3, (.cons (.ite (.isi (.var 1) true [.tuple]) (.cons (.ite (.bop false (.cons (.nt (.isi (.var 0) true [.tuple])) (.cons (.cmp .ne (.blt .len (.cons (.var 0) .nil)) (.blt .len (.cons (.var 1) .nil))) .nil))) (.cons (.ret (.bl false)) .nil) .nil) (.cons (.ret (.cmp .eq (.comp (.var 2) (.var 2) (.r1 (.blt .len (.cons (.var 1) .nil))) (.cons (.nt (.call "_law_is" (.cons (.ix (.var 0) (.var 2)) (.cons (.ix (.var 1) (.var 2)) .nil)))) .nil) [("at", 2)]) (.lst .nil))) .nil)) .nil) (.cons (.ite (.isc false (.var 1) none) (.cons (.ret (.isc false (.var 0) none)) .nil) .nil) (.cons (.ite (.isc false (.var 1) (some true)) (.cons (.ret (.isc false (.var 0) (some true))) .nil) .nil) (.cons (.ite (.isc false (.var 1) (some false)) (.cons (.ret (.isc false (.var 0) (some false))) .nil) .nil) (.cons (.ite (.isi (.var 1) true [.str]) (.cons (.ret (.bop true (.cons (.isi (.var 0) true [.str]) (.cons (.cmp .eq (.var 0) (.var 1)) .nil)))) .nil) .nil) (.cons (.ret (.bop true (.cons (.isi (.var 0) true [.int]) (.cons (.nt (.isi (.var 0) true [.bool])) (.cons (.cmp .eq (.var 0) (.var 1)) .nil))))) .nil))))))⟩
def d__law_says : Fn := ⟨2, 2, (.cons (.ret (.ite (.var 1) (.isc false (.var 0) (some true)) (.isc false (.var 0) (some false)))) .nil)⟩
def d__law_divisor : Fn := ⟨2, 2, (.cons (.asgs [.var 0, .var 1] (.cons (.blt .abs (.cons (.var 0) .nil)) (.cons (.blt .abs (.cons (.var 1) .nil)) .nil))) (.cons (.whil (.cmp .ne (.var 1) (.int 0)) (.cons (.asgs [.var 0, .var 1] (.cons (.var 1) (.cons (.bin .mod (.blt .int (.cons (.var 0) .nil)) (.var 1)) .nil))) .nil)) (.cons (.ret (.var 0)) .nil)))⟩
def d__law_low : Fn := ⟨2, 3, (.cons (.asg (.var 2) (.call "_law_divisor" (.cons (.var 0) (.cons (.var 1) .nil)))) (.cons (.ite (.cmp .lt (.var 1) (.int 0)) (.cons (.asg (.var 2) (.neg (.var 2))) .nil) .nil) (.cons (.ret (.ite (.cmp .eq (.var 1) (.var 2)) (.bin .fdiv (.var 0) (.var 2)) (.tup (.cons (.bin .fdiv (.var 0) (.var 2)) (.cons (.bin .fdiv (.var 1) (.var 2)) .nil))))) .nil)))⟩
def d__law_pair : Fn := ⟨1, 1, (.cons (.ret (.ite (.isi (.var 0) true [.int]) (.tup (.cons (.var 0) (.cons (.int 1) .nil))) (.var 0))) .nil)⟩
def d__law_plus : Fn := ⟨2, 4, (.cons (.asgs [.var 2, .var 3] (.cons (.call "_law_pair" (.cons (.var 0) .nil)) (.cons (.call "_law_pair" (.cons (.var 1) .nil)) .nil))) (.cons (.ret (.call "_law_low" (.cons (.bin .add (.bin .mul (.ix (.var 2) (.int 0)) (.ix (.var 3) (.int 1))) (.bin .mul (.ix (.var 3) (.int 0)) (.ix (.var 2) (.int 1)))) (.cons (.bin .mul (.ix (.var 2) (.int 1)) (.ix (.var 3) (.int 1))) .nil)))) .nil))⟩
def d__law_opposite : Fn := ⟨1, 1, (.cons (.ret (.ite (.isi (.var 0) true [.int]) (.neg (.var 0)) (.tup (.cons (.neg (.ix (.var 0) (.int 0))) (.cons (.ix (.var 0) (.int 1)) .nil))))) .nil)⟩
def d__law_minus : Fn := ⟨2, 2, (.cons (.ret (.call "_law_plus" (.cons (.var 0) (.cons (.call "_law_opposite" (.cons (.var 1) .nil)) .nil)))) .nil)⟩
def d__law_times : Fn := ⟨2, 4, (.cons (.asgs [.var 2, .var 3] (.cons (.call "_law_pair" (.cons (.var 0) .nil)) (.cons (.call "_law_pair" (.cons (.var 1) .nil)) .nil))) (.cons (.ret (.call "_law_low" (.cons (.bin .mul (.ix (.var 2) (.int 0)) (.ix (.var 3) (.int 0))) (.cons (.bin .mul (.ix (.var 2) (.int 1)) (.ix (.var 3) (.int 1))) .nil)))) .nil))⟩
def d__law_over : Fn := ⟨2, 4, (.cons (.asgs [.var 2, .var 3] (.cons (.call "_law_pair" (.cons (.var 0) .nil)) (.cons (.call "_law_pair" (.cons (.var 1) .nil)) .nil))) (.cons (.ret (.call "_law_low" (.cons (.bin .mul (.ix (.var 2) (.int 0)) (.ix (.var 3) (.int 1))) (.cons (.bin .mul (.ix (.var 2) (.int 1)) (.ix (.var 3) (.int 0))) .nil)))) .nil))⟩
def d__law_sign : Fn := ⟨1, 2, (.cons (.asg (.var 1) (.ix (.call "_law_pair" (.cons (.var 0) .nil)) (.int 0))) (.cons (.ret (.bin .sub (.blt .int (.cons (.cmp .gt (.var 1) (.int 0)) .nil)) (.blt .int (.cons (.cmp .lt (.var 1) (.int 0)) .nil)))) .nil))⟩
def d__law_less : Fn := ⟨2, 4, (.cons (.asgs [.var 2, .var 3] (.cons (.call "_law_pair" (.cons (.var 0) .nil)) (.cons (.call "_law_pair" (.cons (.var 1) .nil)) .nil))) (.cons (.ret (.cmp .lt (.bin .mul (.ix (.var 2) (.int 0)) (.ix (.var 3) (.int 1))) (.bin .mul (.ix (.var 3) (.int 0)) (.ix (.var 2) (.int 1))))) .nil))⟩
def d__law_dot : Fn := ⟨2, 9, (.cons (.asgs [.var 2, .var 3] (.cons (.int 0) (.cons (.int 1) .nil))) (.cons (.for (.tup [.var 4, .var 5]) (.zip (.var 0) (.var 1)) (.cons (.asgs [.var 6, .var 7] (.cons (.call "_law_pair" (.cons (.var 4) .nil)) (.cons (.call "_law_pair" (.cons (.var 5) .nil)) .nil))) (.cons (.asg (.var 8) (.bin .mul (.ix (.var 6) (.int 1)) (.ix (.var 7) (.int 1)))) (.cons (.ite (.cmp .eq (.var 8) (.var 3)) (.cons (.asg (.var 2) (.bin .add (.var 2) (.bin .mul (.ix (.var 6) (.int 0)) (.ix (.var 7) (.int 0))))) .nil) (.cons (.asgs [.var 2, .var 3] (.cons (.bin .add (.bin .mul (.var 2) (.var 8)) (.bin .mul (.bin .mul (.ix (.var 6) (.int 0)) (.ix (.var 7) (.int 0))) (.var 3))) (.cons (.bin .mul (.var 3) (.var 8)) .nil))) .nil)) .nil)))) (.cons (.ret (.call "_law_low" (.cons (.var 2) (.cons (.var 3) .nil)))) .nil)))⟩
def d__law_is_list : Fn := ⟨1, 1, (.cons (.ret (.isi (.var 0) false [.list, .tuple])) .nil)⟩
def d__law_is_ratio : Fn := ⟨1, 1, (.cons (.ite (.isi (.var 0) true [.tuple]) (.cons (.ite (.bop false (.cons (.cmp .ne (.blt .len (.cons (.var 0) .nil)) (.int 2)) (.cons (.nt (.call "_law_is_whole" (.cons (.ix (.var 0) (.int 0)) .nil))) (.cons (.nt (.call "_law_is_whole" (.cons (.ix (.var 0) (.int 1)) .nil))) .nil)))) (.cons (.ret (.bl false)) .nil) .nil) (.cons (.ret (.bop true (.cons (.cmp .gt (.ix (.var 0) (.int 1)) (.int 1)) (.cons (.cmp .eq (.call "_law_divisor" (.cons (.ix (.var 0) (.int 0)) (.cons (.ix (.var 0) (.int 1)) .nil))) (.int 1)) .nil)))) .nil)) .nil) (.cons (.ret (.call "_law_is_whole" (.cons (.var 0) .nil))) .nil))⟩
def d__law_is_whole : Fn := ⟨1, 1, (.cons (.ret (.bop true (.cons (.isi (.var 0) true [.int]) (.cons (.nt (.isi (.var 0) true [.bool])) .nil)))) .nil)⟩
def d__law_is_any_row : Fn := ⟨2, 3, (.cons (.ite (.bop false (.cons (.nt (.call "_law_is_list" (.cons (.var 0) .nil))) (.cons (.cmp .ne (.blt .len (.cons (.var 0) .nil)) (.var 1)) .nil))) (.cons (.ret (.bl false)) .nil) .nil) (.cons (.ret (.cmp .eq (.comp (.var 2) (.var 2) (.val (.var 0)) (.cons (.nt (.call "_law_is_ratio" (.cons (.var 2) .nil))) .nil) [("one", 2)]) (.lst .nil))) .nil))⟩
def d__law_number : Fn := ⟨2, 2, (.cons (.ite (.cmp .eq (.var 1) (.int 0)) (.cons (.ret (.bin .sub (.call "_law_draw" (.cons (.var 0) (.cons (.int 7) .nil))) (.int 3))) .nil) .nil) (.cons (.ite (.cmp .eq (.var 1) (.int 1)) (.cons (.ret (.call "_law_low" (.cons (.bin .sub (.call "_law_draw" (.cons (.var 0) (.cons (.int 19) .nil))) (.int 9)) (.cons (.bin .add (.int 1) (.call "_law_draw" (.cons (.var 0) (.cons (.int 6) .nil)))) .nil)))) .nil) .nil) (.cons (.ite (.cmp .eq (.var 1) (.int 2)) (.cons (.ret (.call "_law_low" (.cons (.bin .sub (.call "_law_draw" (.cons (.var 0) (.cons (.int 1999) .nil))) (.int 999)) (.cons (.bin .add (.int 1) (.call "_law_draw" (.cons (.var 0) (.cons (.int 97) .nil)))) .nil)))) .nil) .nil) (.cons (.ret (.call "_law_low" (.cons (.bin .mul (.bin .sub (.int 1) (.bin .mul (.int 2) (.call "_law_draw" (.cons (.var 0) (.cons (.int 2) .nil))))) (.call "_law_wide" (.cons (.var 0) (.cons (.int 40) .nil)))) (.cons (.bin .add (.int 1) (.call "_law_wide" (.cons (.var 0) (.cons (.int 39) .nil)))) .nil)))) .nil))))⟩
def d__law_wide : Fn := ⟨2, 5, (.cons (.asgs [.var 2, .var 3] (.cons (.int 0) (.cons (.int 1) .nil))) (.cons (.for (.var 4) (.r1 (.bin .fdiv (.bin .add (.var 1) (.int 5)) (.int 6))) (.cons (.asg (.var 2) (.bin .add (.bin .mul (.var 2) (.bin .pow (.int 10) (.int 6))) (.call "_law_draw" (.cons (.var 0) (.cons (.bin .pow (.int 10) (.int 6)) .nil))))) .nil)) (.cons (.for (.var 4) (.r1 (.var 1)) (.cons (.asg (.var 3) (.bin .mul (.var 3) (.int 10))) .nil)) (.cons (.ret (.bin .mod (.blt .int (.cons (.var 2) .nil)) (.var 3))) .nil))))⟩
def d__law_size : Fn := ⟨1, 1, (.cons (.ret (.call "_law_pick" (.cons (.var 0) (.cons (.lst (.cons (.int 0) (.cons (.int 0) (.cons (.int 0) (.cons (.int 1) (.cons (.int 1) (.cons (.int 2) .nil))))))) .nil)))) .nil)⟩
def d__law_row : Fn := ⟨3, 4, (.cons (.ret (.blt .tuple (.cons (.comp (.ite (.cmp .gt (.call "_law_draw" (.cons (.var 0) (.cons (.int 4) .nil))) (.int 0)) (.call "_law_number" (.cons (.var 0) (.cons (.var 2) .nil))) (.int 0)) (.var 3) (.r1 (.var 1)) .nil [("at", 3)]) .nil))) .nil)⟩
def d__law_odd : Fn := ⟨1, 1, (.cons (.ret (.call "_law_pick" (.cons (.var 0) (.cons (.lst (.cons .non (.cons (.bl true) (.cons (.bl false) (.cons (.str "1") (.cons (.str "") (.cons (.tup (.cons (.int 1) (.cons (.int 1) .nil))) (.cons (.tup (.cons (.int 2) (.cons (.int 4) .nil))) (.cons (.tup (.cons (.int 1) (.cons (.int 0) .nil))) (.cons (.tup (.cons (.int 1) (.cons (.neg (.int 2)) .nil))) (.cons (.lst (.cons (.int 1) (.cons (.int 2) .nil))) (.cons (.tup (.cons (.int 1) (.cons (.int 2) (.cons (.int 3) .nil)))) (.cons (.tup (.cons (.bl true) (.cons (.int 2) .nil))) (.cons (.tup .nil) (.cons (.tup (.cons (.int 0) (.cons (.int 3) .nil))) (.cons (.dct [] .nil) .nil)))))))))))))))) .nil)))) .nil)⟩
def d__law_bent_row : Fn := ⟨2, 4, (.cons (.asg (.var 2) (.call "_law_draw" (.cons (.var 0) (.cons (.int 4) .nil)))) (.cons (.ite (.bop true (.cons (.cmp .eq (.var 2) (.int 0)) (.cons (.cmp .gt (.blt .len (.cons (.var 1) .nil)) (.int 0)) .nil))) (.cons (.ret (.cut (.var 1) .nil (.cons (.neg (.int 1)) .nil))) .nil) .nil) (.cons (.ite (.cmp .eq (.var 2) (.int 1)) (.cons (.ret (.bin .add (.var 1) (.tup (.cons (.call "_law_draw" (.cons (.var 0) (.cons (.int 3) .nil))) .nil)))) .nil) .nil) (.cons (.ite (.bop true (.cons (.cmp .eq (.var 2) (.int 2)) (.cons (.cmp .gt (.blt .len (.cons (.var 1) .nil)) (.int 0)) .nil))) (.cons (.asg (.var 3) (.call "_law_draw" (.cons (.var 0) (.cons (.blt .len (.cons (.var 1) .nil)) .nil)))) (.cons (.ret (.bin .add (.bin .add (.cut (.var 1) .nil (.cons (.var 3) .nil)) (.tup (.cons (.call "_law_odd" (.cons (.var 0) .nil)) .nil))) (.cut (.var 1) (.cons (.bin .add (.var 3) (.int 1)) .nil) .nil))) .nil)) .nil) (.cons (.ret (.call "_law_pick" (.cons (.var 0) (.cons (.lst (.cons .non (.cons (.int 3) (.cons (.str "row") (.cons (.bl true) (.cons (.dct [] .nil) .nil)))))) .nil)))) .nil)))))⟩
def d__law_made_right : Fn := ⟨1, 6, (.cons (.asg (.var 1) (.call "_law_pick" (.cons (.var 0) (.cons (.lst (.cons (.int 1) (.cons (.neg (.int 1)) (.cons (.int 2) (.cons (.neg (.int 6)) (.cons (.bin .pow (.int 10) (.int 20)) .nil)))))) .nil)))) (.cons (.asgs [.var 2, .var 3] (.cons (.bin .sub (.call "_law_draw" (.cons (.var 0) (.cons (.int 999) .nil))) (.int 499)) (.cons (.bin .add (.int 1) (.call "_law_draw" (.cons (.var 0) (.cons (.int 99) .nil)))) .nil))) (.cons (.ite (.bop false (.cons (.nt (.call "_law_is" (.cons (.call "ratio" (.cons (.bin .mul (.var 2) (.var 1)) (.cons (.bin .mul (.var 3) (.var 1)) .nil))) (.cons (.call "_law_low" (.cons (.var 2) (.cons (.var 3) .nil))) .nil)))) (.cons (.isc true (.call "is_ratio" (.cons (.call "_law_low" (.cons (.var 2) (.cons (.var 3) .nil))) .nil)) (some true)) .nil))) (.cons (.ret (.bl false)) .nil) .nil) (.cons (.asg (.var 4) (.call "_law_pick" (.cons (.var 0) (.cons (.lst (.cons (.call "_law_odd" (.cons (.var 0) .nil)) (.cons (.call "_law_number" (.cons (.var 0) (.cons (.int 3) .nil))) (.cons (.tup (.cons (.bin .mul (.var 2) (.var 1)) (.cons (.bin .mul (.var 3) (.var 1)) .nil))) (.cons (.lst (.cons (.var 2) (.cons (.var 3) .nil))) (.cons (.var 2) .nil)))))) .nil)))) (.cons (.ite (.nt (.call "_law_says" (.cons (.call "is_ratio" (.cons (.var 4) .nil)) (.cons (.call "_law_is_ratio" (.cons (.var 4) .nil)) .nil)))) (.cons (.ret (.bl false)) .nil) .nil) (.cons (.asg (.var 5) (.call "_law_pick" (.cons (.var 0) (.cons (.lst (.cons .non (.cons (.bl true) (.cons (.str "1") (.cons (.tup (.cons (.int 1) (.cons (.int 2) .nil))) (.cons (.lst (.cons (.int 1) .nil)) .nil)))))) .nil)))) (.cons (.ite (.cmp .ne (.fault "ratio" (.cons (.var 5) (.cons (.int 0) .nil))) (.tup (.cons (.str "number") (.cons (.str "top") (.cons (.repr (.var 5)) .nil))))) (.cons (.ret (.bl false)) .nil) .nil) (.cons (.asg (.var 5) (.call "_law_pick" (.cons (.var 0) (.cons (.lst (.cons (.int 0) (.cons .non (.cons (.bl false) (.cons (.tup (.cons (.int 1) (.cons (.int 2) .nil))) .nil))))) .nil)))) (.cons (.ret (.cmp .eq (.fault "ratio" (.cons (.var 2) (.cons (.var 5) .nil))) (.tup (.cons (.str "number") (.cons (.str "bottom") (.cons (.repr (.var 5)) .nil)))))) .nil)))))))))⟩
def d__law_reckoned_right : Fn := ⟨2, 2, (.cons (.ite (.bop false (.cons (.nt (.call "_law_is" (.cons (.call "plus" (.cons (.var 0) (.cons (.var 1) .nil))) (.cons (.call "_law_plus" (.cons (.var 0) (.cons (.var 1) .nil))) .nil)))) (.cons (.nt (.call "_law_is" (.cons (.call "minus" (.cons (.var 0) (.cons (.var 1) .nil))) (.cons (.call "_law_minus" (.cons (.var 0) (.cons (.var 1) .nil))) .nil)))) .nil))) (.cons (.ret (.bl false)) .nil) .nil) (.cons (.ite (.bop false (.cons (.nt (.call "_law_is" (.cons (.call "times" (.cons (.var 0) (.cons (.var 1) .nil))) (.cons (.call "_law_times" (.cons (.var 0) (.cons (.var 1) .nil))) .nil)))) (.cons (.nt (.call "_law_says" (.cons (.call "below" (.cons (.var 0) (.cons (.var 1) .nil))) (.cons (.call "_law_less" (.cons (.var 0) (.cons (.var 1) .nil))) .nil)))) .nil))) (.cons (.ret (.bl false)) .nil) .nil) (.cons (.ite (.nt (.call "_law_is" (.cons (.call "sign" (.cons (.var 0) .nil)) (.cons (.call "_law_sign" (.cons (.var 0) .nil)) .nil)))) (.cons (.ret (.bl false)) .nil) .nil) (.cons (.ite (.cmp .eq (.var 1) (.int 0)) (.cons (.ret (.cmp .eq (.fault "over" (.cons (.var 0) (.cons (.var 1) .nil))) (.tup (.cons (.str "number") (.cons (.str "other") (.cons (.str "0") .nil)))))) .nil) .nil) (.cons (.ret (.call "_law_is" (.cons (.call "over" (.cons (.var 0) (.cons (.var 1) .nil))) (.cons (.call "_law_over" (.cons (.var 0) (.cons (.var 1) .nil))) .nil)))) .nil)))))⟩
def d__law_refused_right : Fn := ⟨2, 3, (.cons (.for (.var 2) (.val (.tup (.cons (.fnv "plus") (.cons (.fnv "minus") (.cons (.fnv "times") (.cons (.fnv "over") (.cons (.fnv "below") .nil))))))) (.cons (.ite (.cmp .ne (.faultV 2 (.cons (.var 1) (.cons (.var 1) .nil))) (.tup (.cons (.str "number") (.cons (.str "one") (.cons (.repr (.var 1)) .nil))))) (.cons (.ret (.bl false)) .nil) .nil) (.cons (.ite (.cmp .ne (.faultV 2 (.cons (.var 0) (.cons (.var 1) .nil))) (.tup (.cons (.str "number") (.cons (.str "other") (.cons (.repr (.var 1)) .nil))))) (.cons (.ret (.bl false)) .nil) .nil) .nil))) (.cons (.ret (.cmp .eq (.fault "sign" (.cons (.var 1) .nil)) (.tup (.cons (.str "number") (.cons (.str "one") (.cons (.repr (.var 1)) .nil)))))) .nil))⟩
def d__law_rows_right : Fn := ⟨1, 6, (.cons (.asg (.var 1) (.call "_law_draw" (.cons (.var 0) (.cons (.int 5) .nil)))) (.cons (.asgs [.var 2, .var 3] (.cons (.call "_law_row" (.cons (.var 0) (.cons (.var 1) (.cons (.call "_law_size" (.cons (.var 0) .nil)) .nil)))) (.cons (.call "_law_row" (.cons (.var 0) (.cons (.var 1) (.cons (.call "_law_size" (.cons (.var 0) .nil)) .nil)))) .nil))) (.cons (.ite (.nt (.call "_law_is" (.cons (.call "dot" (.cons (.blt .list (.cons (.var 2) .nil)) (.cons (.var 3) .nil))) (.cons (.call "_law_dot" (.cons (.var 2) (.cons (.var 3) .nil))) .nil)))) (.cons (.ret (.bl false)) .nil) .nil) (.cons (.asgs [.var 4, .var 5] (.cons (.call "_law_bent_row" (.cons (.var 0) (.cons (.var 2) .nil))) (.cons (.call "_law_bent_row" (.cons (.var 0) (.cons (.var 3) .nil))) .nil))) (.cons (.ite (.bop false (.cons (.nt (.call "_law_is_list" (.cons (.var 4) .nil))) (.cons (.nt (.call "_law_is_any_row" (.cons (.var 4) (.cons (.blt .len (.cons (.var 4) .nil)) .nil)))) .nil))) (.cons (.ret (.cmp .eq (.fault "dot" (.cons (.var 4) (.cons (.var 5) .nil))) (.tup (.cons (.str "row") (.cons (.str "row") (.cons (.repr (.var 4)) .nil)))))) .nil) .nil) (.cons (.ite (.bop false (.cons (.nt (.call "_law_is_list" (.cons (.var 5) .nil))) (.cons (.nt (.call "_law_is_any_row" (.cons (.var 5) (.cons (.blt .len (.cons (.var 5) .nil)) .nil)))) .nil))) (.cons (.ret (.cmp .eq (.fault "dot" (.cons (.var 4) (.cons (.var 5) .nil))) (.tup (.cons (.str "row") (.cons (.str "other") (.cons (.repr (.var 5)) .nil)))))) .nil) .nil) (.cons (.ret (.cmp .eq (.fault "dot" (.cons (.var 4) (.cons (.var 5) .nil))) (.ite (.cmp .ne (.blt .len (.cons (.var 4) .nil)) (.blt .len (.cons (.var 5) .nil))) (.tup (.cons (.str "unlike") (.cons (.str "other") .nil))) .non))) .nil)))))))⟩
def d_law : Fn := ⟨1, 5, (.cons (.asg (.var 1) (.call "_law_pen" (.cons (.var 0) .nil))) (.cons (.for (.var 2) (.r1 (.int 4)) (.cons (.asgs [.var 3, .var 4] (.cons (.call "_law_number" (.cons (.var 1) (.cons (.call "_law_size" (.cons (.var 1) .nil)) .nil))) (.cons (.call "_law_number" (.cons (.var 1) (.cons (.call "_law_size" (.cons (.var 1) .nil)) .nil))) .nil))) (.cons (.ite (.bop false (.cons (.nt (.call "_law_made_right" (.cons (.var 1) .nil))) (.cons (.nt (.call "_law_reckoned_right" (.cons (.var 3) (.cons (.call "_law_pick" (.cons (.var 1) (.cons (.lst (.cons (.var 4) (.cons (.int 0) (.cons (.var 3) .nil)))) .nil))) .nil)))) .nil))) (.cons (.ret (.bl false)) .nil) .nil) (.cons (.ite (.bop false (.cons (.nt (.call "_law_refused_right" (.cons (.var 3) (.cons (.call "_law_odd" (.cons (.var 1) .nil)) .nil)))) (.cons (.nt (.call "_law_rows_right" (.cons (.var 1) .nil))) .nil))) (.cons (.ret (.bl false)) .nil) .nil) .nil)))) (.cons (.ret (.bl true)) .nil)))⟩
def prg0 : Prg := [("is_integer", d_is_integer), ("is_ratio", d_is_ratio), ("pair", d_pair), ("in_lowest", d_in_lowest), ("ratio", d_ratio), ("need_ratios", d_need_ratios), ("plus", d_plus), ("added", d_added), ("minus", d_minus), ("opposite", d_opposite), ("times", d_times), ("multiplied", d_multiplied)]
def prg1 : Prg := [("over", d_over), ("divided", d_divided), ("sign", d_sign), ("sign_of", d_sign_of), ("below", d_below), ("is_below", d_is_below), ("dot", d_dot), ("summed", d_summed), ("_law_pen", d__law_pen), ("_law_draw", d__law_draw), ("_law_pick", d__law_pick), ("_law_is", d__law_is)]
def prg2 : Prg := [("_law_says", d__law_says), ("_law_divisor", d__law_divisor), ("_law_low", d__law_low), ("_law_pair", d__law_pair), ("_law_plus", d__law_plus), ("_law_opposite", d__law_opposite), ("_law_minus", d__law_minus), ("_law_times", d__law_times), ("_law_over", d__law_over), ("_law_sign", d__law_sign), ("_law_less", d__law_less), ("_law_dot", d__law_dot)]
def prg3 : Prg := [("_law_is_list", d__law_is_list), ("_law_is_ratio", d__law_is_ratio), ("_law_is_whole", d__law_is_whole), ("_law_is_any_row", d__law_is_any_row), ("_law_number", d__law_number), ("_law_wide", d__law_wide), ("_law_size", d__law_size), ("_law_row", d__law_row), ("_law_odd", d__law_odd), ("_law_bent_row", d__law_bent_row), ("_law_made_right", d__law_made_right), ("_law_reckoned_right", d__law_reckoned_right)]
def prg4 : Prg := [("_law_refused_right", d__law_refused_right), ("_law_rows_right", d__law_rows_right), ("law", d_law)]
def prg : Prg := prg0 ++ prg1 ++ prg2 ++ prg3 ++ prg4
def cx_exc : List (Str × List Str) := [("BadNumber", ["what", "number"]), ("BadRow", ["what", "row"]), ("Unlike", ["what"])]
def kinds0 : List (Str × List Ki) := [("BadNumber", [.lit "number", .fld "what", .rep "number"]), ("BadRow", [.lit "row", .fld "what", .rep "row"]), ("BadTable", [.lit "table", .fld "what"]), ("BadOrder", [.lit "order", .fld "why", .rep "x", .rep "y"]), ("BadLot", [.lit "lot", .fld "what", .rep "lot"]), ("BadName", [.lit "badname", .rep "name"]), ("BadText", [.lit "text", .fld "line", .fld "word"]), ("NoThing", [.lit "thing", .fld "what", .rep "index"])]
def kinds1 : List (Str × List Ki) := [("NoName", [.lit "noname", .rep "name"]), ("TakenName", [.lit "taken", .rep "name"]), ("Unlike", [.lit "unlike", .fld "what"]), ("NotStretched", [.lit "notstretched", .fld "paper"]), ("TooMany", [.lit "many", .fld "what", .fld "many", .fld "limit"]), ("NotKept", [.lit "kept", .fld "promise", .fld "witness"]), ("NothingToUndo", [.lit "undo"]), ("NothingToRedo", [.lit "redo"])]
def cx : CtxR := ⟨[], [], 2 ^ 40, cx_exc, kinds0 ++ kinds1, ["plus", "minus", "times", "over", "below"]⟩

theorem lk_is_integer : List.lookup ("is_integer" : Str) prg = some d_is_integer := by kernel_rfl
theorem lk_is_ratio : List.lookup ("is_ratio" : Str) prg = some d_is_ratio := by kernel_rfl
theorem lk_pair : List.lookup ("pair" : Str) prg = some d_pair := by kernel_rfl
theorem lk_in_lowest : List.lookup ("in_lowest" : Str) prg = some d_in_lowest := by kernel_rfl
theorem lk_ratio : List.lookup ("ratio" : Str) prg = some d_ratio := by kernel_rfl
theorem lk_need_ratios : List.lookup ("need_ratios" : Str) prg = some d_need_ratios := by kernel_rfl
theorem lk_plus : List.lookup ("plus" : Str) prg = some d_plus := by kernel_rfl
theorem lk_added : List.lookup ("added" : Str) prg = some d_added := by kernel_rfl
theorem lk_minus : List.lookup ("minus" : Str) prg = some d_minus := by kernel_rfl
theorem lk_opposite : List.lookup ("opposite" : Str) prg = some d_opposite := by kernel_rfl
theorem lk_times : List.lookup ("times" : Str) prg = some d_times := by kernel_rfl
theorem lk_multiplied : List.lookup ("multiplied" : Str) prg = some d_multiplied := by kernel_rfl
theorem lk_over : List.lookup ("over" : Str) prg = some d_over := by kernel_rfl
theorem lk_divided : List.lookup ("divided" : Str) prg = some d_divided := by kernel_rfl
theorem lk_sign : List.lookup ("sign" : Str) prg = some d_sign := by kernel_rfl
theorem lk_sign_of : List.lookup ("sign_of" : Str) prg = some d_sign_of := by kernel_rfl
theorem lk_below : List.lookup ("below" : Str) prg = some d_below := by kernel_rfl
theorem lk_is_below : List.lookup ("is_below" : Str) prg = some d_is_below := by kernel_rfl
theorem lk_dot : List.lookup ("dot" : Str) prg = some d_dot := by kernel_rfl
theorem lk_summed : List.lookup ("summed" : Str) prg = some d_summed := by kernel_rfl
theorem lk__law_pen : List.lookup ("_law_pen" : Str) prg = some d__law_pen := by kernel_rfl
theorem lk__law_draw : List.lookup ("_law_draw" : Str) prg = some d__law_draw := by kernel_rfl
theorem lk__law_pick : List.lookup ("_law_pick" : Str) prg = some d__law_pick := by kernel_rfl
theorem lk__law_is : List.lookup ("_law_is" : Str) prg = some d__law_is := by kernel_rfl
theorem lk__law_says : List.lookup ("_law_says" : Str) prg = some d__law_says := by kernel_rfl
theorem lk__law_divisor : List.lookup ("_law_divisor" : Str) prg = some d__law_divisor := by kernel_rfl
theorem lk__law_low : List.lookup ("_law_low" : Str) prg = some d__law_low := by kernel_rfl
theorem lk__law_pair : List.lookup ("_law_pair" : Str) prg = some d__law_pair := by kernel_rfl
theorem lk__law_plus : List.lookup ("_law_plus" : Str) prg = some d__law_plus := by kernel_rfl
theorem lk__law_opposite : List.lookup ("_law_opposite" : Str) prg = some d__law_opposite := by kernel_rfl
theorem lk__law_minus : List.lookup ("_law_minus" : Str) prg = some d__law_minus := by kernel_rfl
theorem lk__law_times : List.lookup ("_law_times" : Str) prg = some d__law_times := by kernel_rfl
theorem lk__law_over : List.lookup ("_law_over" : Str) prg = some d__law_over := by kernel_rfl
theorem lk__law_sign : List.lookup ("_law_sign" : Str) prg = some d__law_sign := by kernel_rfl
theorem lk__law_less : List.lookup ("_law_less" : Str) prg = some d__law_less := by kernel_rfl
theorem lk__law_dot : List.lookup ("_law_dot" : Str) prg = some d__law_dot := by kernel_rfl
theorem lk__law_is_list : List.lookup ("_law_is_list" : Str) prg = some d__law_is_list := by kernel_rfl
theorem lk__law_is_ratio : List.lookup ("_law_is_ratio" : Str) prg = some d__law_is_ratio := by kernel_rfl
theorem lk__law_is_whole : List.lookup ("_law_is_whole" : Str) prg = some d__law_is_whole := by kernel_rfl
theorem lk__law_is_any_row : List.lookup ("_law_is_any_row" : Str) prg = some d__law_is_any_row := by kernel_rfl
theorem lk__law_number : List.lookup ("_law_number" : Str) prg = some d__law_number := by kernel_rfl
theorem lk__law_wide : List.lookup ("_law_wide" : Str) prg = some d__law_wide := by kernel_rfl
theorem lk__law_size : List.lookup ("_law_size" : Str) prg = some d__law_size := by kernel_rfl
theorem lk__law_row : List.lookup ("_law_row" : Str) prg = some d__law_row := by kernel_rfl
theorem lk__law_odd : List.lookup ("_law_odd" : Str) prg = some d__law_odd := by kernel_rfl
theorem lk__law_bent_row : List.lookup ("_law_bent_row" : Str) prg = some d__law_bent_row := by kernel_rfl
theorem lk__law_made_right : List.lookup ("_law_made_right" : Str) prg = some d__law_made_right := by kernel_rfl
theorem lk__law_reckoned_right : List.lookup ("_law_reckoned_right" : Str) prg = some d__law_reckoned_right := by kernel_rfl
theorem lk__law_refused_right : List.lookup ("_law_refused_right" : Str) prg = some d__law_refused_right := by kernel_rfl
theorem lk__law_rows_right : List.lookup ("_law_rows_right" : Str) prg = some d__law_rows_right := by kernel_rfl
theorem lk_law : List.lookup ("law" : Str) prg = some d_law := by kernel_rfl
end RfL

set_option Elab.async false
set_option linter.all false
set_option maxRecDepth 100000
set_option maxHeartbeats 0
namespace RfL
open PySem PySem.Spec PyProof.Rows L2 Rf
def top (i : Nat) : Stmt := PySem.Challenge.pw_stretchorders_k02_ratios.main.body.getD i (.Pass ⟨0, 0, 0, 0⟩)
def inCls : Stmt → List Stmt
  | .ClassDef _ _ _ b _ _ _ _ _ _ _ => b
  | _ => []
def sub (i j : Nat) : Stmt := (inCls (top i)).getD j (.Pass ⟨0, 0, 0, 0⟩)
def pd (f x qual : Str) (at_ : Str × Option Str) (st : Stmt) (ps N : List Str) (fn : Fn) : PDef := ⟨f, x, qual, defArgs st, defBody st, defScope st, at_, ps, N, fn⟩
def p_is_integer : PDef := pd "is_integer" "is_integer" "is_integer" ("is_integer", none) (top 20) ["value"] ["value"] d_is_integer
def p_is_ratio : PDef := pd "is_ratio" "is_ratio" "is_ratio" ("is_ratio", none) (top 21) ["value"] ["value"] d_is_ratio
def p_pair : PDef := pd "pair" "pair" "pair" ("pair", none) (top 22) ["number"] ["number"] d_pair
def p_in_lowest : PDef := pd "in_lowest" "in_lowest" "in_lowest" ("in_lowest", none) (top 23) ["top", "bottom"] ["top", "bottom", "by"] d_in_lowest
def p_ratio : PDef := pd "ratio" "ratio" "ratio" ("ratio", none) (top 24) ["top", "bottom"] ["top", "bottom"] d_ratio
def p_need_ratios : PDef := pd "need_ratios" "need_ratios" "need_ratios" ("need_ratios", none) (top 25) ["one", "other"] ["one", "other"] d_need_ratios
def p_plus : PDef := pd "plus" "plus" "plus" ("plus", none) (top 26) ["one", "other"] ["one", "other"] d_plus
def p_added : PDef := pd "added" "added" "added" ("added", none) (top 27) ["one", "other"] ["one", "other", "top", "bottom", "high", "low"] d_added
def p_minus : PDef := pd "minus" "minus" "minus" ("minus", none) (top 28) ["one", "other"] ["one", "other"] d_minus
def p_opposite : PDef := pd "opposite" "opposite" "opposite" ("opposite", none) (top 29) ["number"] ["number"] d_opposite
def p_times : PDef := pd "times" "times" "times" ("times", none) (top 30) ["one", "other"] ["one", "other"] d_times
def p_multiplied : PDef := pd "multiplied" "multiplied" "multiplied" ("multiplied", none) (top 31) ["one", "other"] ["one", "other", "top", "bottom", "high", "low"] d_multiplied
def p_over : PDef := pd "over" "over" "over" ("over", none) (top 32) ["one", "other"] ["one", "other"] d_over
def p_divided : PDef := pd "divided" "divided" "divided" ("divided", none) (top 33) ["one", "other"] ["one", "other", "top", "bottom", "high", "low"] d_divided
def p_sign : PDef := pd "sign" "sign" "sign" ("sign", none) (top 34) ["one"] ["one"] d_sign
def p_sign_of : PDef := pd "sign_of" "sign_of" "sign_of" ("sign_of", none) (top 35) ["number"] ["number", "top"] d_sign_of
def p_below : PDef := pd "below" "below" "below" ("below", none) (top 36) ["one", "other"] ["one", "other"] d_below
def p_is_below : PDef := pd "is_below" "is_below" "is_below" ("is_below", none) (top 37) ["one", "other"] ["one", "other", "top", "bottom", "high", "low"] d_is_below
def p_dot : PDef := pd "dot" "dot" "dot" ("dot", none) (top 38) ["row", "other"] ["row", "other", "one"] d_dot
def p_summed : PDef := pd "summed" "summed" "summed" ("summed", none) (top 39) ["row", "other"] ["row", "other", "top", "bottom", "one", "two", "high", "low", "up", "down"] d_summed
def p__law_pen : PDef := pd "_law_pen" "_law_pen" "_law_pen" ("_law_pen", none) (top 41) ["script"] ["script", "fold", "cell"] d__law_pen
def p__law_draw : PDef := pd "_law_draw" "_law_draw" "_law_draw" ("_law_draw", none) (top 42) ["pen", "many"] ["pen", "many", "cell", "digit", "blend"] d__law_draw
def p__law_pick : PDef := pd "_law_pick" "_law_pick" "_law_pick" ("_law_pick", none) (top 43) ["pen", "some"] ["pen", "some"] d__law_pick
def p__law_is : PDef := pd "_law_is" "_law_is" "_law_is" ("_law_is", none) (top 44) ["told", "due"] ["told", "due", "at"] d__law_is
def p__law_says : PDef := pd "_law_says" "_law_says" "_law_says" ("_law_says", none) (top 45) ["told", "due"] ["told", "due"] d__law_says
def p__law_divisor : PDef := pd "_law_divisor" "_law_divisor" "_law_divisor" ("_law_divisor", none) (top 46) ["one", "other"] ["one", "other"] d__law_divisor
def p__law_low : PDef := pd "_law_low" "_law_low" "_law_low" ("_law_low", none) (top 47) ["top", "bottom"] ["top", "bottom", "by"] d__law_low
def p__law_pair : PDef := pd "_law_pair" "_law_pair" "_law_pair" ("_law_pair", none) (top 48) ["number"] ["number"] d__law_pair
def p__law_plus : PDef := pd "_law_plus" "_law_plus" "_law_plus" ("_law_plus", none) (top 49) ["one", "other"] ["one", "other", "first", "second"] d__law_plus
def p__law_opposite : PDef := pd "_law_opposite" "_law_opposite" "_law_opposite" ("_law_opposite", none) (top 50) ["number"] ["number"] d__law_opposite
def p__law_minus : PDef := pd "_law_minus" "_law_minus" "_law_minus" ("_law_minus", none) (top 51) ["one", "other"] ["one", "other"] d__law_minus
def p__law_times : PDef := pd "_law_times" "_law_times" "_law_times" ("_law_times", none) (top 52) ["one", "other"] ["one", "other", "first", "second"] d__law_times
def p__law_over : PDef := pd "_law_over" "_law_over" "_law_over" ("_law_over", none) (top 53) ["one", "other"] ["one", "other", "first", "second"] d__law_over
def p__law_sign : PDef := pd "_law_sign" "_law_sign" "_law_sign" ("_law_sign", none) (top 54) ["number"] ["number", "top"] d__law_sign
def p__law_less : PDef := pd "_law_less" "_law_less" "_law_less" ("_law_less", none) (top 55) ["one", "other"] ["one", "other", "first", "second"] d__law_less
def p__law_dot : PDef := pd "_law_dot" "_law_dot" "_law_dot" ("_law_dot", none) (top 56) ["row", "other"] ["row", "other", "top", "bottom", "one", "two", "first", "second", "low"] d__law_dot
def p__law_is_list : PDef := pd "_law_is_list" "_law_is_list" "_law_is_list" ("_law_is_list", none) (top 57) ["value"] ["value"] d__law_is_list
def p__law_is_ratio : PDef := pd "_law_is_ratio" "_law_is_ratio" "_law_is_ratio" ("_law_is_ratio", none) (top 58) ["value"] ["value"] d__law_is_ratio
def p__law_is_whole : PDef := pd "_law_is_whole" "_law_is_whole" "_law_is_whole" ("_law_is_whole", none) (top 59) ["value"] ["value"] d__law_is_whole
def p__law_is_any_row : PDef := pd "_law_is_any_row" "_law_is_any_row" "_law_is_any_row" ("_law_is_any_row", none) (top 60) ["value", "many"] ["value", "many", "one"] d__law_is_any_row
def p__law_number : PDef := pd "_law_number" "_law_number" "_law_number" ("_law_number", none) (top 61) ["pen", "size"] ["pen", "size"] d__law_number
def p__law_wide : PDef := pd "_law_wide" "_law_wide" "_law_wide" ("_law_wide", none) (top 62) ["pen", "figures"] ["pen", "figures", "found", "top", "lap"] d__law_wide
def p__law_size : PDef := pd "_law_size" "_law_size" "_law_size" ("_law_size", none) (top 63) ["pen"] ["pen"] d__law_size
def p__law_row : PDef := pd "_law_row" "_law_row" "_law_row" ("_law_row", none) (top 64) ["pen", "many", "size"] ["pen", "many", "size", "at"] d__law_row
def p__law_odd : PDef := pd "_law_odd" "_law_odd" "_law_odd" ("_law_odd", none) (top 65) ["pen"] ["pen"] d__law_odd
def p__law_bent_row : PDef := pd "_law_bent_row" "_law_bent_row" "_law_bent_row" ("_law_bent_row", none) (top 66) ["pen", "row"] ["pen", "row", "way", "at"] d__law_bent_row
def p__law_made_right : PDef := pd "_law_made_right" "_law_made_right" "_law_made_right" ("_law_made_right", none) (top 70) ["pen"] ["pen", "by", "top", "bottom", "value", "odd"] d__law_made_right
def p__law_reckoned_right : PDef := pd "_law_reckoned_right" "_law_reckoned_right" "_law_reckoned_right" ("_law_reckoned_right", none) (top 71) ["one", "other"] ["one", "other"] d__law_reckoned_right
def p__law_refused_right : PDef := pd "_law_refused_right" "_law_refused_right" "_law_refused_right" ("_law_refused_right", none) (top 72) ["one", "odd"] ["one", "odd", "call"] d__law_refused_right
def p__law_rows_right : PDef := pd "_law_rows_right" "_law_rows_right" "_law_rows_right" ("_law_rows_right", none) (top 73) ["pen"] ["pen", "many", "row", "other", "bent", "odd"] d__law_rows_right
def p_law : PDef := pd "law" "law" "law" ("law", none) (top 74) ["script"] ["script", "pen", "lap", "one", "other"] d_law
def px_BadNumber : PDef := pd "BadNumber.__init__" "__init__" "BadNumber.__init__" ("BadNumber", some "__init__") (sub 3 0) ["self", "what", "number"] ["self", "what", "number"] ⟨0, 0, .nil⟩
def px_BadRow : PDef := pd "BadRow.__init__" "__init__" "BadRow.__init__" ("BadRow", some "__init__") (sub 4 0) ["self", "what", "row"] ["self", "what", "row"] ⟨0, 0, .nil⟩
def px_Unlike : PDef := pd "Unlike.__init__" "__init__" "Unlike.__init__" ("Unlike", some "__init__") (sub 13 0) ["self", "what"] ["self", "what"] ⟨0, 0, .nil⟩
def exs : List EDef := [⟨"BadNumber", ["what", "number"], px_BadNumber⟩, ⟨"BadRow", ["what", "row"], px_BadRow⟩, ⟨"Unlike", ["what"], px_Unlike⟩]
def pt_law_fault : PDef := pd "_law_fault" "_law_fault" "_law_fault" ("_law_fault", none) (top 67) ["call"] ["call", "found", "e"] ⟨0, 0, .nil⟩
def pt_law_kinds : PDef := pd "_law_kinds" "_law_kinds" "_law_kinds" ("_law_kinds", none) (top 68) ["e"] ["e", "found"] ⟨0, 0, .nil⟩
def pt_law_more_kinds : PDef := pd "_law_more_kinds" "_law_more_kinds" "_law_more_kinds" ("_law_more_kinds", none) (top 69) ["e"] ["e", "found"] ⟨0, 0, .nil⟩
def ftd : FtD := ⟨pt_law_fault, pt_law_kinds, pt_law_more_kinds, 8⟩
def fns0 : List Str := ["is_integer", "is_ratio", "pair", "in_lowest", "ratio", "need_ratios", "plus", "added", "minus", "opposite", "times", "multiplied"]
def fns1 : List Str := ["over", "divided", "sign", "sign_of", "below", "is_below", "dot", "summed", "_law_pen", "_law_draw", "_law_pick", "_law_is"]
def fns2 : List Str := ["_law_says", "_law_divisor", "_law_low", "_law_pair", "_law_plus", "_law_opposite", "_law_minus", "_law_times", "_law_over", "_law_sign", "_law_less", "_law_dot"]
def fns3 : List Str := ["_law_is_list", "_law_is_ratio", "_law_is_whole", "_law_is_any_row", "_law_number", "_law_wide", "_law_size", "_law_row", "_law_odd", "_law_bent_row", "_law_made_right", "_law_reckoned_right"]
def fns4 : List Str := ["_law_refused_right", "_law_rows_right", "law"]
def fns : List Str := fns0 ++ fns1 ++ fns2 ++ fns3 ++ fns4
def mks : List Str := []
def ps0 : List PDef := [p_is_integer, p_is_ratio, p_pair, p_in_lowest, p_ratio, p_need_ratios, p_plus, p_added, p_minus, p_opposite, p_times, p_multiplied]
def ps1 : List PDef := [p_over, p_divided, p_sign, p_sign_of, p_below, p_is_below, p_dot, p_summed, p__law_pen, p__law_draw, p__law_pick, p__law_is]
def ps2 : List PDef := [p__law_says, p__law_divisor, p__law_low, p__law_pair, p__law_plus, p__law_opposite, p__law_minus, p__law_times, p__law_over, p__law_sign, p__law_less, p__law_dot]
def ps3 : List PDef := [p__law_is_list, p__law_is_ratio, p__law_is_whole, p__law_is_any_row, p__law_number, p__law_wide, p__law_size, p__law_row, p__law_odd, p__law_bent_row, p__law_made_right, p__law_reckoned_right]
def ps4 : List PDef := [p__law_refused_right, p__law_rows_right, p_law]
def ps : List PDef := ps0 ++ ps1 ++ ps2 ++ ps3 ++ ps4
def lams : List Str := ["_law_made_right", "_law_reckoned_right", "_law_refused_right", "_law_rows_right"]
def pc : PC := ⟨cx, true, fns, mks, ps, exs, some ftd, lams⟩
def names0 : List PySem.Str := ["StretchError", "BadNumber", "BadRow", "BadTable", "BadOrder", "BadLot", "BadName", "BadText", "NoThing", "NoName", "TakenName", "Unlike", "NotStretched", "TooMany", "NotKept", "NothingToUndo"]
def names1 : List PySem.Str := ["NothingToRedo", "is_integer", "is_ratio", "pair", "in_lowest", "ratio", "need_ratios", "plus", "added", "minus", "opposite", "times", "multiplied", "over", "divided", "sign"]
def names2 : List PySem.Str := ["sign_of", "below", "is_below", "dot", "summed", "_law_pen", "_law_draw", "_law_pick", "_law_is", "_law_says", "_law_divisor", "_law_low", "_law_pair", "_law_plus", "_law_opposite", "_law_minus"]
def names3 : List PySem.Str := ["_law_times", "_law_over", "_law_sign", "_law_less", "_law_dot", "_law_is_list", "_law_is_ratio", "_law_is_whole", "_law_is_any_row", "_law_number", "_law_wide", "_law_size", "_law_row", "_law_odd", "_law_bent_row", "_law_fault"]
def names4 : List PySem.Str := ["_law_kinds", "_law_more_kinds", "_law_made_right", "_law_reckoned_right", "_law_refused_right", "_law_rows_right"]
def names : List PySem.Str := names0 ++ names1 ++ names2 ++ names3 ++ names4
abbrev rowR : PySem.W.OpenRow := PySem.W.OpenLaw.row PySem.Challenge.rw_stretchorders_k02_ratios
abbrev hk : PySem.W.Hook := Rf.hookK 4 pc.fa pc.dds pc.tf pc.ex
def ob (s : PySem.W.SharedT) : He.AlX := Rf.obsK 4 pc.fa pc.dds pc.tf pc.ex (HandSHeadRun.getT s)
theorem ob_eq (s : PySem.W.SharedT) : ob s = hk.obs s.abs := Rf.obsK_eq (HandSHeadRun.getT_eq s)
theorem hrun (w : World) : HandSHeadRun.RunEqI rowR (PySem.W.view rowR.prog [0, 74]) hk ob 20000 names w := by
  unfold HandSHeadRun.RunEqI
  kernel_rfl
end RfL
set_option Elab.async false
set_option linter.all false
set_option maxRecDepth 100000
set_option maxHeartbeats 1000000
namespace Rf
open PySem PySem.Spec PyProof.Rows L2
variable [Tb]

/-! ### values at work -/
structure VS (F H F' H' : Hp) : Prop where
  fs : Same F F'
  hs : Same H H'
  fn : ∀ b, H b ≠ none → F' b = F b
  sub : Same F' H'
  nt : (∀ a ps, F a ≠ some (.tbl ps)) → ∀ a ps, F' a ≠ some (.tbl ps)
def PRep (K : PySem.W.Frag) (F H : Hp) (v : V) (d : D) : Prop := Rep K F v d ∨ ∃ a m, v = .ref a ∧ d = m.d ∧ MRep K F H a m
inductive PReps (K : PySem.W.Frag) (F H : Hp) : List V → List D → Prop
  | nil : PReps K F H [] []
  | cons {v vs d ds} : PRep K F H v d → PReps K F H vs ds → PReps K F H (v :: vs) (d :: ds)

section
variable {K : PySem.W.Frag} {F H F' H' : Hp} {σ : L2.St} {Γ : En} {v : V} {d : D} {ds : List D}
theorem VS.refl (s : Same F H) : VS F H F H := ⟨Same.refl F, Same.refl H, fun _ _ => rfl, s, fun h => h⟩
theorem VS.newF (s : Same F H) {p : Addr} (hp : H p = none) (o : HO) (no : ∀ ps, o ≠ .tbl ps) : VS F H (upd F p o) (upd H p o) :=
  ⟨same_upd (s.free hp), same_upd hp, fun b h => upd_ne fun z => h (z ▸ hp), fun x u e => by
    by_cases hx : x = p
    · subst hx; rw [upd_same] at e ⊢; exact e
    · rw [upd_ne hx] at e ⊢; exact s _ _ e, fun h a ps e => by
    by_cases ha : a = p
    · subst ha; rw [upd_same] at e; exact no ps (Option.some.inj e)
    · rw [upd_ne ha] at e; exact h a ps e⟩
theorem VS.newH (s : Same F H) {p : Addr} (hp : H p = none) (o : HO) : VS F H F (upd H p o) :=
  ⟨Same.refl F, same_upd hp, fun b h => rfl, fun x u e => by rw [upd_ne (ne_of_none (s _ _ e) hp)]; exact s _ _ e, fun h => h⟩
theorem VS.step (x : VS F H F' H') {S : Addr → Prop} : Step F H S F' H' := ⟨x.fs, fun b o h _ _ => x.hs b o h, fun b _ h => x.fn b h, fun b h => by
  obtain ⟨o, ho⟩ := Option.ne_none_iff_exists'.mp h
  rw [x.hs b o ho]; simp⟩
theorem At.vs (A : At K F H σ Γ) (x : VS F H F' H') : At K F' H' σ Γ := by
  refine ⟨x.sub, A.len, fun i d e => ?_, fun i t m e c => ?_, A.sep, ⟨A.tab.t.ext x.hs, x.nt A.tab.n⟩, A.f0.trans x.fs⟩
  · obtain ⟨v, e1, r⟩ := A.fr i d e
    exact ⟨v, e1, r.up x.fs⟩
  · obtain ⟨a, e1, f, r⟩ := A.ob i t m e c
    obtain ⟨o, ho, _⟩ := r.ex
    exact ⟨a, e1, by rw [x.fn a (by rw [ho]; simp)]; exact f, r.up x.fs (by rw [x.hs _ _ ho, ho])⟩
theorem PRep.scalV (h : PRep K F H v d) (hd : ∀ m : M, d ≠ m.d) : Rep K F v d := by
  rcases h with h | ⟨a, m, _, e, _⟩
  · exact h
  · exact absurd e (hd m)
theorem PRep.int {i : Int} (h : PRep K F H v (.int i)) : v = .int i := by
  cases h.scalV fun m => by cases m <;> simp [M.d]
  rfl
theorem PRep.bl {b : Bool} (h : PRep K F H v (.bl b)) : v = .bl b := by
  cases h.scalV fun m => by cases m <;> simp [M.d]
  rfl
theorem PRep.str {x : Str} (h : PRep K F H v (.str x)) : v = .str x := by
  cases h.scalV fun m => by cases m <;> simp [M.d]
  rfl
theorem PRep.non (h : PRep K F H v .non) : v = .non := by
  cases h.scalV fun m => by cases m <;> simp [M.d]
  rfl
theorem PRep.lst (s : Same F H) (h : PRep K F H v (.lst ds)) : ∃ a vs, v = .ref a ∧ H a = some (.lst vs) ∧ Reps K F vs ds := by
  rcases h with h | ⟨a, m, rfl, e, h⟩
  · cases h with
    | lst h r => exact ⟨_, _, rfl, s _ _ h, r⟩
  · cases m with
    | lst es => cases e; obtain ⟨vs, h1, h2⟩ := h; exact ⟨a, vs, rfl, h1, h2⟩
    | dct ks es => cases e
    | ins C ns es => cases e
theorem PRep.tup (h : PRep K F H v (.tup ds)) : ∃ a vs, v = .ref a ∧ F a = some (.tup vs) ∧ Reps K F vs ds := by
  cases h.scalV fun m => by cases m <;> simp [M.d]
  exact ⟨_, _, rfl, by assumption, by assumption⟩
theorem PRep.dct (s : Same F H) {ks : List Key} (h : PRep K F H v (.dct ks ds)) : ∃ a vs, v = .ref a ∧ H a = some (.dK (ks.zip vs)) ∧ ks.length = vs.length ∧ Reps K F vs ds := by
  rcases h with h | ⟨a, m, rfl, e, h⟩
  · cases h with
    | dct h l r => exact ⟨_, _, rfl, s _ _ h, l, r⟩
  · cases m with
    | dct ks' es => cases e; obtain ⟨vs, h1, h2, h3⟩ := h; exact ⟨a, vs, rfl, h1, h2, h3⟩
    | lst es => cases e
    | ins C ns es => cases e
theorem PRep.ins (s : Same F H) {C : Str} {ns : List Str} (h : PRep K F H v (.ins C ns ds)) : ∃ a dx vs, v = .ref a ∧ H a = some (.ins (He.ga K C) dx (ns.zip vs)) ∧ ns.length = vs.length ∧ Reps K F vs ds := by
  rcases h with h | ⟨a, m, rfl, e, h⟩
  · cases h with
    | ins h l r => exact ⟨_, _, _, rfl, s _ _ h, l, r⟩
  · cases m with
    | ins C' ns' es => cases e; obtain ⟨dx, vs, h1, h2, h3⟩ := h; exact ⟨a, dx, vs, rfl, h1, h2, h3⟩
    | lst es => cases e
    | dct ks es => cases e
theorem PRep.scr {ns : List Int} (h : PRep K F H v (.scr ns)) : ∃ a, v = .ref a ∧ SqL K F a (ns.map V.int) := by
  cases h.scalV fun m => by cases m <;> simp [M.d]
  exact ⟨_, rfl, by assumption⟩
theorem Reps.ints {vs : List V} : ∀ {ds : List D} {ns : List Int}, Reps K F vs ds → allI ds = some ns → vs = ns.map V.int := by
  induction vs with
  | nil =>
    intro ds ns r e
    cases r
    cases e
    rfl
  | cons v vs ih =>
    intro ds ns r e
    cases r with
    | @cons _ _ d ds h r =>
      unfold allI at e
      rw [List.mapM_cons] at e
      cases hd : d.int? with
      | none => rw [hd] at e; cases e
      | some i =>
        rw [hd] at e
        cases hr : ds.mapM D.int? with
        | none => rw [hr] at e; cases e
        | some ns' =>
          rw [hr] at e
          cases e
          cases d <;> first | (cases hd; cases h; rw [List.map_cons, ih r (show allI ds = some ns' from hr)]) | cases hd
theorem Reps.bls {vs : List V} : ∀ {ds : List D} {ns : List Bool}, Reps K F vs ds → allB ds = some ns → vs = ns.map V.bl := by
  induction vs with
  | nil =>
    intro ds ns r e
    cases r
    cases e
    rfl
  | cons v vs ih =>
    intro ds ns r e
    cases r with
    | @cons _ _ d ds h r =>
      unfold allB at e
      rw [List.mapM_cons] at e
      cases hd : d.bl? with
      | none => rw [hd] at e; cases e
      | some i =>
        rw [hd] at e
        cases hr : ds.mapM D.bl? with
        | none => rw [hr] at e; cases e
        | some ns' =>
          rw [hr] at e
          cases e
          cases d <;> first | (cases hd; cases h; rw [List.map_cons, ih r (show allB ds = some ns' from hr)]) | cases hd
theorem Reps.ofInts : ∀ ns : List Int, Reps K F (ns.map V.int) (ns.map D.int)
  | [] => .nil
  | n :: ns => .cons (.int n) (Reps.ofInts ns)
theorem Reps.rep {vs : List V} (r : Reps K F vs ds) : ∀ k : Nat, Reps K F (List.replicate k vs).flatten (List.replicate k ds).flatten
  | 0 => .nil
  | k + 1 => by rw [List.replicate_succ, List.replicate_succ, List.flatten_cons, List.flatten_cons]; exact r.app (Reps.rep r k)

/-! ### comparisons -/
mutual
def D.p : D → PyData
  | .non => .none
  | .bl b => .bool b
  | .int i => .int i
  | .str x => .str x
  | .lst ds => .list (D.ps ds)
  | .tup ds => .tuple (D.ps ds)
  | _ => .dict []
def D.ps : List D → List PyData
  | [] => []
  | d :: ds => D.p d :: D.ps ds
end
theorem okd_lst {n : Nat} {ds : List D} : D.okd n (.lst ds) = true ↔ ∃ m, n = m + 1 ∧ ds.all (D.okd m) = true := by
  cases n <;> simp [D.okd]
theorem okd_tup {n : Nat} {ds : List D} : D.okd n (.tup ds) = true ↔ ∃ m, n = m + 1 ∧ ds.all (D.okd m) = true := by
  cases n <;> simp [D.okd]
mutual
theorem okd_lay : ∀ (d : D) (n : Nat), D.okd n d = true → d.p.canLay0 = true ∧ d.p.depth ≤ n
  | .non, n, _ => by simp [D.p, PyData.canLay0, PyData.depth]
  | .bl _, n, _ => by simp [D.p, PyData.canLay0, PyData.depth]
  | .int _, n, _ => by simp [D.p, PyData.canLay0, PyData.depth]
  | .str x, n, h => by
    have h : PyData.strOk x = true := by cases n <;> simpa [D.okd] using h
    simp [D.p, PyData.canLay0, PyData.depth, h]
  | .lst ds, n, h => by
    obtain ⟨m, rfl, h⟩ := okd_lst.mp h
    have := okds_lay ds m h
    simp only [D.p, PyData.canLay0, PyData.depth]
    exact ⟨this.1, by omega⟩
  | .tup ds, n, h => by
    obtain ⟨m, rfl, h⟩ := okd_tup.mp h
    have := okds_lay ds m h
    simp only [D.p, PyData.canLay0, PyData.depth]
    exact ⟨this.1, by omega⟩
  | .dct _ _, n, h => by cases n <;> simp [D.okd] at h
  | .ins _ _ _, n, h => by cases n <;> simp [D.okd] at h
  | .fn _, n, h => by cases n <;> simp [D.okd] at h
  | .scr _, n, h => by cases n <;> simp [D.okd] at h
  | .exc _, n, h => by cases n <;> simp [D.okd] at h
theorem okds_lay : ∀ (ds : List D) (n : Nat), ds.all (D.okd n) = true → PyData.canLayAll0 (D.ps ds) = true ∧ PyData.depthAll (D.ps ds) ≤ n
  | [], n, _ => by simp [D.ps, PyData.canLayAll0, PyData.depthAll]
  | d :: ds, n, h => by
    rw [List.all_cons, Bool.and_eq_true] at h
    have h1 := okd_lay d n h.1
    have h2 := okds_lay ds n h.2
    simp only [D.ps, PyData.canLayAll0, PyData.depthAll, h1.1, h2.1, Bool.and_self, true_and]
    omega
end
mutual
theorem eqv_p : ∀ (a b : D) (n m : Nat), D.okd n a = true → D.okd m b = true → PyData.eqv a.p b.p = a.eqv b
  | .non, b, n, m, ha, hb => by cases b <;> first | (simp [D.p, PyData.eqv, D.eqv]; done) | (cases m <;> simp [D.okd] at hb)
  | .bl _, b, n, m, ha, hb => by cases b <;> first | (simp [D.p, PyData.eqv, D.eqv]; done) | (cases m <;> simp [D.okd] at hb)
  | .int _, b, n, m, ha, hb => by cases b <;> first | (simp [D.p, PyData.eqv, D.eqv]; done) | (cases m <;> simp [D.okd] at hb)
  | .str _, b, n, m, ha, hb => by cases b <;> first | (simp [D.p, PyData.eqv, D.eqv]; done) | (cases m <;> simp [D.okd] at hb)
  | .lst as, b, n, m, ha, hb => by
    cases b with
    | lst bs =>
      obtain ⟨n, rfl, ha⟩ := okd_lst.mp ha
      obtain ⟨m, rfl, hb⟩ := okd_lst.mp hb
      simp only [D.p, PyData.eqv, D.eqv]
      exact eqvs_p as bs n m ha hb
    | _ => first | (simp [D.p, PyData.eqv, D.eqv]; done) | (cases m <;> simp [D.okd] at hb)
  | .tup as, b, n, m, ha, hb => by
    cases b with
    | tup bs =>
      obtain ⟨n, rfl, ha⟩ := okd_tup.mp ha
      obtain ⟨m, rfl, hb⟩ := okd_tup.mp hb
      simp only [D.p, PyData.eqv, D.eqv]
      exact eqvs_p as bs n m ha hb
    | _ => first | (simp [D.p, PyData.eqv, D.eqv]; done) | (cases m <;> simp [D.okd] at hb)
  | .dct _ _, b, n, m, ha, hb => by cases n <;> simp [D.okd] at ha
  | .ins _ _ _, b, n, m, ha, hb => by cases n <;> simp [D.okd] at ha
  | .fn _, b, n, m, ha, hb => by cases n <;> simp [D.okd] at ha
  | .scr _, b, n, m, ha, hb => by cases n <;> simp [D.okd] at ha
  | .exc _, b, n, m, ha, hb => by cases n <;> simp [D.okd] at ha
theorem eqvs_p : ∀ (as bs : List D) (n m : Nat), as.all (D.okd n) = true → bs.all (D.okd m) = true → PyData.eqvAll (D.ps as) (D.ps bs) = D.eqvs as bs
  | [], [], n, m, ha, hb => by simp [D.ps, PyData.eqvAll, D.eqvs]
  | [], b :: bs, n, m, ha, hb => by simp [D.ps, PyData.eqvAll, D.eqvs]
  | a :: as, [], n, m, ha, hb => by simp [D.ps, PyData.eqvAll, D.eqvs]
  | a :: as, b :: bs, n, m, ha, hb => by
    rw [List.all_cons, Bool.and_eq_true] at ha hb
    simp only [D.ps, PyData.eqvAll, D.eqvs]
    rw [eqv_p a b n m ha.1 hb.1, eqvs_p as bs n m ha.2 hb.2]
end
mutual
theorem Rep.dp (s : Same F H) : ∀ {v : V} {d : D} {n : Nat}, Rep K F v d → D.okd n d = true → Dp K H v d.p
  | _, _, _, .non, _ => .non
  | _, _, _, .bl b, _ => .bl b
  | _, _, _, .int i, _ => .int i
  | _, _, _, .str x, _ => .str x
  | _, _, n, .tup h r, o => by
    obtain ⟨m, rfl, o⟩ := okd_tup.mp o
    exact .tup (.inl (.inl (s _ _ h))) (Reps.dp s r o)
  | _, _, n, .lst h r, o => by
    obtain ⟨m, rfl, o⟩ := okd_lst.mp o
    exact .lst (.inl (.inl (s _ _ h))) (Reps.dp s r o)
  | _, _, n, .dct _ _ _, o => by cases n <;> simp [D.okd] at o
  | _, _, n, .ins _ _ _, o => by cases n <;> simp [D.okd] at o
  | _, _, n, .fn _, o => by cases n <;> simp [D.okd] at o
  | _, _, n, .scr _, o => by cases n <;> simp [D.okd] at o
  | _, _, n, .exc _, o => by cases n <;> simp [D.okd] at o
theorem Reps.dp (s : Same F H) : ∀ {vs : List V} {ds : List D} {n : Nat}, Reps K F vs ds → ds.all (D.okd n) = true → DpAll K H vs (D.ps ds)
  | _, _, _, .nil, _ => .nil
  | _, _, _, .cons h r, o => by
    rw [List.all_cons, Bool.and_eq_true] at o
    exact .cons (Rep.dp s h o.1) (Reps.dp s r o.2)
end
theorem PRep.dp (s : Same F H) {n : Nat} (h : PRep K F H v d) (o : D.okd n d = true) : Dp K H v d.p := by
  cases d with
  | lst ds =>
    obtain ⟨a, vs, rfl, h1, h2⟩ := h.lst s
    obtain ⟨m, rfl, o⟩ := okd_lst.mp o
    exact .lst (.inl (.inl h1)) (h2.dp s o)
  | tup ds =>
    obtain ⟨a, vs, rfl, h1, h2⟩ := h.tup
    obtain ⟨m, rfl, o⟩ := okd_tup.mp o
    exact .tup (.inl (.inl (s _ _ h1))) (h2.dp s o)
  | non => cases h.non; exact .non
  | bl b => cases h.bl; exact .bl b
  | int i => cases h.int; exact .int i
  | str x => cases h.str; exact .str x
  | dct _ _ => cases n <;> simp [D.okd] at o
  | ins _ _ _ => cases n <;> simp [D.okd] at o
  | fn _ => cases n <;> simp [D.okd] at o
  | scr _ => cases n <;> simp [D.okd] at o
  | exc _ => cases n <;> simp [D.okd] at o
theorem okd_shaped {n : Nat} (h : D.okd n d = true) (hn : n ≤ 64) : SeqAt.shaped d.p = true := by
  have := okd_lay d n h
  unfold SeqAt.shaped
  rw [this.1, Bool.true_and]
  exact decide_eq_true (Nat.le_trans this.2 hn)
theorem any_p {a : D} {n : Nat} (ha : D.okd n a = true) : ∀ (ds : List D), ds.all (D.okd n) = true → ((D.ps ds).any fun y => PyData.eqv y a.p) = ds.any fun y => y.eqv a
  | [], _ => rfl
  | d :: ds, h => by
    rw [List.all_cons, Bool.and_eq_true] at h
    show (PyData.eqv d.p a.p || (D.ps ds).any _) = (d.eqv a || ds.any _)
    rw [eqv_p d a n n h.1 ha, any_p ha ds h.2]
end
end Rf

set_option Elab.async false
set_option linter.all false
set_option maxRecDepth 100000
set_option maxHeartbeats 4000000
namespace Rf
open PySem PySem.Spec PyProof.Rows L2
variable [Tb]
/-! ### t * k of a tuple, all k -/
theorem tuple_mulS (l : Addr) (items : Array Value) (n : Nat) (dd : Option Addr) (sl : Array (Option Value)) (x : Int) (u : Tok) (c0 : (decide (x < -(2 ^ 63)) || decide (x ≥ 2 ^ 63)) = false) (c1 : (items.isEmpty || x == 1) = true) :
    Meets (Builtin.«tuple.__mul__» ⟨[.ref l, .int x u], []⟩) (fun _ R s => s.heap.get? l = some { cls := .type "tuple", dict := dd, data := .seq items n, slots := sl } ∧
      R (.ok (.ret (Value.ref l))) s) :=
  .of_wp fun prog w A R s h => by
    obtain ⟨hp, g, d, tk, os⟩ := s
    obtain ⟨hl, h⟩ := h
    have f1 := AutoSeq1.idx_int
    wp_walk using wpAny_loadPart' hl
    repeat (first
      | (refine wpAny_ite_false (decide_eq_false (by rw [c0]; exact Bool.false_ne_true)) ?_; wp_walk using wpAny_loadPart' hl)
      | (refine wpAny_ite_true (decide_eq_true c1) ?_; wp_walk using wpAny_loadPart' hl))
    exact ⟨_, rfl, h⟩
theorem tuple_mulZ (l : Addr) (items : Array Value) (n : Nat) (dd : Option Addr) (sl : Array (Option Value)) (x : Int) (u : Tok) (c0 : (decide (x < -(2 ^ 63)) || decide (x ≥ 2 ^ 63)) = false) (c1 : (items.isEmpty || x == 1) = false) (c2 : (decide (x ≤ 0) || items.isEmpty) = true) :
    Meets (Builtin.«tuple.__mul__» ⟨[.ref l, .int x u], []⟩) (fun _ R s => s.heap.get? l = some { cls := .type "tuple", dict := dd, data := .seq items n, slots := sl } ∧
      R (.ok (.ret (Value.ref s.heap.objs.size))) { s with heap := s.heap.push { cls := Value.type "tuple", data := Data.seq #[] }, toks := s.toks }) :=
  .of_wp fun prog w A R s h => by
    obtain ⟨hp, g, d, tk, os⟩ := s
    obtain ⟨hl, h⟩ := h
    have f1 := AutoSeq1.idx_int
    wp_walk using wpAny_loadPart' hl
    repeat (first
      | (refine wpAny_ite_false (decide_eq_false (by rw [c0]; exact Bool.false_ne_true)) ?_; wp_walk using wpAny_loadPart' hl)
      | (refine wpAny_ite_false (decide_eq_false (by rw [c1]; exact Bool.false_ne_true)) ?_; wp_walk using wpAny_loadPart' hl)
      | (refine wpAny_ite_true (decide_eq_true c2) ?_; wp_walk using wpAny_loadPart' hl))
    exact ⟨_, rfl, h⟩
def rRepT2 (K : PySem.W.Frag) : R2 := fun x y H Q => ∃ l k xs, x = .ref l ∧ y = .int k ∧ SqT K H l xs ∧ -1000 ≤ k ∧ k ≤ 1000 ∧ xs.length ≤ 1000 ∧ ((xs = [] ∨ k = 1) → Q (.ref l) H) ∧ (¬ (xs = [] ∨ k = 1) → ∀ p, H p = none → Q (.ref p) (upd H p (.tup (List.replicate k.toNat xs).flatten)))
theorem op_repT2 {X : Cx} : OpR X (binaryOp .Mult) (rRepT2 X.K) := by
  intro pins s σ H x y v u Q I rx ry h
  obtain ⟨l, k, xs, rfl, rfl, hT, hk0, hk1, hz, q1, q2⟩ := h
  by_cases hsame : xs = [] ∨ k = 1
  · have q := q1 hsame
    cases rx
    obtain ⟨t, rfl⟩ := ry
    obtain ⟨its, r, ⟨⟨cls, dd, data, sl⟩, ho, hc, n, hd⟩, hs⟩ := I.tuple hT
    simp only at hc hd
    subst hc hd
    have c0 : (decide (k < -(2 ^ 63)) || decide (k ≥ 2 ^ 63)) = false := by
      rw [decide_eq_false (by omega), decide_eq_false (by omega)] <;> rfl
    have c1 : (its.toArray.isEmpty || k == 1) = true := by
      rcases hsame with rfl | rfl
      · cases r; rfl
      · simp
    refine wpAny_binaryOp_repeat_ref (T := "tuple") (U := "int") (by decide) ⟨_, ho, rfl⟩ (fun s' => typeIs_int s' k t) noFill_tuple_mul F.fills_int_mul F.slot_int_rmul repeat_tuple F.slot_int_index.lookup
      (call_meets F.slot_int_rmul (typeIs_int s k t) F.entry_int_rmul (F.args_int_rmul_2 _ _) (int_rmul_tuple k t l its.toArray n dd sl)
        ⟨ho, rfl, ⟨_, ho, rfl⟩, call_meets F.slot_tuple_mul ⟨_, ho, rfl⟩ F.entry_tuple_mul (F.args_tuple_mul_2 _ _) (tuple_mulS l its.toArray n dd sl k t c0 c1) ⟨ho, ?_⟩⟩)
    exact ⟨.ref l, _, I, rfl, q⟩
  · have q := q2 hsame
    have hne : xs ≠ [] := fun z => hsame (.inl z)
    have hn1 : k ≠ 1 := fun z => hsame (.inr z)
    by_cases hk : 2 ≤ k
    · exact op_repT pins s σ H _ _ v u Q I rx ry ⟨l, k, xs, rfl, rfl, hT, hne, hk, hk1, hz, q⟩
    · cases rx
      obtain ⟨t, rfl⟩ := ry
      obtain ⟨its, r, ⟨⟨cls, dd, data, sl⟩, ho, hc, n, hd⟩, hs⟩ := I.tuple hT
      simp only at hc hd
      subst hc hd
      have hi : its.toArray.isEmpty = false := by
        cases r with
        | nil => exact absurd rfl hne
        | cons a b => rfl
      have c0 : (decide (k < -(2 ^ 63)) || decide (k ≥ 2 ^ 63)) = false := by
        rw [decide_eq_false (by omega), decide_eq_false (by omega)] <;> rfl
      have c1 : (its.toArray.isEmpty || k == 1) = false := by
        rw [hi, Bool.false_or]
        exact beq_eq_false_iff_ne.mpr hn1
      have c2 : (decide (k ≤ 0) || its.toArray.isEmpty) = true := by
        rw [decide_eq_true (by omega)]; rfl
      have e0 : k.toNat = 0 := by omega
      rw [e0] at q
      refine wpAny_binaryOp_repeat_ref (T := "tuple") (U := "int") (by decide) ⟨_, ho, rfl⟩ (fun s' => typeIs_int s' k t) noFill_tuple_mul F.fills_int_mul F.slot_int_rmul repeat_tuple F.slot_int_index.lookup
        (call_meets F.slot_int_rmul (typeIs_int s k t) F.entry_int_rmul (F.args_int_rmul_2 _ _) (int_rmul_tuple k t l its.toArray n dd sl)
          ⟨ho, rfl, ⟨_, ho, rfl⟩, call_meets F.slot_tuple_mul ⟨_, ho, rfl⟩ F.entry_tuple_mul (F.args_tuple_mul_2 _ _) (tuple_mulZ l its.toArray n dd sl k t c0 c1 c2) ⟨ho, ?_⟩⟩)
      refine ⟨.ref s.heap.objs.size, _, I.laid (t' := s.toks) (o := .tup []) (fun b ob q => Heap.get?_push_of_some _ q) (Nat.le_refl _) ?_, rfl, q _ (I.hok.fresh (Nat.le_refl _))⟩
      exact ⟨Nat.zero_le _, [], .nil, IsTup.new _ _⟩
end Rf

set_option Elab.async false
set_option linter.all false
set_option maxRecDepth 100000
set_option maxHeartbeats 1000000
namespace Rf
open PySem PySem.Spec PyProof.Rows L2
variable [Tb]

def BOp.py : BOp → Operator
  | .add => .Add | .sub => .Sub | .mul => .Mult | .fdiv => .FloorDiv | .mod => .Mod | .pow => .Pow | .band => .BitAnd
def COp.py : COp → CmpOp
  | .eq => .Eq | .ne => .NotEq | .lt => .Lt | .le => .LtE | .gt => .Gt | .ge => .GtE | .inn => .In | .nin => .NotIn

theorem lineM : (1000000 : Nat) ≤ sizeLine := by rw [sizeLine_eq]; decide

/-- what a step upon values gives: for whatever stands in H with the frozen part F -/
def Gives (K : PySem.W.Frag) (F H : Hp) (r : R) (Q : VK) : Prop := ∀ v F' H', VS F H F' H' → RRep K H F' H' v r → Q v H'
section
variable {K : PySem.W.Frag} {F H F' H' : Hp} {σ : L2.St} {Γ : En} {v : V} {d : D} {ds : List D} {Q : VK}
theorem Gives.scal (s : Same F H) {d : D} (g : Gives K F H (.d d) Q) (h : Rep K F v d) : Q v H := g v F H (VS.refl s) h
theorem Gives.tup (s : Same F H) {vs : List V} (g : Gives K F H (.d (.tup ds)) Q) (h : Reps K F vs ds) {p : Addr} (hp : H p = none) : Q (.ref p) (upd H p (.tup vs)) :=
  g _ _ _ (VS.newF s hp _ fun _ z => nomatch z) (.tup upd_same (h.up (same_upd (s.free hp))))
theorem Gives.lst (s : Same F H) {vs : List V} (g : Gives K F H (.m (.lst ds)) Q) (h : Reps K F vs ds) {p : Addr} (hp : H p = none) : Q (.ref p) (upd H p (.lst vs)) :=
  g _ _ _ (VS.newH s hp _) ⟨p, rfl, hp, s.free hp, vs, upd_same, h⟩

variable {X : Cx}
theorem small_abs {i : Int} (h : small i = true) : i.natAbs < 2 ^ 4000 := by
  unfold small lim at h
  rw [Bool.and_eq_true, decide_eq_true_eq, decide_eq_true_eq] at h
  generalize hL : (2 : Int) ^ 4000 = L at h
  have hn : ((2 ^ 4000 : Nat) : Int) = L := by rw [← hL]; exact Int.natCast_pow 2 4000
  omega
theorem flat_nil {α : Type} (n : Nat) : (List.replicate n ([] : List α)).flatten = [] := by
  induction n with
  | zero => rfl
  | succ n ih => rw [List.replicate_succ, List.flatten_cons, ih]; rfl
def rB (K : PySem.W.Frag) (op : BOp) : R2 := fun x y H Q => ∃ F a b r, Same F H ∧ Rep K F x a ∧ Rep K F y b ∧ binD op a b = some r ∧ Gives K F H r Q
theorem opI' {op : BOp} {C : Int → Int → Prop} {g : Int → Int → Int} (h : OpR X (binaryOp op.py) (rI C fun i j => .int (g i j))) (hc : ∀ i j k, binI op i j = some k → C i j ∧ g i j = k)
    {pins : List (Addr × Obj)} {s : Shared} {i j : Int} {u w : Value} {k : Int} (I : Inv X pins σ H s) (ru : RelV (.int i) u) (rw' : RelV (.int j) w) (e : binI op i j = some k) (sf : Same F H) (q : Gives K F H (.d (.int k)) Q) :
    wpAny (model X.prog X.w) X.A (binaryOp op.py u w) (EP X pins σ Q) X.xe s := by
  obtain ⟨c, rfl⟩ := hc _ _ _ e
  exact h pins s σ H _ _ _ _ Q I ru rw' ⟨i, j, rfl, rfl, c, q.scal sf (.int _)⟩
theorem bin_int {op : BOp} {pins : List (Addr × Obj)} {s : Shared} {i j : Int} {u w : Value} {k : Int} (I : Inv X pins σ H s) (ru : RelV (.int i) u) (rw' : RelV (.int j) w) (e : binI op i j = some k) (sf : Same F H) (q : Gives K F H (.d (.int k)) Q) :
    wpAny (model X.prog X.w) X.A (binaryOp op.py u w) (EP X pins σ Q) X.xe s := by
  cases op with
  | add =>
    cases e
    exact op_add pins s σ H _ _ _ _ Q I ru rw' ⟨i, j, rfl, rfl, q.scal sf (.int _)⟩
  | sub =>
    cases e
    exact op_sub pins s σ H _ _ _ _ Q I ru rw' ⟨i, j, rfl, rfl, q.scal sf (.int _)⟩
  | mul =>
    simp only [binI] at e
    split at e
    · rename_i hs
      cases e
      rw [Bool.and_eq_true] at hs
      exact op_mulW pins s σ H _ _ _ _ Q I ru rw' ⟨i, j, rfl, rfl, wide_mul (small_abs hs.1) (small_abs hs.2) (by decide) (by decide) (by decide), q.scal sf (.int _)⟩
    · cases e
  | fdiv =>
    simp only [binI] at e
    split at e
    · rename_i hs
      cases e
      rw [Bool.and_eq_true, decide_eq_true_eq] at hs
      refine opI (C := fun i j => j ≠ 0 ∧ j.natAbs.log2 < 9000) (g := fun i j => i.fdiv j) (fun i j _ _ _ _ _ hc q => floordiv_int hc.1 q (.inl (PyProof.noPylong_of_log2 hc.2))) pins s σ H _ _ _ _ Q I ru rw' ⟨i, j, rfl, rfl, ⟨hs.1, ?_⟩, q.scal sf (.int _)⟩
      exact Nat.lt_of_lt_of_le (PySem.Flt.log2_lt_of (by decide) (small_abs hs.2)) (by decide)
    · cases e
  | mod =>
    simp only [binI] at e
    split at e
    · rename_i hs
      cases e
      rw [decide_eq_true_eq] at hs
      exact op_modN pins s σ H _ _ _ _ Q I ru rw' ⟨i, j, rfl, rfl, hs, q.scal sf (.int _)⟩
    · cases e
  | band =>
    cases e
    exact op_and pins s σ H _ _ _ _ Q I ru rw' ⟨i, j, rfl, rfl, q.scal sf (.int _)⟩
  | pow =>
    simp only [binI] at e
    split at e
    · rename_i hs
      cases e
      rw [Bool.and_eq_true, Bool.and_eq_true, decide_eq_true_eq, decide_eq_true_eq, decide_eq_true_eq] at hs
      exact op_pow pins s σ H _ _ _ _ Q I ru rw' ⟨i, j, rfl, rfl, ⟨hs.1.1, Int.le_trans hs.1.2 (by decide), hs.2⟩, q.scal sf (.int _)⟩
    · cases e
theorem op_b {op : BOp} : OpR X (binaryOp op.py) (rB X.K op) := by
  intro pins s σ H x y u w Q I rx ry h
  obtain ⟨F, a, b, r, sf, ha, hb, e, q⟩ := h
  unfold binD at e
  split at e
  · rename_i i j
    cases ha
    cases hb
    cases hk : binI op i j with
    | none => rw [hk] at e; cases e
    | some k =>
      rw [hk] at e
      cases e
      exact bin_int I rx ry hk sf q
  · rename_i xs ys
    split at e
    · rename_i hl
      cases e
      cases ha with
      | @tup a1 vs _ f1 r1 =>
        cases hb with
        | @tup b1 ws _ f2 r2 =>
          refine op_catA pins s σ H _ _ _ _ Q I rx ry ⟨a1, b1, vs, ws, rfl, rfl, .inl (.inl (sf _ _ f1)), .inl (.inl (sf _ _ f2)), by rw [r1.len, r2.len]; exact Nat.le_trans hl lineM, fun z => ?_, fun _ z => ?_, fun _ _ p hp => ?_⟩
          · subst z
            cases r1
            exact q.scal sf (.tup f2 r2)
          · subst z
            cases r2
            exact q.scal sf (by rw [List.append_nil]; exact .tup f1 r1)
          · exact q.tup sf (r1.app r2) hp
    · cases e
  · rename_i xs ys
    split at e
    · rename_i hl
      cases e
      cases ha with
      | @lst a1 vs _ f1 r1 =>
        cases hb with
        | @lst b1 ws _ f2 r2 =>
          exact op_cat pins s σ H _ _ _ _ Q I rx ry ⟨a1, b1, vs, ws, rfl, rfl, sf _ _ f1, sf _ _ f2, by rw [r1.len, r2.len]; exact Nat.le_trans hl lineM, fun p hp => q.lst sf (r1.app r2) hp⟩
    · cases e
  · rename_i xs k
    split at e
    · rename_i hl
      cases e
      rw [Bool.and_eq_true, Bool.and_eq_true, decide_eq_true_eq, decide_eq_true_eq, decide_eq_true_eq] at hl
      cases hb
      cases ha with
      | @lst a1 vs _ f1 r1 =>
        exact op_rep pins s σ H _ _ _ _ Q I rx ry ⟨a1, k, vs, rfl, rfl, sf _ _ f1, by omega, by omega, by rw [r1.len]; exact Nat.le_trans hl.2 lineM, fun p hp => q.lst sf (r1.rep _) hp⟩
    · cases e
  · rename_i xs k
    split at e
    · rename_i hl
      cases e
      rw [Bool.and_eq_true, Bool.and_eq_true, decide_eq_true_eq, decide_eq_true_eq, decide_eq_true_eq] at hl
      cases hb
      cases ha with
      | @tup a1 vs _ f1 r1 =>
        refine op_repT2 pins s σ H _ _ _ _ Q I rx ry ⟨a1, k, vs, rfl, rfl, .inl (.inl (sf _ _ f1)), hl.1.1, hl.1.2, by rw [r1.len]; exact hl.2, fun z => ?_, fun _ p hp => q.tup sf (r1.rep _) hp⟩
        rcases z with rfl | rfl
        · cases r1
          refine q.scal sf ?_
          rw [flat_nil]
          exact .tup f1 .nil
        · refine q.scal sf ?_
          rw [show (1 : Int).toNat = 1 from rfl, List.replicate_one, List.flatten_cons, List.flatten_nil, List.append_nil]
          exact .tup f1 r1
    · cases e
  · cases e
/-- comparisons: the right one may be an owned object -/
def rC (K : PySem.W.Frag) (op : COp) : R2 := fun x y H Q => ∃ F a b k, Same F H ∧ PRep K F H x a ∧ PRep K F H y b ∧ cmpD op a b = some k ∧ Q (.bl k) H
theorem op_inDT (hu : X.A.units + 65 < cLine) {pins : List (Addr × Obj)} {s : Shared} {x : V} {u w : Value} {a : D} {p : Addr} {vs : List V} {ng : Bool} (I : Inv X pins σ H s) (rx : RelV x u) (sf : Same F H) (ha : PRep X.K F H x a) (oa : a.okd 60 = true)
    (hs : H p = some (.tup vs)) (hr : Reps X.K F vs ds) (od : ds.all (D.okd 60) = true) (q : Q (.bl (if ng then !(ds.any fun d => d.eqv a) else ds.any fun d => d.eqv a)) H) :
    wpAny (model X.prog X.w) X.A (compareOp (if ng then .NotIn else .In) u (.ref p)) (EP X pins σ Q) X.xe s := by
  obtain ⟨as, r1⟩ := Dp.reads I a.p x u (ha.dp sf oa) rx
  obtain ⟨bs, r2⟩ := Dp.reads I (.tuple (D.ps ds)) (.ref p) (.ref p) (.tup (.inl (.inl hs)) (hr.dp sf od)) rfl
  have h1 := okds_lay ds 60 od
  have h2 := okd_lay a 60 oa
  have hd : X.A.units + 1 + min (PyData.depthAll (D.ps ds)) a.p.depth < cLine := by
    have := Nat.min_le_left (PyData.depthAll (D.ps ds)) a.p.depth
    omega
  cases ng with
  | false => exact SeqAt.in_tuple_reads r2 r1 h1.1 h2.1 hd ⟨.bl _, H, I, rfl, by rw [any_p oa ds od]; exact q⟩
  | true => exact SeqAt.notIn_tuple_reads r2 r1 h1.1 h2.1 hd ⟨.bl _, H, I, rfl, by rw [any_p oa ds od]; exact q⟩
theorem op_inDL (hu : X.A.units + 65 < cLine) {pins : List (Addr × Obj)} {s : Shared} {x : V} {u w : Value} {a : D} {p : Addr} {vs : List V} {ng : Bool} (I : Inv X pins σ H s) (rx : RelV x u) (sf : Same F H) (ha : PRep X.K F H x a) (oa : a.okd 60 = true)
    (hs : H p = some (.lst vs)) (hr : Reps X.K F vs ds) (od : ds.all (D.okd 60) = true) (q : Q (.bl (if ng then !(ds.any fun d => d.eqv a) else ds.any fun d => d.eqv a)) H) :
    wpAny (model X.prog X.w) X.A (compareOp (if ng then .NotIn else .In) u (.ref p)) (EP X pins σ Q) X.xe s := by
  obtain ⟨as, r1⟩ := Dp.reads I a.p x u (ha.dp sf oa) rx
  obtain ⟨bs, r2⟩ := Dp.reads I (.list (D.ps ds)) (.ref p) (.ref p) (.lst (.inl (.inl hs)) (hr.dp sf od)) rfl
  have h1 := okds_lay ds 60 od
  have h2 := okd_lay a 60 oa
  have hd : X.A.units + 1 + min (PyData.depthAll (D.ps ds)) a.p.depth < cLine := by
    have := Nat.min_le_left (PyData.depthAll (D.ps ds)) a.p.depth
    omega
  cases ng with
  | false => exact SeqAt.in_list_reads r2 r1 h1.1 h2.1 hd ⟨.bl _, H, I, rfl, by rw [any_p oa ds od]; exact q⟩
  | true => exact SeqAt.notIn_list_reads r2 r1 h1.1 h2.1 hd ⟨.bl _, H, I, rfl, by rw [any_p oa ds od]; exact q⟩
theorem in_ok (hu : X.A.units + 65 < cLine) {pins : List (Addr × Obj)} {s : Shared} {x y : V} {u w : Value} {a b : D} {k : Bool} {ng : Bool} (I : Inv X pins σ H s) (rx : RelV x u) (ry : RelV y w) (sf : Same F H) (ha : PRep X.K F H x a) (hb : PRep X.K F H y b)
    (e : inD a b = some k) (q : Q (.bl (if ng then !k else k)) H) : wpAny (model X.prog X.w) X.A (compareOp (if ng then .NotIn else .In) u w) (EP X pins σ Q) X.xe s := by
  unfold inD at e
  split at e
  · split at e
    · rename_i ho
      rw [Bool.and_eq_true] at ho
      cases e
      obtain ⟨p, vs, rfl, h1, h2⟩ := hb.lst sf
      cases ry
      exact op_inDL (w := .none) hu I rx sf ha ho.1 h1 h2 ho.2 q
    · cases e
  · split at e
    · rename_i ho
      rw [Bool.and_eq_true] at ho
      cases e
      obtain ⟨p, vs, rfl, h1, h2⟩ := hb.tup
      cases ry
      exact op_inDT (w := .none) hu I rx sf ha ho.1 (sf _ _ h1) h2 ho.2 q
    · cases e
  · cases e
theorem lenNe_at {pins : List (Addr × Obj)} {s : Shared} {x y : V} {a b : D} (I : Inv X pins σ H s) (sf : Same F H) (ha : PRep X.K F H x a) (hb : PRep X.K F H y b) (h : lenNe a b = true) :
    ∃ (l1 l2 : Addr) (i1 i2 : List Value) (z1 z2 : Unit), x = .ref l1 ∧ y = .ref l2 ∧ s.heap.IsList l1 i1.toArray ∧ s.heap.IsList l2 i2.toArray ∧ (i1.toArray.size != i2.toArray.size) = true := by
  unfold lenNe at h
  split at h
  · obtain ⟨p, vs, rfl, h1, r1⟩ := ha.lst sf
    obtain ⟨q, ws, rfl, h2, r2⟩ := hb.lst sf
    obtain ⟨i1, c1, t1, _⟩ := I.list (.inl (.inl h1))
    obtain ⟨i2, c2, t2, _⟩ := I.list (.inl (.inl h2))
    refine ⟨p, q, i1, i2, (), (), rfl, rfl, t1.isList, t2.isList, ?_⟩
    have e1 := c1.length
    have e2 := c2.length
    have e3 := r1.len
    have e4 := r2.len
    have h := of_decide_eq_true h
    rw [bne_iff_ne, List.size_toArray, List.size_toArray]
    omega
  · cases h
theorem op_c (hu : X.A.units + 65 < cLine) {op : COp} : OpR X (compareOp op.py) (rC X.K op) := by
  intro pins s σ H x y u w Q I rx ry h
  obtain ⟨F, a, b, k, sf, ha, hb, e, q⟩ := h
  have int2 : ∀ {i j : Int} {op : CmpOp} {g : Int → Int → Bool}, OpR X (compareOp op) (rI0 fun i j => .bl (g i j)) → PRep X.K F H x (.int i) → PRep X.K F H y (.int j) → Q (.bl (g i j)) H → wpAny (model X.prog X.w) X.A (compareOp op u w) (EP X pins σ Q) X.xe s := by
    intro i j op g ho h1 h2 hq
    cases h1.int
    cases h2.int
    exact ho pins s σ H _ _ _ _ Q I rx ry ⟨i, j, rfl, rfl, hq⟩
  cases op with
  | eq =>
    simp only [cmpD, eqD] at e
    split at e
    · rename_i ho
      rw [Bool.and_eq_true] at ho
      cases e
      exact op_eqD (by omega) pins s σ H _ _ _ _ Q I rx ry ⟨a.p, b.p, ha.dp sf ho.1, hb.dp sf ho.2, okd_shaped ho.1 (by decide), okd_shaped ho.2 (by decide), by rw [eqv_p a b 60 60 ho.1 ho.2]; exact q⟩
    · split at e
      · rename_i hl
        cases e
        obtain ⟨l1, l2, i1, i2, z1, z2, rfl, rfl, h1, h2, hs⟩ := lenNe_at I sf ha hb hl
        cases rx
        cases ry
        exact SeqAt.RcAt.lists_lengths h1 h2 hs (by omega) X.prog X.w _ _ ⟨.bl _, H, I, rfl, q⟩
      · cases e
  | ne =>
    cases hlen : lenNe a b && !(a.okd 60 && b.okd 60) with
    | true =>
      rw [Bool.and_eq_true] at hlen
      have e1 : eqD a b = some false := by
        unfold eqD
        rw [if_neg (fun z => by have := hlen.2; rw [z] at this; cases this), if_pos hlen.1]
      simp only [cmpD, e1] at e
      cases e
      obtain ⟨l1, l2, i1, i2, z1, z2, rfl, rfl, h1, h2, hs⟩ := lenNe_at I sf ha hb hlen.1
      cases rx
      cases ry
      exact SeqAt.RcNeAt.lists_lengths h1 h2 hs (by omega) X.prog X.w _ _ ⟨.bl _, H, I, rfl, q⟩
    | false =>
    simp only [cmpD, eqD] at e
    split at e
    · rename_i ho
      rw [Bool.and_eq_true] at ho
      cases e
      exact op_neD (by omega) pins s σ H _ _ _ _ Q I rx ry ⟨a.p, b.p, ha.dp sf ho.1, hb.dp sf ho.2, okd_shaped ho.1 (by decide), okd_shaped ho.2 (by decide), by rw [eqv_p a b 60 60 ho.1 ho.2]; exact q⟩
    · rename_i ho
      split at e
      · rename_i hl
        rw [hl] at hlen
        exact absurd hlen (by simpa using ho)
      · cases e
  | inn => exact in_ok (ng := false) hu I rx ry sf ha hb e q
  | nin =>
    simp only [cmpD] at e
    cases hk : inD a b with
    | none => rw [hk] at e; cases e
    | some k' =>
      rw [hk] at e
      cases e
      exact in_ok (ng := true) hu I rx ry sf ha hb hk q
  | lt =>
    unfold cmpD at e
    split at e <;> first | contradiction | (cases e; rename_i h1 _ ; exact int2 op_lt ha hb q)
  | le =>
    unfold cmpD at e
    split at e <;> first | contradiction | (cases e; exact int2 op_le ha hb q)
  | gt =>
    unfold cmpD at e
    split at e <;> first | contradiction | (cases e; exact int2 op_gt ha hb q)
  | ge =>
    unfold cmpD at e
    split at e <;> first | contradiction | (cases e; exact int2 op_ge ha hb q)
end
end Rf

set_option Elab.async false
set_option linter.all false
set_option maxRecDepth 100000
set_option maxHeartbeats 1000000
namespace Rf
open PySem PySem.Spec PyProof.Rows L2
variable [Tb]

theorem PE.or {X : Cx} {pe : Expr} {t u : TE} (h : PE X pe t) (k : PE X pe u) : PE X pe (fun σ H Q => t σ H Q ∨ u σ H Q) :=
  ⟨fun pins s σ H Q I q => q.elim (h.run pins s σ H Q I) (k.run pins s σ H Q I)⟩
def cV : Option Bool → V
  | none => .non
  | some b => .bl b
section
variable {K : PySem.W.Frag} {F H F' H' : Hp} {σ : L2.St} {Γ : En} {v : V} {d : D} {ds : List D} {Q : VK} {X : Cx}
theorem PRep.bare (h : PRep K F H v d) : v = .non ∨ (∃ b, v = .bl b) ∨ (∃ i, v = .int i) ∨ (∃ x, v = .str x) ∨ ∃ a, v = .ref a := by
  rcases h with h | ⟨a, m, rfl, _⟩
  · cases h <;> simp
  · simp
theorem PRep.isN (h : PRep K F H v d) : decide (v = .non) = isC none d := by
  rcases h with h | ⟨a, m, rfl, rfl, _⟩
  · cases h <;> simp [isC]
  · cases m <;> simp [isC, M.d]
theorem PRep.isB (h : PRep K F H v d) (b : Bool) : decide (v = .bl b) = isC (some b) d := by
  rcases h with h | ⟨a, m, rfl, rfl, _⟩
  · cases h with
    | bl c => cases b <;> cases c <;> simp [isC]
    | _ => simp [isC]
  · cases m <;> simp [isC, M.d]
def rIs (K : PySem.W.Frag) (ng : Bool) (c : Option Bool) : R2 := fun x y H Q => ∃ F d, PRep K F H x d ∧ y = cV c ∧ Q (.bl (if ng then !isC c d else isC c d)) H
theorem op_is (ng : Bool) (c : Option Bool) : OpR X (compareOp (if ng then .IsNot else .Is)) (rIs X.K ng c) := by
  intro pins s σ H x y v u Q I rx ry h
  obtain ⟨F, d, hd, rfl, q⟩ := h
  cases c with
  | none =>
    rw [← hd.isN] at q
    cases ng with
    | false => exact op_isN pins s σ H _ _ _ _ Q I rx ry ⟨rfl, q⟩
    | true => exact op_notN pins s σ H _ _ _ _ Q I rx ry ⟨rfl, q⟩
  | some b =>
    rw [← hd.isB] at q
    cases (show u = Value.bool b from ry)
    have hb : plainIs v (.bool b) = true ∧ (v == Value.bool b) = decide (x = .bl b) := by
      rcases hd.bare with rfl | ⟨c, rfl⟩ | ⟨i, rfl⟩ | ⟨z, rfl⟩ | ⟨a, rfl⟩
      · cases (show v = Value.none from rx); exact ⟨rfl, by rw [decide_eq_false (fun z => nomatch z)]; exact beq_eq_false_iff_ne.mpr (fun z => nomatch z)⟩
      · cases (show v = Value.bool c from rx)
        refine ⟨rfl, ?_⟩
        by_cases e : c = b
        · subst e; simp
        · have : ¬ (V.bl c = V.bl b) := fun z => e (V.bl.inj z)
          rw [decide_eq_false this]
          exact beq_eq_false_iff_ne.mpr fun z => e (Value.bool.inj z)
      · obtain ⟨t, rfl⟩ := rx; exact ⟨rfl, by rw [decide_eq_false (fun z => nomatch z)]; exact beq_eq_false_iff_ne.mpr (fun z => nomatch z)⟩
      · obtain ⟨t, rfl⟩ := rx; exact ⟨rfl, by rw [decide_eq_false (fun z => nomatch z)]; exact beq_eq_false_iff_ne.mpr (fun z => nomatch z)⟩
      · cases (show v = Value.ref a from rx); exact ⟨rfl, by rw [decide_eq_false (fun z => nomatch z)]; exact beq_eq_false_iff_ne.mpr (fun z => nomatch z)⟩
    cases ng with
    | false => exact wpAny_is_plain hb.1 ⟨.bl _, H, I, rfl, by rw [hb.2]; exact q⟩
    | true => exact wpAny_isNot_plain hb.1 ⟨.bl _, H, I, rfl, by rw [hb.2]; exact q⟩

/-! ### truth -/
theorem tru_of (s : Same F H) {k : Bool} (h : PRep K F H v d) (e : truD d = some k) : TruV K v H k := by
  cases d with
  | non => cases h.non; cases e; rfl
  | bl b => cases h.bl; cases e; rfl
  | int i => cases h.int; cases e; rfl
  | lst ds =>
    obtain ⟨a, vs, rfl, h1, h2⟩ := h.lst s
    cases e
    refine .inl ⟨vs, .inl (.inl h1), ?_⟩
    cases h2 <;> rfl
  | tup ds =>
    obtain ⟨a, vs, rfl, h1, h2⟩ := h.tup
    cases e
    refine .inr (.inl ⟨vs, .inl (.inl (s _ _ h1)), ?_⟩)
    cases h2 <;> rfl
  | str _ => cases e
  | dct _ _ => cases e
  | ins _ _ _ => cases e
  | fn _ => cases e
  | scr _ => cases e
  | exc _ => cases e

/-! ### places -/
theorem Reps.atI {vs : List V} {i : Int} {d : D} (r : Reps K F vs ds) (e : L2.atI ds i = some d) : ∃ v, L2.atI vs i = some v ∧ Rep K F v d := by
  unfold L2.atI at e ⊢
  rw [r.len]
  cases h : ixN ds.length i with
  | none => rw [h] at e; cases e
  | some k =>
    rw [h] at e
    obtain ⟨v, h1, h2⟩ := r.get (i := k) (d := d) e
    exact ⟨v, h1, h2⟩
theorem lk_val {ks : List Key} {x : Key} : ∀ {vs : List V} {ds : List D} {d : D}, Reps K F vs ds → lk x ks ds = some d → ∃ v, valV (ks.zip vs) x = some v ∧ Rep K F v d := by
  induction ks with
  | nil => intro vs ds d r e; cases ds <;> simp [lk] at e
  | cons k ks ih =>
    intro vs ds d r e
    cases r with
    | nil => simp [lk] at e
    | cons h r =>
      by_cases hk : k = x
      · simp only [lk, if_pos hk] at e
        cases e
        exact ⟨_, by rw [List.zip_cons_cons, valV_pos hk], h⟩
      · simp only [lk, if_neg hk] at e
        obtain ⟨v, h1, h2⟩ := ih r e
        exact ⟨v, by rw [List.zip_cons_cons, valV_neg hk]; exact h1, h2⟩
theorem lk_lookup {ks : List Str} {x : Str} : ∀ {vs : List V} {ds : List D} {d : D}, Reps K F vs ds → lk x ks ds = some d → ∃ v, (ks.zip vs).lookup x = some v ∧ Rep K F v d := by
  induction ks with
  | nil => intro vs ds d r e; cases ds <;> simp [lk] at e
  | cons k ks ih =>
    intro vs ds d r e
    cases r with
    | nil => simp [lk] at e
    | cons h r =>
      by_cases hk : k = x
      · simp only [lk, if_pos hk] at e
        cases e
        exact ⟨_, by subst hk; simp, h⟩
      · simp only [lk, if_neg hk] at e
        obtain ⟨v, h1, h2⟩ := ih r e
        refine ⟨v, ?_, h2⟩
        rw [List.zip_cons_cons, List.lookup_cons]
        have : (x == k) = false := beq_eq_false_iff_ne.mpr fun z => hk z.symm
        rw [this]
        exact h1

/-- a[b] by values -/
def rIxD (K : PySem.W.Frag) : R2 := fun x y H Q => ∃ F a b d, Same F H ∧ PRep K F H x a ∧ PRep K F H y b ∧ ixD a b = some d ∧ ∀ v, Rep K F v d → Q v H
theorem ix_dict (hu : X.A.units + 1 < cLine) : IxR X (fun x y H Q => ∃ a v, x = .ref a ∧ DGet H a y (some v) ∧ Q v H) := by
  intro value slice pins s σ H x y o i Q I rx ry h hs
  obtain ⟨a, v, rfl, g, q⟩ := h
  obtain rfl : o = Value.ref a := rx
  have hT := dict_typeIs I g
  unfold subscriptTail
  refine wpAny_bind ?_
  rw [getitemInPython_of_ne hT.not_modules]
  refine wpAny_bind (wpAny_specialOf hT PySem.F.slot_dict_getitem.lookup ?_)
  have fin : wpAny (model X.prog X.w) X.A (subscripted slice false (.ref a) i) (fun r s₃ => wpAny (model X.prog X.w) X.A (letTemporaryGo value (.ref a) r >>= fun _ => pure r) (EP X pins σ Q) X.xe s₃) X.xe s := by
    rw [hs]
    exact wpAny_operating (wpAny_mono (d_getItem hu I g ry fun w' s3 I3 rw' => (⟨v, H, I3, rw', q⟩ : EP X pins σ Q w' s3)) (fun r s₃ h₃ => wpAny_bind (wpAny_letTemporaryGo (wpAny_pure h₃))) fun _ _ x => x)
  first
    | exact wpAny_pure (wpAny_bind fin)
    | exact wpAny_bind (wpAny_pure (wpAny_bind fin))
    | exact wpAny_bind fin
theorem ix_d (hu : X.A.units + 1 < cLine) : IxR X (rIxD X.K) := by
  intro a b pins s2 σ H2 x y v u Q I2 rx ry q2 hs
  obtain ⟨F, da, db, d, sf, pa, pb, e, q⟩ := q2
  unfold ixD at e
  split at e
  · obtain ⟨p, vs, rfl, h1, h2⟩ := pa.lst sf
    obtain ⟨w, e1, e2⟩ := h2.atI e
    cases pb.int
    exact ix_list a b pins s2 σ H2 _ _ v u Q I2 rx ry ⟨p, vs, _, w, rfl, rfl, .inl (.inl h1), e1, q w e2⟩ hs
  · obtain ⟨p, vs, rfl, h1, h2⟩ := pa.tup
    obtain ⟨w, e1, e2⟩ := h2.atI e
    cases pb.int
    exact ix_tup a b pins s2 σ H2 _ _ v u Q I2 rx ry ⟨p, vs, _, w, rfl, rfl, .inl (.inl (sf _ _ h1)), e1, q w e2⟩ hs
  · obtain ⟨p, vs, rfl, h1, h2, h3⟩ := pa.dct sf
    obtain ⟨w, e1, e2⟩ := lk_val h3 e
    cases pb.str
    rename_i z
    have g := DGet.k (k := Sum.inr z) h1
    rw [e1] at g
    exact ix_dict hu a b pins s2 σ H2 _ _ v u Q I2 rx ry ⟨p, w, rfl, g, q w e2⟩ hs
  · cases e

/-! ### slices -/
theorem cutV_rep {vs : List V} (r : Reps K F vs ds) (lo hi : Option Int) : Reps K F (cutV vs lo hi) (cutL ds lo hi) := by
  unfold cutV cutL
  rw [r.len]
  exact (r.drop _).take _
theorem cutL_len (ds : List D) (lo hi : Option Int) : (cutL ds lo hi).length ≤ ds.length := by
  unfold cutL
  rw [List.length_take, List.length_drop]
  omega
def rSl (K : PySem.W.Frag) : V → Option Int → Option Int → Hp → VK → Prop := fun x lo hi H Q => ∃ F a r, Same F H ∧ PRep K F H x a ∧ cutD a lo hi = some r ∧ Gives K F H r Q
theorem sl_d : SlR X (rSl X.K) := by
  intro pins s σ H x v vl vu lo hi sl Q I rx hs pl pu h
  obtain ⟨F, a, r, sf, pa, e, g⟩ := h
  unfold cutD at e
  split at e
  · cases e
    obtain ⟨p, vs, rfl, h1, h2⟩ := pa.lst sf
    exact sl_list pins s σ H _ v vl vu lo hi sl Q I rx hs pl pu ⟨p, vs, rfl, .inl (.inl h1), fun q hq => g.lst sf (cutV_rep h2 lo hi) hq⟩
  · cases e
    obtain ⟨p, vs, rfl, h1, h2⟩ := pa.tup
    refine sl_tupA pins s σ H _ v vl vu lo hi sl Q I rx hs pl pu ⟨p, vs, rfl, .inl (.inl (sf _ _ h1)), fun z => ?_, fun _ q hq => g.tup sf (cutV_rep h2 lo hi) hq⟩
    refine g.scal sf ?_
    have e2 : cutV vs lo hi = vs := by unfold cutV; rw [z.1, z.2]; simp
    have h3 := cutV_rep h2 lo hi
    rw [e2] at h3
    exact .tup h1 h3
  · cases e

/-! ### built-in functions -/
theorem PReps.one {d : D} {xs : List V} (h : PReps K F H xs [d]) : ∃ x, xs = [x] ∧ PRep K F H x d := by
  cases h with
  | cons h r => cases r; exact ⟨_, rfl, h⟩
theorem PReps.two {d e : D} {xs : List V} (h : PReps K F H xs [d, e]) : ∃ x y, xs = [x, y] ∧ PRep K F H x d ∧ PRep K F H y e := by
  cases h with
  | cons h r =>
    cases r with
    | cons h2 r => cases r; exact ⟨_, _, rfl, h, h2⟩
theorem maxI_max {x : Int} {xs : List Int} {m : Int} (hm : m ∈ x :: xs) (ha : ∀ y, y ∈ x :: xs → y ≤ m) : xs.foldl max x = m := by
  have key : ∀ (xs : List Int) (x : Int), x ≤ xs.foldl max x ∧ (∀ y ∈ xs, y ≤ xs.foldl max x) ∧ (xs.foldl max x = x ∨ xs.foldl max x ∈ xs) := by
    intro xs
    induction xs with
    | nil => intro x; exact ⟨Int.le_refl _, fun y h => absurd h (by simp), .inl rfl⟩
    | cons z zs ih =>
      intro x
      obtain ⟨h1, h2, h3⟩ := ih (max x z)
      simp only [List.foldl_cons]
      refine ⟨by omega, fun y hy => ?_, ?_⟩
      · rcases List.mem_cons.mp hy with rfl | hy
        · omega
        · exact h2 y hy
      · rcases h3 with h3 | h3
        · by_cases hxz : x ≤ z
          · right; rw [h3, Int.max_eq_right hxz]; simp
          · left; rw [h3]; omega
        · right; exact List.mem_cons_of_mem _ h3
  obtain ⟨h1, h2, h3⟩ := key xs x
  have hle : xs.foldl max x ≤ m := by
    rcases h3 with h3 | h3
    · rw [h3]; exact ha x (by simp)
    · exact ha _ (List.mem_cons_of_mem _ h3)
  rcases List.mem_cons.mp hm with rfl | hm
  · omega
  · have := h2 m hm; omega
theorem minI_min {x : Int} {xs : List Int} {m : Int} (hm : m ∈ x :: xs) (ha : ∀ y, y ∈ x :: xs → m ≤ y) : xs.foldl min x = m := by
  have key : ∀ (xs : List Int) (x : Int), xs.foldl min x ≤ x ∧ (∀ y ∈ xs, xs.foldl min x ≤ y) ∧ (xs.foldl min x = x ∨ xs.foldl min x ∈ xs) := by
    intro xs
    induction xs with
    | nil => intro x; exact ⟨Int.le_refl _, fun y h => absurd h (by simp), .inl rfl⟩
    | cons z zs ih =>
      intro x
      obtain ⟨h1, h2, h3⟩ := ih (min x z)
      simp only [List.foldl_cons]
      refine ⟨by omega, fun y hy => ?_, ?_⟩
      · rcases List.mem_cons.mp hy with rfl | hy
        · omega
        · exact h2 y hy
      · rcases h3 with h3 | h3
        · by_cases hxz : x ≤ z
          · left; rw [h3]; omega
          · right; rw [h3, Int.min_eq_right (by omega)]; simp
        · right; exact List.mem_cons_of_mem _ h3
  obtain ⟨h1, h2, h3⟩ := key xs x
  have hle : m ≤ xs.foldl min x := by
    rcases h3 with h3 | h3
    · rw [h3]; exact ha x (by simp)
    · exact ha _ (List.mem_cons_of_mem _ h3)
  rcases List.mem_cons.mp hm with rfl | hm
  · omega
  · have := h2 m hm; omega
theorem sorted_one {ns ms : List Int} (p : ms.Perm ns) (s : ms.Pairwise (· ≤ ·)) : ms = sortI ns := by
  have h1 : (sortI ns).Perm ns := List.mergeSort_perm ns _
  have h2 : (sortI ns).Pairwise (fun a b => decide (a ≤ b) = true) := List.pairwise_mergeSort (le := fun a b => decide (a ≤ b)) (by intro a b c h k; simp at *; omega) (by intro a b; simp; omega) ns
  exact List.Perm.eq_of_pairwise (le := (· ≤ ·)) (fun a b _ _ h k => Int.le_antisymm h k) s (h2.imp fun h => of_decide_eq_true h) (p.trans h1.symm)
def rBl (K : PySem.W.Frag) (f : Bl) : List V → Hp → VK → Prop := fun xs H Q => ∃ F ds r, Same F H ∧ PReps K F H xs ds ∧ bltD f ds = some r ∧ Gives K F H r Q

theorem bl_eq {f g : Str} (h : f = g) {α : Sort _} {a b : α} : (if f = g then a else b) = a := if_pos h
theorem bl_len : CallR X (.builtin "len") (rBl X.K .len) := by
  intro pins s σ H xs us Q I r h
  obtain ⟨F, ds, r', sf, hp, e, g⟩ := h
  simp only [bltD, bLen] at e
  split at e
  · cases e
    obtain ⟨x, rfl, h1⟩ := hp.one
    obtain ⟨p, vs, rfl, h1, h2⟩ := h1.lst sf
    exact call_len_seq pins s σ H _ us Q I r ⟨p, vs, rfl, .inl (.inl (.inl h1)), g.scal sf (by rw [h2.len]; exact .int _)⟩
  · cases e
    obtain ⟨x, rfl, h1⟩ := hp.one
    obtain ⟨p, vs, rfl, h1, h2⟩ := h1.tup
    exact call_len_seq pins s σ H _ us Q I r ⟨p, vs, rfl, .inr (.inl (.inl (sf _ _ h1))), g.scal sf (by rw [h2.len]; exact .int _)⟩
  · cases e
    obtain ⟨x, rfl, h1⟩ := hp.one
    obtain ⟨p, rfl, h2⟩ := h1.scr
    exact call_len_seq pins s σ H _ us Q I r ⟨p, _, rfl, .inl (sf.seq h2), g.scal sf (by rw [List.length_map]; exact .int _)⟩
  · cases e
theorem bl_int : CallR X (.type "int") (rBl X.K .int) := by
  intro pins s σ H xs us Q I r h
  obtain ⟨F, ds, r', sf, hp, e, g⟩ := h
  simp only [bltD, bInt] at e
  split at e
  · cases e
    obtain ⟨x, rfl, h1⟩ := hp.one
    cases h1.int
    exact call_int1 pins s σ H _ us Q I r (.inl ⟨_, rfl, g.scal sf (.int _)⟩)
  · cases e
    obtain ⟨x, rfl, h1⟩ := hp.one
    cases h1.bl
    exact call_int1 pins s σ H _ us Q I r (.inr ⟨_, rfl, g.scal sf (.int _)⟩)
  · cases e
theorem bl_abs : CallR X (.builtin "abs") (rBl X.K .abs) := by
  intro pins s σ H xs us Q I r h
  obtain ⟨F, ds, r', sf, hp, e, g⟩ := h
  simp only [bltD, bAbs] at e
  split at e
  · cases e
    obtain ⟨x, rfl, h1⟩ := hp.one
    cases h1.int
    exact call_abs pins s σ H _ us Q I r ⟨_, rfl, g.scal sf (.int _)⟩
  · cases e
theorem foldl_maxOf : ∀ (xs : List Int) (x : Int), PySem.W.maxOf x xs = xs.foldl max x
  | [], x => rfl
  | y :: ys, x => by
    have e : (if PySem.W.DatumOrd.lt x y = true then y else x) = max x y := by
      show (if decide (x < y) = true then y else x) = max x y
      by_cases h : x < y
      · rw [if_pos (decide_eq_true h), Int.max_eq_right (by omega)]
      · rw [if_neg (by simpa using h), Int.max_eq_left (by omega)]
    show ys.foldl _ (if PySem.W.DatumOrd.lt x y = true then y else x) = _
    rw [e]
    exact foldl_maxOf ys (max x y)
theorem foldl_minOf : ∀ (xs : List Int) (x : Int), PySem.W.minOf x xs = xs.foldl min x
  | [], x => rfl
  | y :: ys, x => by
    have e : (if PySem.W.DatumOrd.lt y x = true then y else x) = min x y := by
      show (if decide (y < x) = true then y else x) = min x y
      by_cases h : y < x
      · rw [if_pos (decide_eq_true h), Int.min_eq_right (by omega)]
      · rw [if_neg (by simpa using h), Int.min_eq_left (by omega)]
    show ys.foldl _ (if PySem.W.DatumOrd.lt y x = true then y else x) = _
    rw [e]
    exact foldl_minOf ys (min x y)
theorem cr_maxT (hc : X.calm = true) (hu : X.A.units + 1 < cLine) : CallR X (.builtin "max") (fun vs H Q => ∃ (a : Addr) (n : Int) (ns : List Int), vs = [V.ref a] ∧ SqT X.K H a ((n :: ns).map V.int) ∧ Q (.int (ns.foldl max n)) H) := by
  intro pins s σ H vs us Q I r h
  obtain ⟨a, n, ns, rfl, hs, q⟩ := h
  obtain ⟨its, rv, hl, _⟩ := I.tuple hs
  rw [Vals.ref1 r]
  refine PySem.W.max_tuple_datum (α := Int) (x := n) (xs := ns) (I.ok.hd hc) hl (PySem.W.HoldAll.of_ints rv.ints) hu fun i v h' tk _ hv hk => ?_
  obtain ⟨t, rfl⟩ := PySem.W.int_of_holds hv
  rw [foldl_maxOf]
  exact ⟨.int _, H, I.kept hk, ⟨_, rfl⟩, q⟩
theorem cr_minT (hc : X.calm = true) (hu : X.A.units + 1 < cLine) : CallR X (.builtin "min") (fun vs H Q => ∃ (a : Addr) (n : Int) (ns : List Int), vs = [V.ref a] ∧ SqT X.K H a ((n :: ns).map V.int) ∧ Q (.int (ns.foldl min n)) H) := by
  intro pins s σ H vs us Q I r h
  obtain ⟨a, n, ns, rfl, hs, q⟩ := h
  obtain ⟨its, rv, hl, _⟩ := I.tuple hs
  rw [Vals.ref1 r]
  refine PySem.W.min_tuple_datum (α := Int) (x := n) (xs := ns) (I.ok.hd hc) hl (PySem.W.HoldAll.of_ints rv.ints) hu fun i v h' tk _ hv hk => ?_
  obtain ⟨t, rfl⟩ := PySem.W.int_of_holds hv
  rw [foldl_minOf]
  exact ⟨.int _, H, I.kept hk, ⟨_, rfl⟩, q⟩
theorem bl_max (hc : X.calm = true) (hu : X.A.units + 1 < cLine) : CallR X (.builtin "max") (rBl X.K .max) := by
  intro pins s σ H xs us Q I r h
  obtain ⟨F, ds, r', sf, hp, e, g⟩ := h
  simp only [bltD, bMax] at e
  split at e
  · rename_i ys
    obtain ⟨x, rfl, h1⟩ := hp.one
    obtain ⟨p, vs, rfl, h1, h2⟩ := h1.lst sf
    cases hI : allI ys with
    | none => rw [hI] at e; cases e
    | some ns =>
      rw [hI] at e
      cases ns with
      | nil => cases e
      | cons n ns =>
        cases e
        have hv := h2.ints hI
        subst hv
        refine cr_max hc pins s σ H _ us Q I r ⟨p, n :: ns, rfl, .inl (.inl h1), by simp, fun m hm ha => ?_⟩
        rw [← maxI_max hm ha]
        exact g.scal sf (.int _)
  · rename_i ys
    obtain ⟨x, rfl, h1⟩ := hp.one
    obtain ⟨p, vs, rfl, h1, h2⟩ := h1.tup
    cases hI : allI ys with
    | none => rw [hI] at e; cases e
    | some ns =>
      rw [hI] at e
      cases ns with
      | nil => cases e
      | cons n ns =>
        cases e
        have hv := h2.ints hI
        subst hv
        exact cr_maxT hc hu pins s σ H _ us Q I r ⟨p, n, ns, rfl, .inl (.inl (sf _ _ h1)), g.scal sf (.int _)⟩
  · cases e
    obtain ⟨x, y, rfl, h1, h2⟩ := hp.two
    cases h1.int
    cases h2.int
    exact call_max2 hc pins s σ H _ us Q I r ⟨_, _, rfl, g.scal sf (.int _)⟩
  · cases e
theorem bl_min (hc : X.calm = true) (hu : X.A.units + 1 < cLine) : CallR X (.builtin "min") (rBl X.K .min) := by
  intro pins s σ H xs us Q I r h
  obtain ⟨F, ds, r', sf, hp, e, g⟩ := h
  simp only [bltD, bMin] at e
  split at e
  · rename_i ys
    obtain ⟨x, rfl, h1⟩ := hp.one
    obtain ⟨p, vs, rfl, h1, h2⟩ := h1.lst sf
    cases hI : allI ys with
    | none => rw [hI] at e; cases e
    | some ns =>
      rw [hI] at e
      cases ns with
      | nil => cases e
      | cons n ns =>
        cases e
        have hv := h2.ints hI
        subst hv
        refine cr_min hc pins s σ H _ us Q I r ⟨p, n :: ns, rfl, .inl (.inl h1), by simp, fun m hm ha => ?_⟩
        rw [← minI_min hm ha]
        exact g.scal sf (.int _)
  · rename_i ys
    obtain ⟨x, rfl, h1⟩ := hp.one
    obtain ⟨p, vs, rfl, h1, h2⟩ := h1.tup
    cases hI : allI ys with
    | none => rw [hI] at e; cases e
    | some ns =>
      rw [hI] at e
      cases ns with
      | nil => cases e
      | cons n ns =>
        cases e
        have hv := h2.ints hI
        subst hv
        exact cr_minT hc hu pins s σ H _ us Q I r ⟨p, n, ns, rfl, .inl (.inl (sf _ _ h1)), g.scal sf (.int _)⟩
  · cases e
    obtain ⟨x, y, rfl, h1, h2⟩ := hp.two
    cases h1.int
    cases h2.int
    exact call_min2 hc pins s σ H _ us Q I r ⟨_, _, rfl, g.scal sf (.int _)⟩
  · cases e
theorem bl_sum (hc : X.calm = true) : CallR X (.builtin "sum") (rBl X.K .sum) := by
  intro pins s σ H xs us Q I r h
  obtain ⟨F, ds, r', sf, hp, e, g⟩ := h
  simp only [bltD, bSum] at e
  split at e
  · rename_i ys
    obtain ⟨x, rfl, h1⟩ := hp.one
    obtain ⟨p, vs, rfl, h1, h2⟩ := h1.lst sf
    cases hI : allI ys with
    | none => rw [hI] at e; cases e
    | some ns =>
      rw [hI] at e
      cases e
      cases h2.ints hI
      exact cr_sum hc pins s σ H _ us Q I r ⟨p, ns, rfl, .inl (.inl h1), g.scal sf (.int _)⟩
  · cases e
theorem bl_all (hc : X.calm = true) : CallR X (.builtin "all") (rBl X.K .all) := by
  intro pins s σ H xs us Q I r h
  obtain ⟨F, ds, r', sf, hp, e, g⟩ := h
  simp only [bltD, bAll] at e
  split at e
  · rename_i ys
    obtain ⟨x, rfl, h1⟩ := hp.one
    obtain ⟨p, vs, rfl, h1, h2⟩ := h1.lst sf
    cases hI : allB ys with
    | none => rw [hI] at e; cases e
    | some ns =>
      rw [hI] at e
      cases e
      cases h2.bls hI
      exact cr_all hc pins s σ H _ us Q I r ⟨p, ns, rfl, .inl (.inl h1), g.scal sf (.bl _)⟩
  · cases e
theorem bl_any (hc : X.calm = true) : CallR X (.builtin "any") (rBl X.K .any) := by
  intro pins s σ H xs us Q I r h
  obtain ⟨F, ds, r', sf, hp, e, g⟩ := h
  simp only [bltD, bAny] at e
  split at e
  · rename_i ys
    obtain ⟨x, rfl, h1⟩ := hp.one
    obtain ⟨p, vs, rfl, h1, h2⟩ := h1.lst sf
    cases hI : allB ys with
    | none => rw [hI] at e; cases e
    | some ns =>
      rw [hI] at e
      cases e
      cases h2.bls hI
      exact cr_any hc pins s σ H _ us Q I r ⟨p, ns, rfl, .inl (.inl h1), g.scal sf (.bl _)⟩
  · cases e
theorem bl_list : CallR X (.type "list") (rBl X.K .list) := by
  intro pins s σ H xs us Q I r h
  obtain ⟨F, ds, r', sf, hp, e, g⟩ := h
  simp only [bltD, bList] at e
  split at e
  · cases e
    obtain ⟨x, rfl, h1⟩ := hp.one
    obtain ⟨p, vs, rfl, h1, h2⟩ := h1.lst sf
    exact call_list_of pins s σ H _ us Q I r ⟨p, vs, rfl, .inl (.inl (.inl h1)), fun l hl => g.lst sf h2 hl⟩
  · cases e
    obtain ⟨x, rfl, h1⟩ := hp.one
    obtain ⟨p, vs, rfl, h1, h2⟩ := h1.tup
    exact call_list_of pins s σ H _ us Q I r ⟨p, vs, rfl, .inr (.inl (.inl (sf _ _ h1))), fun l hl => g.lst sf h2 hl⟩
  · cases e
    obtain ⟨x, rfl, h1⟩ := hp.one
    obtain ⟨p, rfl, h2⟩ := h1.scr
    exact call_list_of pins s σ H _ us Q I r ⟨p, _, rfl, .inl (sf.seq h2), fun l hl => g.lst sf (Reps.ofInts _) hl⟩
  · cases e
theorem bl_tuple : CallR X (.type "tuple") (rBl X.K .tuple) := by
  intro pins s σ H xs us Q I r h
  obtain ⟨F, ds, r', sf, hp, e, g⟩ := h
  simp only [bltD, bTuple] at e
  split at e
  · cases e
    obtain ⟨x, rfl, h1⟩ := hp.one
    obtain ⟨p, vs, rfl, h1, h2⟩ := h1.lst sf
    exact call_tuple_of pins s σ H _ us Q I r ⟨p, vs, rfl, .inl ⟨.inl (.inl h1), fun l hl => g.tup sf h2 hl⟩⟩
  · cases e
    obtain ⟨x, rfl, h1⟩ := hp.one
    obtain ⟨p, vs, rfl, h1, h2⟩ := h1.tup
    exact call_tuple_of pins s σ H _ us Q I r ⟨p, vs, rfl, .inr ⟨.inl (.inl (sf _ _ h1)), g.scal sf (.tup h1 h2)⟩⟩
  · cases e
theorem bl_gcd : CallR X (.builtin "math.gcd") (rBl X.K .gcd) := by
  intro pins s σ H xs us Q I r h
  obtain ⟨F, ds, r', sf, hp, e, g⟩ := h
  simp only [bltD, bGcd] at e
  split at e
  · cases e
    obtain ⟨x, y, rfl, h1, h2⟩ := hp.two
    cases h1.int
    cases h2.int
    exact cr_gcd pins s σ H _ us Q I r ⟨_, _, rfl, g.scal sf (.int _)⟩
  · cases e
theorem bl_sorted : CallR X (.builtin "sorted") (rBl X.K .sorted) := by
  intro pins s σ H xs us Q I r h
  obtain ⟨F, ds, r', sf, hp, e, g⟩ := h
  simp only [bltD, bSorted] at e
  split at e
  · rename_i ys
    obtain ⟨x, rfl, h1⟩ := hp.one
    obtain ⟨p, vs, rfl, h1, h2⟩ := h1.lst sf
    cases hI : allI ys with
    | none => rw [hI] at e; cases e
    | some ns =>
      rw [hI] at e
      cases e
      cases h2.ints hI
      refine cr_sortedI pins s σ H _ us Q I r ⟨p, ns, rfl, .inl (.inl h1), fun ns' q hq hs hn => ?_⟩
      rw [sorted_one hq hs]
      exact g.lst sf (Reps.ofInts _) hn
  · cases e
end
end Rf

set_option Elab.async false
set_option linter.all false
set_option maxRecDepth 100000
set_option maxHeartbeats 1000000
namespace Rf
open PySem PySem.Spec PyProof.Rows L2
variable [Tb]

def Ty.nm : Ty → String
  | .int => "int" | .bool => "bool" | .str => "str" | .list => "list" | .tuple => "tuple" | .dict => "dict" | .own _ => ""
/-- a class as a value -/
def Ty.v (K : PySem.W.Frag) : Ty → V
  | .own C => .ref (He.ga K C)
  | t => .ty t.nm
def Ty.u (K : PySem.W.Frag) : Ty → Value
  | .own C => .ref (He.ga K C)
  | t => .type t.nm
theorem Ty.cls (K : PySem.W.Frag) (t : Ty) : ClsV (t.v K) (t.u K) := by cases t <;> constructor
/-- what the top must have made of the own classes -/
structure OwnOk (K : PySem.W.Frag) (mg : Str → Option Value) (cx : CtxR) : Prop where
  cl : ∀ C ∈ cx.cls.map (·.1), Cls K (He.ga K C)
  hc : ∀ C ∈ cx.cls.map (·.1), PySem.W.findIn K (.ref (He.ga K C)) "__class__" = some (some (.builtin "object.__class__"))
  hm : ∀ C ∈ cx.cls.map (·.1), PySem.W.mroIn K (He.ga K C) (.type "object") = some true
  hn : cx.cls ≠ [] → PySem.W.specialIn K (.builtin "object.__class__") "__get__" = some (some (.builtin "getset_descriptor.__get__"))
  ht : cx.cls ≠ [] → PySem.W.takesIn K (.builtin "object.__class__") = some true
  k1 : ∀ C ∈ cx.cls.map (·.1), ∀ T ∈ baseTys, PySem.W.kitOne K (.type T) (.ref (He.ga K C)) = some false
  k2 : ∀ C ∈ cx.cls.map (·.1), ∀ C' ∈ cx.cls.map (·.1), PySem.W.kitOne K (.ref (He.ga K C)) (.ref (He.ga K C')) = some (decide (C = C'))
  k3 : ∀ C ∈ cx.cls.map (·.1), ∀ T ∈ askTys, PySem.W.kitOne K (.ref (He.ga K C)) (.type T) = some false
  no : ∀ p ∈ cx.cls, ∀ f ∈ p.2, NoAttr K (He.ga K p.1) f
  mkr : ∀ C ∈ cx.cls.map (·.1), Mk K (He.ga K C) (He.ma K (He.ga K C) "__init__")
  glo : ∀ C ∈ cx.cls.map (·.1), mg C = some (.ref (He.ga K C))
theorem ownB_ok {K : PySem.W.Frag} {h : Heap} {mg : Str → Option Value} {cx : CtxR} (X : K.In h) (G : h.Ns mainGlobals mg) (e : ownB K cx = true) : OwnOk K mg cx := by
  unfold ownB at e
  simp only [Bool.and_eq_true, List.all_eq_true, decide_eq_true_eq, Bool.or_eq_true, List.isEmpty_iff] at e
  obtain ⟨⟨e1, e2⟩, e3⟩ := e
  exact {
    cl := fun C h => He.cls_ok (e1 C h).1.1.1.1.1.1.1
    mkr := fun C h => He.mkr_ok (e1 C h).1.1.1.1.1.1.2
    glo := fun C h => He.glo_ok X G (e1 C h).1.1.1.1.1.2
    hc := fun C h => (e1 C h).1.1.1.1.2
    hm := fun C h => (e1 C h).1.1.1.2
    k1 := fun C h T t => (e1 C h).1.1.2 T t
    k3 := fun C h T t => (e1 C h).1.2 T t
    k2 := fun C h C' h' => (e1 C h).2 C' h'
    hn := fun hne => (e2.resolve_left hne).1
    ht := fun hne => (e2.resolve_left hne).2
    no := fun p hp f hf => e3 p hp f hf }
section
variable {K : PySem.W.Frag} {mg : Str → Option Value} {cx : CtxR} {F H F' H' : Hp} {σ : L2.St} {Γ : En} {v : V} {d : D} {ds : List D} {Q : VK} {X : Cx}
/-- the type of data as isinstance sees it -/
def tyU (K : PySem.W.Frag) : D → Value
  | .non => .type "NoneType" | .bl _ => .type "bool" | .int _ => .type "int" | .str _ => .type "str"
  | .tup _ => .type "tuple" | .lst _ => .type "list" | .dct _ _ => .type "dict"
  | .ins C _ _ => .ref (He.ga K C)
  | _ => .none
theorem mem_cls {C : Str} (h : (cx.cls.map (·.1)).contains C = true) : C ∈ cx.cls.map (·.1) := List.contains_iff_mem.mp h
theorem isi1_ok (O : OwnOk K mg cx) (s : Same F H) (h : PRep K F H v d) {t : Ty} {b : Bool} (e : isi1 cx d t = some b) : TyX K H v (tyU K d) ∧ PySem.W.kitOne K (tyU K d) (t.u K) = some b := by
  have hty : (∀ f, d ≠ .fn f) → (∀ ns, d ≠ .scr ns) → (∀ a, d ≠ .exc a) → (∀ C ns es, d = .ins C ns es → C ∈ cx.cls.map (·.1)) → TyX K H v (tyU K d) := by
    intro n1 n2 n4 n3
    cases d with
    | non => cases h.non; exact .base .non
    | bl b => cases h.bl; exact .base (.bl b)
    | int i => cases h.int; exact .base (.int i)
    | str x => cases h.str; exact .base (.str x)
    | tup ds => obtain ⟨a, vs, rfl, h1, h2⟩ := h.tup; exact .base (.tup (s _ _ h1))
    | lst ds => obtain ⟨a, vs, rfl, h1, h2⟩ := h.lst s; exact .base (.lst h1)
    | dct ks ds => obtain ⟨a, vs, rfl, h1, h2⟩ := h.dct s; exact .base (.dK h1)
    | ins C ns ds =>
      obtain ⟨a, dx, vs, rfl, h1, h2⟩ := h.ins s
      have hC := n3 C ns ds rfl
      have hne : cx.cls ≠ [] := fun z => by rw [z] at hC; cases hC
      exact .base (.ins h1 (O.cl C hC) (O.hc C hC) (O.hn hne) (O.ht hne) (O.hm C hC))
    | fn f => exact absurd rfl (n1 f)
    | scr ns => exact absurd rfl (n2 ns)
    | exc a => exact absurd rfl (n4 a)
  cases t with
  | own C =>
    cases d with
    | fn f => simp [isi1] at e
    | scr ns => simp [isi1] at e
    | exc a => simp [isi1] at e
    | ins C' ns ds =>
      simp only [isi1] at e
      split at e
      · rename_i hC
        split at e
        · rename_i hC'
          cases e
          exact ⟨hty (fun _ z => nomatch z) (fun _ z => nomatch z) (fun _ z => nomatch z) fun _ _ _ z => by cases z; exact mem_cls hC', O.k2 C' (mem_cls hC') C (mem_cls hC)⟩
        · cases e
      · cases e
    | _ =>
      simp only [isi1] at e
      split at e
      · rename_i hC
        cases e
        exact ⟨hty (fun _ z => nomatch z) (fun _ z => nomatch z) (fun _ z => nomatch z) (fun _ _ _ z => nomatch z), O.k1 C (mem_cls hC) _ (by decide)⟩
      · cases e
  | _ =>
    cases d with
    | fn f => simp [isi1] at e
    | scr ns => simp [isi1] at e
    | exc a => simp [isi1] at e
    | ins C' ns ds =>
      simp only [isi1] at e
      split at e
      · rename_i hC'
        cases e
        exact ⟨hty (fun _ z => nomatch z) (fun _ z => nomatch z) (fun _ z => nomatch z) fun _ _ _ z => by cases z; exact mem_cls hC', O.k3 C' (mem_cls hC') _ (by decide)⟩
      · cases e
    | _ =>
      simp only [isi1] at e
      cases e
      exact ⟨hty (fun _ z => nomatch z) (fun _ z => nomatch z) (fun _ z => nomatch z) (fun _ _ _ z => nomatch z), kit_ty (by decide +kernel)⟩
theorem isiD_ok (O : OwnOk K mg cx) (s : Same F H) (h : PRep K F H v d) : ∀ {ts : List Ty} {b : Bool}, ts ≠ [] → isiD cx d ts = some b → TyX K H v (tyU K d) ∧ PySem.W.kitAny K (tyU K d) (ts.map (·.u K)) = some b
  | [], _, n, _ => absurd rfl n
  | t :: ts, b, _, e => by
    unfold isiD at e
    split at e
    · rename_i h1
      cases e
      obtain ⟨q1, q2⟩ := isi1_ok O s h h1
      exact ⟨q1, kitAny_cons q2 (fun z => nomatch z) fun _ => rfl⟩
    · rename_i h1
      obtain ⟨q1, q2⟩ := isi1_ok O s h h1
      refine ⟨q1, kitAny_cons q2 (fun _ => ?_) (fun z => nomatch z)⟩
      cases ts with
      | nil => cases e; exact kitAny_nil
      | cons t' ts => exact (isiD_ok O s h (by simp) e).2
    · cases e

/-! ### methods -/
theorem fstAt_ok {a : D} : ∀ {xs : List D} {k n : Nat}, fstAt xs a k = some n → ∃ j z, n = k + j ∧ xs[j]? = some z ∧ z.eqv a = true ∧ ∀ (m : Nat) (z' : D), m < j → xs[m]? = some z' → z'.eqv a = false
  | [], k, n, e => nomatch e
  | x :: xs, k, n, e => by
    unfold fstAt at e
    split at e
    · rename_i h
      cases e
      exact ⟨0, x, rfl, rfl, h, fun m z' hm => absurd hm (Nat.not_lt_zero _)⟩
    · rename_i h
      obtain ⟨j, z, e1, e2, e3, e4⟩ := fstAt_ok e
      refine ⟨j + 1, z, by omega, e2, e3, fun m z' hm hz => ?_⟩
      cases m with
      | zero => cases hz; exact Bool.eq_false_iff.mpr h
      | succ m => exact e4 m z' (by omega) hz
theorem ps_get {ds : List D} {j : Nat} {z : D} (h : ds[j]? = some z) : (D.ps ds)[j]? = some z.p := by
  induction ds generalizing j with
  | nil => cases h
  | cons d ds ih =>
    cases j with
    | zero => cases h; rfl
    | succ j => exact ih h
theorem ps_get' {ds : List D} {j : Nat} {z : PyData} (h : (D.ps ds)[j]? = some z) : ∃ d, ds[j]? = some d ∧ z = d.p := by
  induction ds generalizing j with
  | nil => cases h
  | cons d ds ih =>
    cases j with
    | zero => cases h; exact ⟨d, rfl, rfl⟩
    | succ j => exact ih h
def rMe (K : PySem.W.Frag) (m : Me) : V → List V → Hp → VK → Prop := fun x xs H Q => ∃ F d ds r, Same F H ∧ PRep K F H x d ∧ PReps K F H xs ds ∧ methD m d ds = some r ∧ Gives K F H r Q
theorem okd_up : ∀ {d : D} {n m : Nat}, n ≤ m → d.okd n = true → d.okd m = true := by
  intro d n m hnm h
  induction n generalizing d m with
  | zero => cases d <;> cases m <;> simp [D.okd] at h ⊢ <;> exact h
  | succ n ih =>
    obtain ⟨m, rfl⟩ : ∃ k, m = k + 1 := ⟨m - 1, by omega⟩
    cases d with
    | lst ds => simp only [D.okd, List.all_eq_true] at h ⊢; exact fun x hx => ih (by omega) (h x hx)
    | tup ds => simp only [D.okd, List.all_eq_true] at h ⊢; exact fun x hx => ih (by omega) (h x hx)
    | _ => first | (simp [D.okd] at h ⊢; done) | (simp [D.okd] at h ⊢; exact h) | simp [D.okd] at h
theorem inv_index {d : D} {ds : List D} {r : R} (e : methD .index d ds = some r) : ∃ (ys : List D) (a : D) (n : Nat), d = .lst ys ∧ ds = [a] ∧ a.okd 60 = true ∧ ys.all (D.okd 50) = true ∧ fstAt ys a 0 = some n ∧ r = .d (.int n) := by
  unfold methD at e
  split at e
  · split at e
    · rename_i ho
      rw [Bool.and_eq_true] at ho
      obtain ⟨n, h1, h2⟩ := Option.map_eq_some_iff.mp e
      exact ⟨_, _, n, rfl, rfl, ho.1, ho.2, h1, h2.symm⟩
    · cases e
  · cases e
theorem me_index (hu : X.A.units + 65 < cLine) : MtR X "list.index" (rMe X.K .index) := by
  intro pins s σ H x xs v us Q I rx rxs h
  obtain ⟨F, d, ds, r, sf, hd, hds, e, g⟩ := h
  obtain ⟨ys, a, n, rfl, rfl, h60, h50, hn, rfl⟩ := inv_index e
  obtain ⟨y, rfl, hy⟩ := hds.one
  obtain ⟨j, z, e1, e2, e3, e4⟩ := fstAt_ok hn
  have ol : (D.lst ys).okd 51 = true := by simpa [D.okd] using h50
  have hdp := hd.dp sf ol
  obtain ⟨p, vs, rfl, h1, h2⟩ := hd.lst sf
  have oz : ∀ (m : Nat) (z' : D), ys[m]? = some z' → z'.okd 50 = true := fun m z' h => List.all_eq_true.mp h50 z' (List.mem_of_getElem? h)
  refine mt_indexD hu pins s σ H _ _ v us Q I rx rxs ⟨p, y, a.p, D.ps ys, j, z.p, rfl, rfl, hdp, hy.dp sf h60, okd_shaped ol (by decide), okd_shaped h60 (by decide), ps_get e2, ?_, fun m z' hm hz => ?_, ?_⟩
  · rw [eqv_p z a 50 60 (oz _ _ e2) h60]; exact e3
  · obtain ⟨w, hw, rfl⟩ := ps_get' hz
    rw [eqv_p w a 50 60 (oz _ _ hw) h60]; exact e4 m w hm hw
  · rw [show ((j : Nat) : Int) = ((n : Nat) : Int) by omega]
    exact g.scal sf (.int _)
/-- a method that changes the list at a -/
def rMn (K : PySem.W.Frag) (m : Mn) : V → List V → Hp → VK → Prop := fun x xs H Q => ∃ F a es ds r o', Same F H ∧ x = .ref a ∧ F a = none ∧ MRep K F H a (.lst es) ∧ Reps K F xs ds ∧ mutD m (.lst es) ds = some (r, o') ∧
  ∀ v vs' es', o' = .lst es' → Reps K F vs' es' → (∃ d, r = .d d ∧ Rep K F v d) → Q v (upd H a (.lst vs'))
theorem inv_append {es ds : List D} {r : R} {o' : M} (e : mutD .append (.lst es) ds = some (r, o')) : ∃ a, ds = [a] ∧ es.length < 1000000 ∧ r = .d .non ∧ o' = .lst (es ++ [a]) := by
  unfold mutD at e
  split at e <;> first | contradiction | skip
  · rename_i hz
    cases hz
    split at e
    · cases e; exact ⟨_, rfl, by assumption, rfl, rfl⟩
    · cases e
theorem inv_extend {es ds : List D} {r : R} {o' : M} (e : mutD .extend (.lst es) ds = some (r, o')) : ∃ ys, ds = [.lst ys] ∧ es.length + ys.length ≤ 1000000 ∧ r = .d .non ∧ o' = .lst (es ++ ys) := by
  unfold mutD at e
  split at e <;> first | contradiction | skip
  · rename_i hz
    cases hz
    split at e
    · cases e; exact ⟨_, rfl, by assumption, rfl, rfl⟩
    · cases e
theorem inv_pop {es ds : List D} {r : R} {o' : M} (e : mutD .pop (.lst es) ds = some (r, o')) :
    (∃ i k y, ds = [.int i] ∧ -(2 ^ 60) < i ∧ i < 2 ^ 60 ∧ ixN es.length i = some k ∧ es[k]? = some y ∧ r = .d y ∧ o' = .lst (es.eraseIdx k)) ∨ ∃ y, ds = [] ∧ es[es.length - 1]? = some y ∧ r = .d y ∧ o' = .lst es.dropLast := by
  unfold mutD at e
  split at e <;> first | contradiction | skip
  · rename_i hz
    cases hz
    split at e
    · rename_i hi
      rw [Bool.and_eq_true, decide_eq_true_eq, decide_eq_true_eq] at hi
      obtain ⟨k, h1, h2⟩ := Option.bind_eq_some_iff.mp e
      obtain ⟨y, h3, h4⟩ := Option.map_eq_some_iff.mp h2
      cases h4
      exact .inl ⟨_, k, y, rfl, hi.1, hi.2, h1, h3, rfl, rfl⟩
    · cases e
  · rename_i hz
    cases hz
    obtain ⟨y, h3, h4⟩ := Option.map_eq_some_iff.mp e
    cases h4
    exact .inr ⟨y, rfl, h3, rfl, rfl⟩
theorem mn_append : MtM X "list.append" (rMn X.K .append) := by
  intro pins s σ H x xs v us Q I rx rxs h
  obtain ⟨F, a, es, ds, r, o', sf, rfl, fa, hm, hds, e, g⟩ := h
  obtain ⟨vs, h1, h2⟩ := hm
  obtain ⟨d, rfl, hl, rfl, rfl⟩ := inv_append e
  cases hds with
  | cons hy r =>
    cases r
    exact mt_append pins s σ H _ _ v us Q I rx rxs ⟨a, vs, _, rfl, rfl, h1, Nat.lt_of_lt_of_le (by rw [h2.len]; exact hl) lineM, g .non _ _ rfl (h2.app (.cons hy .nil)) ⟨_, rfl, .non⟩⟩
theorem mn_extend : MtM X "list.extend" (rMn X.K .extend) := by
  intro pins s σ H x xs v us Q I rx rxs h
  obtain ⟨F, a, es, ds, r, o', sf, rfl, fa, hm, hds, e, g⟩ := h
  obtain ⟨vs, h1, h2⟩ := hm
  obtain ⟨ys, rfl, hl, rfl, rfl⟩ := inv_extend e
  cases hds with
  | cons hy r =>
    cases r
    cases hy with
    | lst f1 r1 =>
      exact mt_extend pins s σ H _ _ v us Q I rx rxs ⟨a, _, vs, _, rfl, rfl, h1, sf _ _ f1, by rw [h2.len, r1.len]; exact Nat.le_trans hl lineM, g .non _ _ rfl (h2.app r1) ⟨_, rfl, .non⟩⟩
theorem Reps.last {vs : List V} (r : Reps K F vs ds) {d : D} (h : ds[ds.length - 1]? = some d) : ∃ v, vs[vs.length - 1]? = some v ∧ Rep K F v d := by
  rw [r.len]
  exact r.get h
theorem Reps.dropLast {vs : List V} (r : Reps K F vs ds) : Reps K F vs.dropLast ds.dropLast := by
  rw [List.dropLast_eq_take, List.dropLast_eq_take, r.len]
  exact r.take _
theorem mn_pop : MtM X "list.pop" (rMn X.K .pop) := by
  intro pins s σ H x xs v us Q I rx rxs h
  obtain ⟨F, a, es, ds, r, o', sf, rfl, fa, hm, hds, e, g⟩ := h
  obtain ⟨vs, h1, h2⟩ := hm
  rcases inv_pop e with ⟨i, k, y, rfl, i1, i2, hk, hy, rfl, rfl⟩ | ⟨y, rfl, hy, rfl, rfl⟩
  · cases hds with
    | cons hx r =>
      cases r
      cases hx
      obtain ⟨w, e1, e2⟩ := h2.get hy
      obtain ⟨k1, _⟩ := ixN_seq hk
      exact mt_popAt pins s σ H _ _ v us Q I rx rxs ⟨a, vs, i, k, w, rfl, rfl, h1, by omega, by omega, by rw [h2.len]; exact k1, e1, g w _ _ rfl (h2.erase k) ⟨_, rfl, e2⟩⟩
  · cases hds
    obtain ⟨w, e1, e2⟩ := h2.last hy
    exact mt_pop pins s σ H _ _ v us Q I rx rxs ⟨a, vs, w, rfl, rfl, h1, e1, g w _ _ rfl h2.dropLast ⟨_, rfl, e2⟩⟩
end
end Rf

set_option Elab.async false
set_option linter.all false
set_option maxRecDepth 100000
set_option maxHeartbeats 1000000
namespace Rf
open PySem PySem.Spec PyProof.Rows L2
variable [Tb]

section
variable {K : PySem.W.Frag} {mg : Str → Option Value} {cx : CtxR} {F H F' H' : Hp} {σ : L2.St} {Γ Γ' Γ1 : En} {v : V} {d : D} {ds : List D} {Q : VK} {X : Cx} {i : Nat}
theorem bind_ok {α β : Type} {x : EM α} {f : α → EM β} {b : β} (h : x.bind f Γ = .ok b Γ') : ∃ a Γ1, x Γ = .ok a Γ1 ∧ f a Γ1 = .ok b Γ' := by
  unfold EM.bind at h
  cases e : x Γ with
  | ok a G => rw [e] at h; exact ⟨a, G, rfl, h⟩
  | no => rw [e] at h; cases h
theorem opt_ok {α : Type} {o : Option α} {a : α} (h : EM.opt o Γ = .ok a Γ') : o = some a ∧ Γ' = Γ := by
  unfold EM.opt at h
  cases o with
  | none => cases h
  | some b => cases h; exact ⟨rfl, rfl⟩
theorem ret_ok {α : Type} {a b : α} (h : EM.ret a Γ = .ok b Γ') : a = b ∧ Γ' = Γ := by
  cases h; exact ⟨rfl, rfl⟩

/-! ### names -/
theorem Sl.cont_of_mut {s : Sl} {m : M} (h : s.mut = some m) : s.cont = some m := by cases s <;> first | (cases h; rfl) | cases h
theorem At.pk (A : At K F H σ Γ) (e : pkV i Γ = .ok d Γ') : Γ' = Γ ∧ ∃ v, σ[i]? = some (some v) ∧ PRep K F H v d := by
  unfold pkV at e
  have own : ∀ (s : Sl) (m : M), Γ[i]? = some (some s) → s.cont = some m → d = m.d → ∃ v, σ[i]? = some (some v) ∧ PRep K F H v d := fun s m h1 h2 h3 => by
    obtain ⟨a, e1, f, r⟩ := A.ob i s m h1 h2
    exact ⟨_, e1, .inr ⟨a, m, rfl, h3, r⟩⟩
  split at e
  · rename_i d' h
    cases e
    obtain ⟨v, e1, r⟩ := A.fr i _ h
    exact ⟨rfl, v, e1, .inl r⟩
  · rename_i m h; cases e; exact ⟨rfl, own _ m h rfl rfl⟩
  · rename_i m h; cases e; exact ⟨rfl, own _ m h rfl rfl⟩
  · rename_i m h; cases e; exact ⟨rfl, own _ m h rfl rfl⟩
  · cases e
theorem ES.set1 {t : Option Sl} (h : ∀ s, Γ[i]? = some s → SlGo s t) : ES Γ (Γ.set i t) := by
  refine ⟨List.length_set .., fun j s e => ?_⟩
  by_cases hj : i = j
  · subst hj
    exact ⟨t, List.getElem?_set_self (List.getElem?_eq_some_iff.mp e).1, h s e⟩
  · exact ⟨s, by rw [List.getElem?_set_ne hj]; exact e, SlGo.refl s⟩
/-- the slots but one stand as they stood -/
theorem At.set1 {t : Option Sl} (A : At K F H σ Γ) (ht : TabF Tb.T F' H') (s : Same F F') (hs : Same F' H') (hF : ∀ (j : Nat) (s : Sl) (m : M) (a : Addr), j ≠ i → Γ[j]? = some (some s) → s.cont = some m → σ[j]? = some (some (.ref a)) → F' a = none ∧ H' a = H a)
    (hfr : ∀ d, t = some (.fr d) → ∃ v, σ[i]? = some (some v) ∧ Rep K F' v d)
    (hob : ∀ s m, t = some s → s.cont = some m → ∃ a, σ[i]? = some (some (.ref a)) ∧ F' a = none ∧ MRep K F' H' a m ∧ ∀ (j : Nat) (s : Sl) (m : M), j ≠ i → Γ[j]? = some (some s) → s.cont = some m → σ[j]? ≠ some (some (.ref a))) : At K F' H' σ (Γ.set i t) := by
  have get : ∀ {j : Nat} {u : Option Sl}, (Γ.set i t)[j]? = some u → (j = i ∧ u = t) ∨ (j ≠ i ∧ Γ[j]? = some u) := fun {j u} e => by
    by_cases hj : i = j
    · subst hj
      have : i < Γ.length := by have := (List.getElem?_eq_some_iff.mp e).1; rwa [List.length_set] at this
      rw [List.getElem?_set_self this] at e
      exact .inl ⟨rfl, (Option.some.inj e).symm⟩
    · rw [List.getElem?_set_ne hj] at e
      exact .inr ⟨fun z => hj z.symm, e⟩
  refine ⟨hs, by rw [List.length_set]; exact A.len, fun j d e => ?_, fun j u m e c => ?_, fun j k u w m n a hjk e1 c1 e2 c2 z1 z2 => ?_, ht, A.f0.trans s⟩
  · rcases get e with ⟨rfl, z⟩ | ⟨_, e⟩
    · exact hfr d z.symm
    · obtain ⟨v, e1, r⟩ := A.fr j d e
      exact ⟨v, e1, r.up s⟩
  · rcases get e with ⟨rfl, z⟩ | ⟨hj, e⟩
    · obtain ⟨a, h1, h2, h3, _⟩ := hob u m z.symm c
      exact ⟨a, h1, h2, h3⟩
    · obtain ⟨a, e1, f, r⟩ := A.ob j u m e c
      obtain ⟨f', h'⟩ := hF j u m a hj e c e1
      exact ⟨a, e1, f', r.up s h'⟩
  · rcases get e1 with ⟨rfl, y1⟩ | ⟨hj, f1⟩
    · rcases get e2 with ⟨rfl, _⟩ | ⟨hk, e2⟩
      · exact hjk rfl
      · obtain ⟨b, h1, _, _, h4⟩ := hob u m y1.symm c1
        rw [z1] at h1; cases h1
        exact h4 k w n hk e2 c2 z2
    · rcases get e2 with ⟨rfl, y2⟩ | ⟨hk, e2⟩
      · obtain ⟨b, h1, _, _, h4⟩ := hob w n y2.symm c2
        rw [z2] at h1; cases h1
        exact h4 j u m hj f1 c1 z1
      · exact A.sep j k u w m n a hjk f1 c1 e2 c2 z1 z2
theorem At.rd (A : At K F H σ Γ) (e : rdV i Γ = .ok d Γ') : ∃ v, σ[i]? = some (some v) ∧ ∃ F', Step F H (Mu σ Γ) F' H ∧ At K F' H σ Γ' ∧ ES Γ Γ' ∧ Rep K F' v d := by
  unfold rdV at e
  split at e
  · rename_i d' h
    cases e
    obtain ⟨v, e1, r⟩ := A.fr i _ h
    exact ⟨v, e1, F, Step.refl .., A, ES.refl _, r⟩
  · rename_i m h
    cases e
    obtain ⟨a, e1, f, r⟩ := A.ob i _ m h rfl
    obtain ⟨o, ho, q⟩ := r.ex
    have rp : Rep K (upd F a o) (.ref a) m.d := q _ (same_upd f) upd_same
    refine ⟨_, e1, upd F a o, (Step.refl F H _).frz (.inr ⟨i, _, m, h, rfl, e1⟩) f, ?_, ES.set1 fun s hs => ?_, rp⟩
    · refine A.set1 (A.tab.upF (by obtain ⟨o2, h2, n2⟩ := r.noTC; rw [ho] at h2; cases h2; exact n2.1)) (same_upd f) (same_frz A.sub ho) (fun j s n b hj ej cj ej2 => ⟨?_, rfl⟩) (fun d z => by cases z; exact ⟨_, e1, rp⟩) (fun s n z c => by cases z; cases c)
      have hb : b ≠ a := fun z => by
        subst z
        exact A.sep i j _ s m n b (fun z => hj z.symm) h rfl ej cj e1 ej2
      rw [upd_ne hb]
      obtain ⟨b', z1, f', _⟩ := A.ob j s n ej cj
      rw [ej2] at z1; cases z1
      exact f'
    · rw [h] at hs; cases hs; exact .inr ⟨_, rfl⟩
  · cases e

def rP (K : PySem.W.Frag) (m : EM D) : TE := fun σ H Q => ∃ F Γ r Γ', At K F H σ Γ ∧ m Γ = .ok r Γ' ∧
  ∀ v F' H', Step F H (Mu σ Γ) F' H' → At K F' H' σ Γ' → ES Γ Γ' → PRep K F' H' v r → Q v H'
def rPs (K : PySem.W.Frag) (m : EM (List D)) : TA := fun σ H Q => ∃ F Γ r Γ', At K F H σ Γ ∧ m Γ = .ok r Γ' ∧
  ∀ vs F' H', Step F H (Mu σ Γ) F' H' → At K F' H' σ Γ' → ES Γ Γ' → PReps K F' H' vs r → Q vs H'
theorem rP_of {m : EM D} {pe : Expr} (h : PE X pe (rD K m)) : PE X pe (rP K m) := PE.weak h fun σ H Q q => by
  obtain ⟨F, Γ, d, Γ', A, e, k⟩ := q
  exact ⟨F, Γ, d, Γ', A, e, fun v F1 H1 st A1 es r => k v F1 H1 st A1 es (.inl r)⟩
theorem Reps.pr {vs : List V} : ∀ {ds : List D}, Reps K F vs ds → PReps K F H vs ds := by
  induction vs with
  | nil => intro ds r; cases r; exact .nil
  | cons v vs ih => intro ds r; cases r with | cons h r => exact .cons (.inl h) (ih r)
theorem Step.reps {S : Addr → Prop} {vs : List V} (s : Step F H S F' H') (r : Reps K F vs ds) : Reps K F' vs ds := r.up s.fs
/-- a result frozen stays what it is while the rest runs -/
theorem s_var {pe : Expr} (hp : PE X pe (tVar i)) : PE X pe (rD K (rdV i)) := PE.weak hp fun σ H Q q => by
  obtain ⟨F, Γ, d, Γ', A, e, k⟩ := q
  obtain ⟨v, e1, F', st, A', es, r⟩ := A.rd e
  exact ⟨v, e1, k v F' H st A' es r⟩
theorem s_pk {pe : Expr} (hp : PE X pe (tVar i)) : PE X pe (rP K (pkV i)) := PE.weak hp fun σ H Q q => by
  obtain ⟨F, Γ, d, Γ', A, e, k⟩ := q
  obtain ⟨rfl, v, e1, r⟩ := A.pk e
  exact ⟨v, e1, k v F H (Step.refl ..) A (ES.refl _) r⟩
theorem s_const {pe : Expr} {v : V} {d : D} (hp : PE X pe (tC v)) (hr : ∀ F, Rep K F v d) : PE X pe (rE K (EM.ret (.d d))) := PE.weak hp fun σ H Q q => by
  obtain ⟨F, Γ, r, Γ', A, e, k⟩ := q
  obtain ⟨rfl, rfl⟩ := ret_ok e
  exact k v F H (Step.refl ..) A (ES.refl _) (hr F)
/-- from a step upon values -/
theorem gives_of (A : At K F H σ Γ) {r : R} {F0 H0 : Hp} {Γ0 : En} (A0 : At K F0 H0 σ Γ0) (st : Step F0 H0 (Mu σ Γ0) F H) (es : ES Γ0 Γ)
    (k : ∀ v F' H', Step F0 H0 (Mu σ Γ0) F' H' → At K F' H' σ Γ → ES Γ0 Γ → RRep K H0 F' H' v r → Q v H') : Gives K F H r Q := by
  intro v F' H' vs rr
  have st' : Step F0 H0 (Mu σ Γ0) F' H' := st.trans vs.step (S1 := Mu σ Γ0) fun z h => .inl h
  refine k v F' H' st' (A.vs vs) es ?_
  cases r with
  | d d => exact rr
  | m m =>
    obtain ⟨a, rfl, h1, h2⟩ := rr
    refine ⟨a, rfl, ?_, h2⟩
    cases q : H0 a with
    | none => rfl
    | some o => exact absurd h1 (st.dom a (by rw [q]; simp))
end
end Rf

set_option Elab.async false
set_option linter.all false
set_option maxRecDepth 100000
set_option maxHeartbeats 1000000
namespace Rf
open PySem PySem.Spec PyProof.Rows L2
variable [Tb]

def notStar : Expr → Bool
  | .Starred _ _ => false
  | _ => true
def notSlice : Expr → Bool
  | .Slice _ _ _ _ => false
  | _ => true
theorem star_cons {pe : Expr} {es : List Expr} {env : PySem.Env} (h : notStar pe = true) : starEach (pe :: es) env = (false, eval pe env) :: starEach es env := by
  cases pe <;> first | rfl | cases h
theorem star_plain {pos : Pos} {env : PySem.Env} : ∀ {es : List Expr}, es.all notStar = true → (backTo pos (starEach es env)).any (·.1) = false
  | [], _ => rfl
  | e :: es, h => by
    rw [List.all_cons, Bool.and_eq_true] at h
    rw [star_cons h.1]
    show (false || (backTo pos (starEach es env)).any (·.1)) = false
    rw [star_plain h.2]
    rfl
theorem plain_ix {b : Expr} (h : notSlice b = true) : PlainIx b := by
  intro o i
  cases b <;> first | rfl | cases h
section
variable {K : PySem.W.Frag} {mg : Str → Option Value} {cx : CtxR} {F H F' H' : Hp} {σ : L2.St} {Γ Γ' Γ1 : En} {v : V} {d : D} {ds : List D} {Q : VK} {X : Cx} {i : Nat} {pos apos p2 p3 : Pos}
variable {pe pa pb pc : Expr} {es : List Expr} {ma mb mc : EM D} {mE : EM R} {ms : EM (List D)}
/-! ### argument lists -/
theorem s_anil : PA X [] (rA K (EM.ret [])) := PA.weak pa_nil fun σ H Q q => by
  obtain ⟨F, Γ, r, Γ', A, e, k⟩ := q
  obtain ⟨rfl, rfl⟩ := ret_ok e
  exact k [] F H (Step.refl ..) A (ES.refl _) .nil
theorem s_acons (ha : PE X pa (rD K ma)) (hs : PA X es (rA K ms)) (hn : notStar pa = true) : PA X (pa :: es) (rA K (ma.bind fun x => ms.bind fun xs => EM.ret (x :: xs))) :=
  PA.weak (pa_cons ha hs (star_cons hn)) fun σ H Q q => by
    obtain ⟨F, Γ, r, Γ', A, e, k⟩ := q
    obtain ⟨x, Γ1, e1, e⟩ := bind_ok e
    obtain ⟨xs, Γ2, e2, e⟩ := bind_ok e
    obtain ⟨rfl, rfl⟩ := ret_ok e
    exact ⟨F, Γ, x, Γ1, A, e1, fun v F1 H1 s1 A1 g1 r1 => ⟨F1, Γ1, xs, _, A1, e2, fun vs F2 H2 s2 A2 g2 r2 =>
      k (v :: vs) F2 H2 (s1.trans s2 fun z q => .inl (g1.mu q)) A2 (g1.trans g2) (.cons (r1.up s2.fs) r2)⟩⟩
theorem s_pnil : PA X [] (rPs K (EM.ret [])) := PA.weak pa_nil fun σ H Q q => by
  obtain ⟨F, Γ, r, Γ', A, e, k⟩ := q
  obtain ⟨rfl, rfl⟩ := ret_ok e
  exact k [] F H (Step.refl ..) A (ES.refl _) .nil
theorem s_pone (ha : PE X pa (rP K ma)) (hn : notStar pa = true) : PA X [pa] (rPs K (ma.bind fun x => EM.ret [x])) :=
  PA.weak (pa_cons ha pa_nil (star_cons hn)) fun σ H Q q => by
    obtain ⟨F, Γ, r, Γ', A, e, k⟩ := q
    obtain ⟨x, Γ1, e1, e⟩ := bind_ok e
    obtain ⟨rfl, rfl⟩ := ret_ok e
    exact ⟨F, Γ, x, _, A, e1, fun v F1 H1 s1 A1 g1 r1 => k [v] F1 H1 s1 A1 g1 (.cons r1 .nil)⟩
theorem s_pcons (ha : PE X pa (rD K ma)) (hs : PA X es (rPs K ms)) (hn : notStar pa = true) : PA X (pa :: es) (rPs K (ma.bind fun x => ms.bind fun xs => EM.ret (x :: xs))) :=
  PA.weak (pa_cons ha hs (star_cons hn)) fun σ H Q q => by
    obtain ⟨F, Γ, r, Γ', A, e, k⟩ := q
    obtain ⟨x, Γ1, e1, e⟩ := bind_ok e
    obtain ⟨xs, Γ2, e2, e⟩ := bind_ok e
    obtain ⟨rfl, rfl⟩ := ret_ok e
    exact ⟨F, Γ, x, Γ1, A, e1, fun v F1 H1 s1 A1 g1 r1 => ⟨F1, Γ1, xs, _, A1, e2, fun vs F2 H2 s2 A2 g2 r2 =>
      k (v :: vs) F2 H2 (s1.trans s2 fun z q => .inl (g1.mu q)) A2 (g1.trans g2) (.cons (.inl (r1.up s2.fs)) r2)⟩⟩

/-! ### operators -/
theorem s_bin {op : BOp} (ha : PE X pa (rD X.K ma)) (hb : PE X pb (rD X.K mb)) : PE X (.BinOp pa op.py pb pos) (rE X.K (ma.bind fun x => mb.bind fun y => EM.opt (binD op x y))) :=
  PE.weak (pe_op op_b ha hb) fun σ H Q q => by
    obtain ⟨F, Γ, r, Γ', A, e, k⟩ := q
    obtain ⟨x, Γ1, e1, e⟩ := bind_ok e
    obtain ⟨y, Γ2, e2, e⟩ := bind_ok e
    obtain ⟨e3, rfl⟩ := opt_ok e
    exact seq2 A e1 e2 fun vx vy F2 H2 st A2 es rx ry => ⟨F2, x, y, r, A2.sub, rx, ry, e3, gives_of A2 A st es k⟩
theorem s_neg (ha : PE X pa (rD X.K ma)) : PE X (.UnaryOp .USub pa pos) (rE X.K (ma.bind fun x => EM.opt (x.int?.map fun i => .d (.int (-i))))) :=
  PE.weak (pe_un un_neg ha) fun σ H Q q => by
    obtain ⟨F, Γ, r, Γ', A, e, k⟩ := q
    obtain ⟨x, Γ1, e1, e⟩ := bind_ok e
    obtain ⟨e3, rfl⟩ := opt_ok e
    refine ⟨F, Γ, x, _, A, e1, fun v F1 H1 s1 A1 g1 r1 => ?_⟩
    cases r1 with
    | int i => cases e3; exact ⟨i, rfl, k _ F1 H1 s1 A1 g1 (.int _)⟩
    | _ => cases e3

/-- o.f: the base is asked plainly -/
def notSuper : Expr → Bool
  | .Call (.Name x _) _ _ _ => !decide (x = "super")
  | .Call _ _ _ _ => false
  | _ => true
theorem attr_plain {o : Expr} {f : Str} {env : PySem.Env} {w : Sem Value} (h : notSuper o = true) : attributeBase o f env w = w := by
  cases o with
  | Call fn args kws pos =>
    cases fn with
    | Name x p =>
      have hx : x ≠ "super" := by simpa [notSuper] using h
      unfold attributeBase
      split
      · rename_i e; cases e
        have : (x != "super") = true := bne_iff_ne.mpr hx
        rw [this]
        rfl
      · rfl
    | _ => cases h
  | _ => rfl
def notSet : Expr → Bool
  | .Set _ _ _ => false
  | _ => true
theorem set_plain {op : CmpOp} {b : Expr} (h : notSet b = true) : behindInMarks op b = false := by
  cases b <;> first | rfl | cases h
theorem fold_plain {b : Expr} (h : notSet b = true) {env : PySem.Env} (x : Value) : foldedSetIterable b env x = pure x := by
  cases b <;> first | rfl | cases h
theorem few_plain {pos : Pos} {env : PySem.Env} {e : Expr} {es : List Expr} (h : (e :: es).all notStar = true) (hl : es.length < 20) :
    ((backTo pos (starEach (e :: es) env)).all (fun x => !x.1) && (backToKw pos (keywordEach [] env)).all (fun x => x.1.isSome)
      && decide ((e :: es).length + ([] : List Keyword).length + (if ([] : List Keyword).isEmpty then 0 else 1) < 30)) = true := by
  have h1 : ∀ es : List Expr, es.all notStar = true → (backTo pos (starEach es env)).all (fun x => !x.1) = true := by
    intro es
    induction es with
    | nil => intro _; rfl
    | cons e es ih =>
      intro h
      rw [List.all_cons, Bool.and_eq_true] at h
      rw [star_cons h.1]
      show ((!false) && (backTo pos (starEach es env)).all (fun x => !x.1)) = true
      rw [ih h.2]
      rfl
  rw [h1 _ h]
  have h2 : (backToKw pos (keywordEach [] env)).all (fun x => x.1.isSome) = true := rfl
  rw [h2]
  simp only [Bool.and_self, Bool.true_and, decide_eq_true_eq, List.length_cons, List.length_nil, List.isEmpty_nil, if_true]
  omega

/-! ### comparisons -/
theorem cmp_rd {op : COp} {ta : TE} (A : At X.K F H σ Γ) {a b : D} {k : Bool} {Γ2 : En} : True := trivial
theorem mCmp_bl {op : COp} {r : R} (e : mCmp op ma mb Γ = .ok r Γ') : ∃ b, r = .d (.bl b) := by
  obtain ⟨x, Γ1, e1, e⟩ := bind_ok e
  obtain ⟨y, Γ2, e2, e⟩ := bind_ok e
  obtain ⟨z, Γ3, e3, e⟩ := bind_ok e
  obtain ⟨e4, _⟩ := opt_ok e
  obtain ⟨k, _, rfl⟩ := Option.map_eq_some_iff.mp e4
  exact ⟨k, rfl⟩
theorem mCmpV_bl {op : COp} {r : R} (e : mCmpV op i mb Γ = .ok r Γ') : ∃ b, r = .d (.bl b) := by
  obtain ⟨x, Γ1, e1, e⟩ := bind_ok e
  obtain ⟨y, Γ2, e2, e⟩ := bind_ok e
  obtain ⟨z, Γ3, e3, e⟩ := bind_ok e
  obtain ⟨e4, _⟩ := opt_ok e
  obtain ⟨k, _, rfl⟩ := Option.map_eq_some_iff.mp e4
  exact ⟨k, rfl⟩
theorem rd_cmp {op : COp} (σ : L2.St) (H : Hp) (Q : VK) (q : rE X.K (mCmp op ma mb) σ H Q) : tOp (rC X.K op) (rD X.K ma) (rP X.K mb) σ H Q := by
  obtain ⟨F, Γ, r, Γ', A, e, k⟩ := q
  obtain ⟨x, Γ1, e1, e⟩ := bind_ok e
  obtain ⟨y, Γ2, e2, e⟩ := bind_ok e
  obtain ⟨z, Γ3, e3, e⟩ := bind_ok e
  obtain ⟨rfl, rfl⟩ := ret_ok e3
  obtain ⟨e4, rfl⟩ := opt_ok e
  obtain ⟨c, hc, rfl⟩ := Option.map_eq_some_iff.mp e4
  exact ⟨F, Γ, x, Γ1, A, e1, fun vx F1 H1 s1 A1 g1 r1 => ⟨F1, Γ1, y, _, A1, e2, fun vy F2 H2 s2 A2 g2 r2 =>
    ⟨F2, x, y, c, A2.sub, .inl (r1.up s2.fs), r2, hc, k _ F2 H2 (s1.trans s2 fun z q => .inl (g1.mu q)) A2 (g1.trans g2) (.bl c)⟩⟩⟩
theorem rd_cmpV {op : COp} (σ : L2.St) (H : Hp) (Q : VK) (q : rE X.K (mCmpV op i mb) σ H Q) : tOp (rC X.K op) (tVar i) (rP X.K mb) σ H Q := by
  obtain ⟨F, Γ, r, Γ', A, e, k⟩ := q
  obtain ⟨x, Γ1, e1, e⟩ := bind_ok e
  obtain ⟨y, Γ2, e2, e⟩ := bind_ok e
  obtain ⟨z, Γ3, e3, e⟩ := bind_ok e
  obtain ⟨e4, rfl⟩ := opt_ok e
  obtain ⟨c, hc, rfl⟩ := Option.map_eq_some_iff.mp e4
  obtain ⟨rfl, v, hv, _⟩ := A.pk e1
  refine ⟨v, hv, F, _, y, Γ2, A, e2, fun vy F2 H2 s2 A2 g2 r2 => ?_⟩
  obtain ⟨rfl, v', hv', pr⟩ := A2.pk e3
  rw [hv] at hv'; cases hv'
  exact ⟨F2, z, y, c, A2.sub, pr, r2, hc, k _ F2 H2 s2 A2 g2 (.bl c)⟩
/-- a test, from the reading of its value -/
theorem test_of {m : EM R} {t : TE} (h : PT X pe (tTest t)) (hb : ∀ {Γ r Γ'}, m Γ = .ok r Γ' → ∃ b, r = .d (.bl b)) (k : ∀ σ H Q, rE X.K m σ H Q → t σ H Q) : PT X pe (rT X.K (m.v.bind fun x => EM.opt (truD x))) :=
  PT.weak h fun σ H Q q => by
    obtain ⟨F, Γ, r, Γ', A, e, k'⟩ := q
    obtain ⟨x, Γ1, e1, e⟩ := bind_ok e
    obtain ⟨e2, rfl⟩ := opt_ok e
    obtain ⟨r', e3, rfl⟩ := EM.v_ok e1
    obtain ⟨b, rfl⟩ := hb e3
    have e2' : b = r := Option.some.inj (show some b = some r from e2)
    subst e2'
    refine k σ H _ ⟨F, Γ, _, _, A, e3, fun v F1 H1 s1 A1 g1 r1 => ?_⟩
    cases (show Rep X.K F1 v (.bl b) from r1)
    exact ⟨b, rfl, k' F1 H1 s1 A1 g1⟩
theorem s_cmp {op : COp} (hu : X.A.units + 65 < cLine) (ha : PE X pa (rD X.K ma)) (hb : PE X pb (rP X.K mb)) (hn : notSet pb = true) : PE X (.Compare pa [op.py] [pb] pos) (rE X.K (mCmp op ma mb)) :=
  PE.weak (pe_cmpR (op_c hu) ha hb (set_plain hn)) rd_cmp
theorem s_cmpV {op : COp} (hu : X.A.units + 65 < cLine) (ha : PE X pa (tVar i)) (hb : PE X pb (rP X.K mb)) (hn : notSet pb = true) : PE X (.Compare pa [op.py] [pb] pos) (rE X.K (mCmpV op i mb)) :=
  PE.weak (pe_cmpR (op_c hu) ha hb (set_plain hn)) rd_cmpV
theorem t_cmp {op : COp} (hu : X.A.units + 65 < cLine) (ha : PE X pa (rD X.K ma)) (hb : PE X pb (rP X.K mb)) (hn : notSet pb = true) : PT X (.Compare pa [op.py] [pb] pos) (rT X.K ((mCmp op ma mb).v.bind fun x => EM.opt (truD x))) :=
  test_of (pt_cmpR (op_c hu) ha hb (set_plain hn)) mCmp_bl rd_cmp
theorem t_cmpV {op : COp} (hu : X.A.units + 65 < cLine) (ha : PE X pa (tVar i)) (hb : PE X pb (rP X.K mb)) (hn : notSet pb = true) : PT X (.Compare pa [op.py] [pb] pos) (rT X.K ((mCmpV op i mb).v.bind fun x => EM.opt (truD x))) :=
  test_of (pt_cmpR (op_c hu) ha hb (set_plain hn)) mCmpV_bl rd_cmpV
theorem mCmp2_bl {o1 o2 : COp} {r : R} (e : mCmp2 o1 o2 ma mb mc Γ = .ok r Γ') : ∃ b, r = .d (.bl b) := by
  obtain ⟨x, Γ1, e1, e⟩ := bind_ok e
  obtain ⟨y, Γ2, e2, e⟩ := bind_ok e
  obtain ⟨z, Γ3, e3, e⟩ := bind_ok e
  cases z with
  | false => obtain ⟨rfl, _⟩ := ret_ok e; exact ⟨_, rfl⟩
  | true =>
    obtain ⟨z, Γ4, e4, e⟩ := bind_ok e
    obtain ⟨e5, _⟩ := opt_ok e
    obtain ⟨k, _, rfl⟩ := Option.map_eq_some_iff.mp e5
    exact ⟨k, rfl⟩
theorem rd_cmp2 {o1 o2 : COp} (σ : L2.St) (H : Hp) (Q : VK) (q : rE X.K (mCmp2 o1 o2 ma mb mc) σ H Q) : tChain (rC X.K o1) (rC X.K o2) (rD X.K ma) (rD X.K mb) (rD X.K mc) σ H Q := by
  obtain ⟨F, Γ, r, Γ', A, e, k⟩ := q
  obtain ⟨x, Γ1, e1, e⟩ := bind_ok e
  obtain ⟨y, Γ2, e2, e⟩ := bind_ok e
  obtain ⟨c, Γ3, e3, e⟩ := bind_ok e
  obtain ⟨e4, rfl⟩ := opt_ok e3
  refine ⟨F, Γ, x, Γ1, A, e1, fun vx F1 H1 s1 A1 g1 r1 => ⟨F1, Γ1, y, Γ3, A1, e2, fun vy F2 H2 s2 A2 g2 r2 => ?_⟩⟩
  have st := s1.trans s2 (S := Mu σ Γ) fun z q => .inl (g1.mu q)
  refine ⟨F2, x, y, c, A2.sub, .inl (r1.up s2.fs), .inl r2, e4, c, rfl, ?_⟩
  cases c with
  | false =>
    refine iteF ?_
    obtain ⟨rfl, rfl⟩ := ret_ok e
    exact k _ F2 H2 st A2 (g1.trans g2) (.bl false)
  | true =>
    refine iteT ?_
    obtain ⟨z, Γ4, e5, e⟩ := bind_ok e
    obtain ⟨e6, rfl⟩ := opt_ok e
    obtain ⟨c', hc', rfl⟩ := Option.map_eq_some_iff.mp e6
    exact ⟨F2, Γ3, z, _, A2, e5, fun vz F3 H3 s3 A3 g3 r3 => ⟨F3, y, z, c', A3.sub, .inl (r2.up s3.fs), .inl r3, hc', k _ F3 H3 (st.trans s3 fun z q => .inl ((g1.trans g2).mu q)) A3 ((g1.trans g2).trans g3) (.bl c')⟩⟩
theorem s_cmp2 {o1 o2 : COp} (hu : X.A.units + 65 < cLine) (ha : PE X pa (rD X.K ma)) (hb : PE X pb (rD X.K mb)) (hc : PE X pc (rD X.K mc)) (hn : notSet pc = true) : PE X (.Compare pa [o1.py, o2.py] [pb, pc] pos) (rE X.K (mCmp2 o1 o2 ma mb mc)) :=
  PE.weak (pe_chain (op_c hu) (op_c hu) ha hb hc (set_plain hn)) rd_cmp2
theorem t_cmp2 {o1 o2 : COp} (hu : X.A.units + 65 < cLine) (ha : PE X pa (rD X.K ma)) (hb : PE X pb (rD X.K mb)) (hc : PE X pc (rD X.K mc)) (hn : notSet pc = true) : PT X (.Compare pa [o1.py, o2.py] [pb, pc] pos) (rT X.K ((mCmp2 o1 o2 ma mb mc).v.bind fun x => EM.opt (truD x))) :=
  test_of (pt_chain (op_c hu) (op_c hu) ha hb hc (set_plain hn)) mCmp2_bl rd_cmp2
theorem mIs_bl {ng : Bool} {c : Option Bool} {r : R} (e : mIs ng c ma Γ = .ok r Γ') : ∃ b, r = .d (.bl b) := by
  obtain ⟨x, Γ1, e1, e⟩ := bind_ok e
  obtain ⟨rfl, _⟩ := ret_ok e
  exact ⟨_, rfl⟩
theorem rd_is {ng : Bool} {c : Option Bool} (σ : L2.St) (H : Hp) (Q : VK) (q : rE X.K (mIs ng c ma) σ H Q) : tOp (rIs X.K ng c) (rP X.K ma) (tC (cV c)) σ H Q := by
  obtain ⟨F, Γ, r, Γ', A, e, k⟩ := q
  obtain ⟨x, Γ1, e1, e⟩ := bind_ok e
  obtain ⟨rfl, rfl⟩ := ret_ok e
  exact ⟨F, Γ, x, _, A, e1, fun v F1 H1 s1 A1 g1 r1 => ⟨F1, x, r1, rfl, k _ F1 H1 s1 A1 g1 (.bl _)⟩⟩
theorem s_is {ng : Bool} {c : Option Bool} (ha : PE X pa (rP X.K ma)) (hc : PE X pc (tC (cV c))) : PE X (.Compare pa [if ng then .IsNot else .Is] [pc] pos) (rE X.K (mIs ng c ma)) :=
  PE.weak (pe_cmpR (op_is ng c) ha hc (by cases ng <;> exact nomark _)) rd_is
theorem t_is {ng : Bool} {c : Option Bool} (ha : PE X pa (rP X.K ma)) (hc : PE X pc (tC (cV c))) : PT X (.Compare pa [if ng then .IsNot else .Is] [pc] pos) (rT X.K ((mIs ng c ma).v.bind fun x => EM.opt (truD x))) :=
  test_of (pt_cmpR (op_is ng c) ha hc (by cases ng <;> exact nomark _)) mIs_bl rd_is

/-! ### truth, and, or, not -/
def plainT : Expr → Bool
  | .UnaryOp .Not _ _ => false
  | .BoolOp _ _ _ => false
  | .IfExp _ _ _ _ => false
  | .Compare _ _ _ _ => false
  | _ => true
theorem plain_true {e : Expr} {env : PySem.Env} (h : plainT e = true) (whole : Sem Value) : isTrue e env whole = (do let v ← whole; standAt e.pos; holding [v] (truthy v)) := by
  cases e <;> first | rfl | cases h | skip
  rename_i op x p
  cases op <;> first | rfl | cases h
theorem t_val (ha : PE X pa (rP X.K ma)) (hp : plainT pa = true) : PT X pa (rT X.K (ma.bind fun x => EM.opt (truD x))) :=
  PT.weak (pt_truth ha (plain_true hp)) fun σ H Q q => by
    obtain ⟨F, Γ, r, Γ', A, e, k⟩ := q
    obtain ⟨x, Γ1, e1, e⟩ := bind_ok e
    obtain ⟨e2, rfl⟩ := opt_ok e
    exact ⟨F, Γ, x, _, A, e1, fun v F1 H1 s1 A1 g1 r1 => ⟨r, tru_of A1.sub r1 e2, k F1 H1 s1 A1 g1⟩⟩
theorem s_not (ha : PE X pa (rP X.K ma)) : PE X (.UnaryOp .Not pa pos) (rE X.K (ma.bind fun x => EM.opt ((truD x).map fun b => .d (.bl (!b))))) :=
  PE.weak (pe_notT ha) fun σ H Q q => by
    obtain ⟨F, Γ, r, Γ', A, e, k⟩ := q
    obtain ⟨x, Γ1, e1, e⟩ := bind_ok e
    obtain ⟨e2, rfl⟩ := opt_ok e
    obtain ⟨b, hb, rfl⟩ := Option.map_eq_some_iff.mp e2
    exact ⟨F, Γ, x, _, A, e1, fun v F1 H1 s1 A1 g1 r1 => ⟨b, tru_of A1.sub r1 hb, k _ F1 H1 s1 A1 g1 (.bl _)⟩⟩
theorem t_not {mt : EM Bool} (ha : PT X pa (rT X.K mt)) : PT X (.UnaryOp .Not pa pos) (rT X.K (mt.bind fun b => EM.ret (!b))) :=
  PT.weak (pt_not ha) fun σ H Q q => by
    obtain ⟨F, Γ, r, Γ', A, e, k⟩ := q
    obtain ⟨x, Γ1, e1, e⟩ := bind_ok e
    obtain ⟨rfl, rfl⟩ := ret_ok e
    exact ⟨F, Γ, x, _, A, e1, fun F1 H1 s1 A1 g1 => k F1 H1 s1 A1 g1⟩
theorem s_ite {mt : EM Bool} {m1 m2 : EM R} (ht : PT X pa (rT X.K mt)) (hb : PE X pb (rE X.K m1)) (hc : PE X pc (rE X.K m2)) : PE X (.IfExp pa pb pc pos) (rE X.K (mt.bind fun k => match k with | true => m1 | false => m2)) :=
  PE.weak (pe_ifExp ht hb hc) fun σ H Q q => by
    obtain ⟨F, Γ, r, Γ', A, e, k⟩ := q
    obtain ⟨c, Γ1, e1, e⟩ := bind_ok e
    refine ⟨F, Γ, c, Γ1, A, e1, fun F1 H1 s1 A1 g1 => ?_⟩
    have up : ∀ {v : V} {F2 H2 : Hp}, RRep X.K H1 F2 H2 v r → RRep X.K H F2 H2 v r := fun {v F2 H2} rr => by
      cases r with
      | d d => exact rr
      | m m =>
        obtain ⟨a, z, h1, h2⟩ := rr
        refine ⟨a, z, ?_, h2⟩
        cases q : H a with
        | none => rfl
        | some o => exact absurd h1 (s1.dom a (by rw [q]; simp))
    cases c with
    | true => exact iteT ⟨F1, Γ1, r, Γ', A1, e, fun v F2 H2 s2 A2 g2 r2 => k v F2 H2 (s1.trans s2 fun z q => .inl (g1.mu q)) A2 (g1.trans g2) (up r2)⟩
    | false => exact iteF ⟨F1, Γ1, r, Γ', A1, e, fun v F2 H2 s2 A2 g2 r2 => k v F2 H2 (s1.trans s2 fun z q => .inl (g1.mu q)) A2 (g1.trans g2) (up r2)⟩
theorem t_ite {mt m1 m2 : EM Bool} (ht : PT X pa (rT X.K mt)) (hb : PT X pb (rT X.K m1)) (hc : PT X pc (rT X.K m2)) : PT X (.IfExp pa pb pc pos) (rT X.K (mt.bind fun k => match k with | true => m1 | false => m2)) := by
  refine ⟨fun pins s σ H Q I q => ?_⟩
  obtain ⟨F, Γ, r, Γ', A, e, k⟩ := q
  obtain ⟨c, Γ1, e1, e⟩ := bind_ok e
  show wpAny _ _ (do if ← isTrue pa X.env (eval pa X.env) then isTrue pb X.env (eval pb X.env) else isTrue pc X.env (eval pc X.env)) _ _ s
  have h1 := ht.run pins s σ H (fun c' H1 => c' = c ∧ ∃ F1, Step F H (Mu σ Γ) F1 H1 ∧ At X.K F1 H1 σ Γ1 ∧ ES Γ Γ1) I ⟨F, Γ, c, Γ1, A, e1, fun F1 H1 s1 A1 g1 => And.intro rfl ⟨F1, s1, A1, g1⟩⟩
  refine wpAny_bind (thn h1 fun c' s1 hq => ?_)
  obtain ⟨H1, I1, ec, F1, st, A1, g1⟩ := hq
  subst ec
  cases c' with
  | true => exact hb.run pins s1 σ H1 Q I1 ⟨F1, Γ1, r, Γ', A1, e, fun F2 H2 s2 A2 g2 => k F2 H2 (st.trans s2 fun z q => .inl (g1.mu q)) A2 (g1.trans g2)⟩
  | false => exact hc.run pins s1 σ H1 Q I1 ⟨F1, Γ1, r, Γ', A1, e, fun F2 H2 s2 A2 g2 => k F2 H2 (st.trans s2 fun z q => .inl (g1.mu q)) A2 (g1.trans g2)⟩
end
end Rf

set_option Elab.async false
set_option linter.all false
set_option maxRecDepth 100000
set_option maxHeartbeats 2000000
namespace Rf
open PySem PySem.Spec PyProof.Rows L2
variable [Tb]
/-! ### t[::-1] of a tuple -/
section
variable {prog : Program} {w : World} {A : Around} {E : Value → Shared → Prop} {s : Shared}
theorem places_rev (n : Nat) : Builtin.Slice.slicePlaces ((n : Int) - 1) (-1) (-1) = n := by
  unfold Builtin.Slice.slicePlaces
  have h1 : ¬ ((-1 : Int) > 0) := by omega
  simp only [h1, if_false, Int.neg_neg, Int.ediv_one]
  split <;> omega
theorem fm_congr {α β : Type} {f g : α → Option β} : ∀ {l : List α}, (∀ x ∈ l, f x = g x) → l.filterMap f = l.filterMap g
  | [], _ => rfl
  | x :: l, h => by
    rw [List.filterMap_cons, List.filterMap_cons, h x List.mem_cons_self, fm_congr fun y hy => h y (List.mem_cons_of_mem _ hy)]
theorem adjust_rev (n : Nat) : Builtin.Slice.sliceAdjust none none (-1) (n : Int) = ((n : Int) - 1, -1) := by
  unfold Builtin.Slice.sliceAdjust
  rfl
theorem sliceApplied_rev {sl : Addr} {vl vu vs : Value} {n : Nat} {Q : Int × Int × Nat → Shared → Prop} (hs : s.heap.IsSliceOf sl vl vu vs) (pl : IsPart vl none) (pu : IsPart vu none) (ps : IsPart vs (some (-1)))
    (h : Q ((n : Int) - 1, -1, n) s) : wpAny (model prog w) A (Builtin.Slice.sliceApplied (.ref sl) (pure (n : Int))) Q E s := by
  obtain ⟨os, hos, hcs, hds⟩ := id hs
  unfold Builtin.Slice.sliceApplied Builtin.Slice.sliceFields
  refine wpAny_bind (wpAny_bind (wpAny_field hos hds (x := vl) rfl (wpAny_bind (wpAny_field hos hds (x := vu) rfl (wpAny_bind (wpAny_field hos hds (x := vs) rfl (wpAny_pure ?_)))))))
  refine wpAny_bind (HT.slicePart_ ps ?_)
  show wpAny _ _ (if ((-1 : Int) == 0) = true then _ else _) _ _ s
  rw [if_neg (by decide)]
  refine wpAny_bind (HT.slicePart_ pl (wpAny_bind (HT.slicePart_ pu (wpAny_bind (wpAny_pure ?_)))))
  show wpAny _ _ (match Builtin.Slice.sliceAdjust none none (-1) (n : Int) with | (lo, hi) => pure (lo, (-1 : Int), Builtin.Slice.slicePlaces lo hi (-1))) _ _ s
  rw [adjust_rev n]
  show wpAny _ _ (pure ((n : Int) - 1, (-1 : Int), Builtin.Slice.slicePlaces ((n : Int) - 1) (-1) (-1))) _ _ s
  rw [places_rev]
  exact wpAny_pure h
theorem pick_rev (xs : Array Value) : ((List.range xs.size).filterMap fun (m : Nat) => xs[(((xs.size : Int) - 1) + (m : Int) * (-1)).toNat]?).toArray = xs.toList.reverse.toArray := by
  congr 1
  have h0 := PySem.W.krv_all xs.toList.reverse.toArray
  have hs : xs.toList.reverse.toArray.size = xs.size := by simp
  rw [hs] at h0
  refine (fm_congr fun m hm => ?_).trans h0
  rw [List.mem_range] at hm
  have e1 : xs.toList.reverse.toArray[m]? = xs.toList.reverse[m]? := List.getElem?_toArray
  rw [e1, List.getElem?_reverse (by simpa using hm), Array.getElem?_toList]
  congr 1
  rw [Array.length_toList]
  omega
theorem getItem_tuple_rev {t sl : Addr} {items : Array Value} {vl vu vs : Value} {Q : Value → Shared → Prop} (ht : IsTup s.heap t items) (hs : s.heap.IsSliceOf sl vl vu vs) (pl : IsPart vl none) (pu : IsPart vu none) (ps : IsPart vs (some (-1)))
    (h : Q (.ref s.heap.objs.size) { s with heap := s.heap.push { cls := .type "tuple", data := .seq items.toList.reverse.toArray } })
    (hsz : items.size ≤ sizeLine) : wpAny (model prog w) A (getItem (.ref t) (.ref sl)) Q E s := by
  have htake : sizeOk (.seq items.toList.reverse.toArray) := by
    show items.toList.reverse.toArray.size ≤ sizeLine
    rw [List.size_toArray, List.length_reverse, Array.length_toList]
    exact hsz
  obtain ⟨os, hos, hcs, hds⟩ := id hs
  have hTs : s.TypeIs (.ref sl) "slice" := ⟨os, hos, hcs⟩
  unfold getItem
  try with_reducible refine wpAny_holding ?_
  first | refine wpAny_bind (wpAny_pure ?_) | skip
  refine wpAny_bind (wpAny_sequenceKey ht.typeIs (by decide) ?_)
  refine wpAny_bind (wpAny_callSpecial?_slot (name := Str.ofString "__getitem__") ht.typeIs PyProof.Rows.slot_tuple_getitem
    (wpAny_call_entry PyProof.Rows.slot_tuple_getitem ht.typeIs entry_tuple_getitem ?_ (args_tuple_getitem _ _)))
  show wpAny _ _ (Builtin.Tuple.tupleItemsOf (.ref t) >>= _) _ _ s
  refine wpAny_bind (tupleItemsOf_ ht ?_)
  refine wpAny_bind (wpAny_typeOf hTs ?_)
  rw [if_pos (by decide)]
  refine wpAny_bind (sliceApplied_rev hs pl pu ps ?_)
  have hno : ¬ ((((items.size : Int) - 1) == 0 && (-1 : Int) == 1 && items.size == items.size) = true) := by
    intro q
    rw [Bool.and_eq_true, Bool.and_eq_true] at q
    have q1 : (-1 : Int) = 1 := eq_of_beq q.1.2
    omega
  show wpAny _ _ (if (((items.size : Int) - 1) == 0 && (-1 : Int) == 1 && items.size == items.size) = true then _ else _) _ _ s
  rw [if_neg hno, pick_rev]
  first
    | exact wpAny_bind (m := Builtin.Tuple.tupleExact _) (wpAny_newObj_type (wpAny_pure ⟨_, rfl, wpAny_pure h⟩) htake)
    | exact wpAny_bind (m := Builtin.Tuple.tupleExact _) (wpAny_newObj_type (wpAny_bind (wpAny_pure (wpAny_pure ⟨_, rfl, wpAny_pure h⟩))) htake)
    | exact wpAny_bind (wpAny_bind (m := Builtin.Tuple.tupleExact _) (wpAny_newObj_type (wpAny_pure (wpAny_pure ⟨_, rfl, wpAny_pure h⟩)) htake))
    | exact wpAny_bind (wpAny_bind (m := Builtin.Tuple.tupleExact _) (wpAny_newObj_type (wpAny_pure ⟨_, rfl, wpAny_pure h⟩) htake))
end
def tRev2 (K : PySem.W.Frag) (te : TE) : TE := fun σ H Q => te σ H fun x H1 => ∃ a xs, x = .ref a ∧ ((SqL K H1 a xs ∧ ∀ p, H1 p = none → Q (.ref p) (upd H1 p (.lst xs.reverse))) ∨ (SqT K H1 a xs ∧ ∀ p, H1 p = none → Q (.ref p) (upd H1 p (.tup xs.reverse))))
theorem pe_rev2 {X : Cx} {e : Expr} {te : TE} {k : Nat} {p1 p2 p3 pos : Pos} (he : PE X e te) : PE X (.Subscript e (.Slice none none (some (.UnaryOp .USub (.Constant (.int 1) k p1) p2)) p3) pos) (tRev2 X.K te) := by
  refine ⟨fun pins s σ H Q I h => ?_⟩
  refine Subscript_ (thn (he.run pins s σ H _ I h) fun v s1 ⟨x, H1, I1, r1, q1⟩ => ?_)
  obtain ⟨a, xs, ex, q⟩ := q1
  subst ex
  cases r1
  have hst : PO X (some (.UnaryOp .USub (.Constant (.int 1) k p1) p2)) (tPart (tUn (rU fun i => .int (-i)) (tC (.int 1)))) := po_some (pe_un un_neg pe_int)
  refine wpAny_Slice (thn (po_none.run pins s1 σ H1 (fun o H2 => o = none ∧ H2 = H1) I1 ⟨rfl, rfl⟩) fun vl s2 ⟨l, H2, I2, pl, el, e2⟩ => ?_)
  subst el e2
  refine thn (po_none.run pins s2 σ H2 (fun o H3 => o = none ∧ H3 = H2) I2 ⟨rfl, rfl⟩) fun vu s3 ⟨u, H3, I3, pu, eu, e3⟩ => ?_
  subst eu e3
  refine thn (hst.run pins s3 σ H3 (fun o H4 => o = some (-1) ∧ H4 = H3) I3 ⟨1, rfl, -1, rfl, rfl, rfl⟩) fun vs s4 ⟨o, H4, I4, ps, eo, e4⟩ => ?_
  subst eo e4
  have I5 : Inv X pins σ H4 { s4 with heap := s4.heap.push { cls := .type "slice", data := .fields #[vl, vu, vs] } } := I4.kept (t' := s4.toks) fun b ob q => Heap.get?_push_of_some _ q
  show wpAny (model X.prog X.w) X.A (subscriptTail e (.Slice none none (some (.UnaryOp .USub (.Constant (.int 1) k p1) p2)) p3) (.ref a) (.ref s4.heap.objs.size)) (EP X pins σ Q) X.xe { s4 with heap := s4.heap.push { cls := .type "slice", data := .fields #[vl, vu, vs] } }
  rcases q with ⟨hx, q⟩ | ⟨hx, q⟩
  · obtain ⟨its, r, ht, hz⟩ := I5.list hx
    have hlen := r.length
    refine tail_any (ops := [.ref a, .ref s4.heap.objs.size]) ht.isList.typeIs (PySem.slot_list_getitem.lookup) ?_ (by with_unfolding_all rfl)
    refine wpAny_getItem_list_slice ht.isList (Heap.IsSliceOf.new _ vl vu vs) pl pu ps (by decide) ?_ (by rw [List.size_toArray]; omega)
    rw [PySem.W.krv_pick]
    refine ⟨.ref _, _, I5.laid (t' := s4.toks) (o := .lst xs.reverse) (fun b ob q => Heap.get?_push_of_some _ q) (Nat.le_refl _) ?_, rfl, q _ (I5.hok.fresh (Nat.le_refl _))⟩
    exact ⟨by rw [List.length_reverse]; exact hz, _, 0, r.reverse, Heap.get?_push_size _ rfl⟩
  · obtain ⟨its, r, ht, hz⟩ := I5.tuple hx
    have hlen := r.length
    refine tail_any (ops := [.ref a, .ref s4.heap.objs.size]) ht.typeIs (PyProof.Rows.slot_tuple_getitem.lookup) ?_ (by with_unfolding_all rfl)
    refine getItem_tuple_rev ht (Heap.IsSliceOf.new _ vl vu vs) pl pu ps ?_ (by rw [List.size_toArray]; omega)
    refine ⟨.ref _, _, I5.laid (t' := s4.toks) (o := .tup xs.reverse) (fun b ob q => Heap.get?_push_of_some _ q) (Nat.le_refl _) ?_, rfl, q _ (I5.hok.fresh (Nat.le_refl _))⟩
    exact ⟨by rw [List.length_reverse]; exact hz, _, r.reverse, IsTup.new _ _⟩
end Rf

set_option Elab.async false
set_option linter.all false
set_option maxRecDepth 100000
set_option maxHeartbeats 1000000
namespace Rf
open PySem PySem.Spec PyProof.Rows L2
variable [Tb]
section
variable {K : PySem.W.Frag} {mg : Str → Option Value} {cx : CtxR} {F H F' H' : Hp} {σ : L2.St} {Γ Γ' Γ1 : En} {v : V} {d : D} {ds : List D} {Q : VK} {X : Cx} {i : Nat} {pos apos p2 p3 p4 : Pos}
variable {pe pa pb pc : Expr} {es : List Expr} {ma mb mc : EM D} {mE m1 m2 : EM R} {ms : EM (List D)}
theorem rup {r : R} {H1 F2 H2 : Hp} {S : Addr → Prop} (s1 : Step F H S F' H1) (rr : RRep K H1 F2 H2 v r) : RRep K H F2 H2 v r := by
  cases r with
  | d d => exact rr
  | m m =>
    obtain ⟨a, z, h1, h2⟩ := rr
    refine ⟨a, z, ?_, h2⟩
    cases q : H a with
    | none => rfl
    | some o => exact absurd h1 (s1.dom a (by rw [q]; simp))

/-! ### and, or -/
theorem rd_and (σ : L2.St) (H : Hp) (Q : VK) (q : rE X.K (mAndOr true ma m1) σ H Q) : tAndV (rD X.K ma) (rE X.K m1) σ H Q := by
  obtain ⟨F, Γ, r, Γ', A, e, k⟩ := q
  obtain ⟨x, Γ1, e1, e⟩ := bind_ok e
  refine ⟨F, Γ, x, Γ1, A, e1, fun v F1 H1 s1 A1 g1 r1 => ?_⟩
  cases r1 with
  | bl c =>
    refine ⟨c, rfl, ?_⟩
    cases c with
    | true => exact iteT ⟨F1, Γ1, r, Γ', A1, e, fun v F2 H2 s2 A2 g2 r2 => k v F2 H2 (s1.trans s2 fun z q => .inl (g1.mu q)) A2 (g1.trans g2) (rup s1 r2)⟩
    | false =>
      refine iteF ?_
      obtain ⟨rfl, rfl⟩ := ret_ok e
      exact k _ F1 H1 s1 A1 g1 (.bl _)
  | _ => cases e
theorem rd_or (σ : L2.St) (H : Hp) (Q : VK) (q : rE X.K (mAndOr false ma m1) σ H Q) : tOrV (rD X.K ma) (rE X.K m1) σ H Q := by
  obtain ⟨F, Γ, r, Γ', A, e, k⟩ := q
  obtain ⟨x, Γ1, e1, e⟩ := bind_ok e
  refine ⟨F, Γ, x, Γ1, A, e1, fun v F1 H1 s1 A1 g1 r1 => ?_⟩
  cases r1 with
  | bl c =>
    refine ⟨c, rfl, ?_⟩
    cases c with
    | false => exact iteF ⟨F1, Γ1, r, Γ', A1, e, fun v F2 H2 s2 A2 g2 r2 => k v F2 H2 (s1.trans s2 fun z q => .inl (g1.mu q)) A2 (g1.trans g2) (rup s1 r2)⟩
    | true =>
      refine iteT ?_
      obtain ⟨rfl, rfl⟩ := ret_ok e
      exact k _ F1 H1 s1 A1 g1 (.bl _)
  | _ => cases e
theorem s_and (ha : PE X pa (rD X.K ma)) (hb : PE X (.BoolOp .And (pb :: es) pos) (rE X.K m1)) : PE X (.BoolOp .And (pa :: pb :: es) pos) (rE X.K (mAndOr true ma m1)) := PE.weak (pe_and ha hb) rd_and
theorem s_or (ha : PE X pa (rD X.K ma)) (hb : PE X (.BoolOp .Or (pb :: es) pos) (rE X.K m1)) : PE X (.BoolOp .Or (pa :: pb :: es) pos) (rE X.K (mAndOr false ma m1)) := PE.weak (pe_or ha hb) rd_or
theorem t_and {mt mu : EM Bool} (ha : PT X pa (rT X.K mt)) (hb : PW X (.BoolOp .And (pb :: es) pos) (rT X.K mu)) : PW X (.BoolOp .And (pa :: pb :: es) pos) (rT X.K (mt.bind fun k => if k = true then mu else EM.ret k)) := by
  refine ⟨fun whole pins s σ H Q I q => (pw_and ha hb).run whole pins s σ H Q I ?_⟩
  obtain ⟨F, Γ, r, Γ', A, e, k⟩ := q
  obtain ⟨c, Γ1, e1, e⟩ := bind_ok e
  refine ⟨F, Γ, c, Γ1, A, e1, fun F1 H1 s1 A1 g1 => ?_⟩
  cases c with
  | true => exact iteT ⟨F1, Γ1, r, Γ', A1, e, fun F2 H2 s2 A2 g2 => k F2 H2 (s1.trans s2 fun z q => .inl (g1.mu q)) A2 (g1.trans g2)⟩
  | false =>
    refine iteF ?_
    obtain ⟨rfl, rfl⟩ := ret_ok e
    exact k F1 H1 s1 A1 g1
theorem t_or {mt mu : EM Bool} (ha : PT X pa (rT X.K mt)) (hb : PW X (.BoolOp .Or (pb :: es) pos) (rT X.K mu)) : PW X (.BoolOp .Or (pa :: pb :: es) pos) (rT X.K (mt.bind fun k => if k = false then mu else EM.ret k)) := by
  refine ⟨fun whole pins s σ H Q I q => (pw_or ha hb).run whole pins s σ H Q I ?_⟩
  obtain ⟨F, Γ, r, Γ', A, e, k⟩ := q
  obtain ⟨c, Γ1, e1, e⟩ := bind_ok e
  refine ⟨F, Γ, c, Γ1, A, e1, fun F1 H1 s1 A1 g1 => ?_⟩
  cases c with
  | false => exact iteF ⟨F1, Γ1, r, Γ', A1, e, fun F2 H2 s2 A2 g2 => k F2 H2 (s1.trans s2 fun z q => .inl (g1.mu q)) A2 (g1.trans g2)⟩
  | true =>
    refine iteT ?_
    obtain ⟨rfl, rfl⟩ := ret_ok e
    exact k F1 H1 s1 A1 g1

/-! ### built-in functions -/
theorem rd_bl {f : Bl} {t : TA} (σ : L2.St) (H : Hp) (Q : VK) (q : rE X.K (ms.bind fun ds => EM.opt (bltD f ds)) σ H Q) : tCB (rBl X.K f) (rPs X.K ms) σ H Q := by
  obtain ⟨F, Γ, r, Γ', A, e, k⟩ := q
  obtain ⟨xs, Γ1, e1, e⟩ := bind_ok e
  obtain ⟨e2, rfl⟩ := opt_ok e
  exact ⟨F, Γ, xs, _, A, e1, fun vs F1 H1 s1 A1 g1 r1 => ⟨F1, xs, r, A1.sub, r1, e2, gives_of A1 A s1 g1 k⟩⟩
theorem s_blB {f : Bl} {id : String} {x : Str} (hc : CallR X (.builtin id) (rBl X.K f)) (hg : Gl X x) (hm : X.mg x = none) (hv : bootBuiltins x = some (.builtin id)) (ha : PA X (pa :: es) (rPs X.K ms)) (hn : x ≠ "__name__") (hd : (x == ("__debug__" : Str)) = false)
    (hs : (pa :: es).all notStar = true) : PE X (.Call (.Name x p2) (pa :: es) [] pos) (rE X.K (ms.bind fun ds => EM.opt (bltD f ds))) := by
  rw [List.all_cons, Bool.and_eq_true] at hs
  exact PE.weak (pe_callB hc hg hm hv ha hn hd (star_cons hs.1) (star_plain hs.2)) (rd_bl (t := tNil))
theorem s_blT {f : Bl} {id : String} {x : Str} (hc : CallR X (.type id) (rBl X.K f)) (hg : Gl X x) (hm : X.mg x = none) (hv : bootBuiltins x = some (.type id)) (ha : PA X (pa :: es) (rPs X.K ms)) (hn : x ≠ "__name__") (hd : (x == ("__debug__" : Str)) = false)
    (hs : (pa :: es).all notStar = true) : PE X (.Call (.Name x p2) (pa :: es) [] pos) (rE X.K (ms.bind fun ds => EM.opt (bltD f ds))) := by
  rw [List.all_cons, Bool.and_eq_true] at hs
  exact PE.weak (pe_callTy hc hg hm hv ha hn hd (star_cons hs.1) (star_plain hs.2)) (rd_bl (t := tNil))
theorem s_blF {f : Bl} {id : String} {x : Str} (hc : CallR X (.builtin id) (rBl X.K f)) (hg : Gl X x) (hm : X.mg x = some (.builtin id)) (ha : PA X (pa :: es) (rPs X.K ms)) (hd : (x == ("__debug__" : Str)) = false)
    (hs : (pa :: es).all notStar = true) : PE X (.Call (.Name x p2) (pa :: es) [] pos) (rE X.K (ms.bind fun ds => EM.opt (bltD f ds))) := by
  rw [List.all_cons, Bool.and_eq_true] at hs
  exact PE.weak (pe_callBfun hc hg hm ha hd (star_cons hs.1) (star_plain hs.2)) (rd_bl (t := tNil))

/-! ### isinstance -/
theorem isiD_one {x : D} {t : Ty} : isiD cx x [t] = isi1 cx x t := by
  unfold isiD
  cases h : isi1 cx x t with
  | none => rfl
  | some b => cases b <;> rfl
theorem s_isi1 {t : Ty} (O : OwnOk X.K mg cx) (hg : Gl X "isinstance") (hm : X.mg "isinstance" = none) (ha : PE X pa (rP X.K ma)) (hc : PE X pb (tC (t.v X.K))) (h1 : notStar pa = true) (h2 : notStar pb = true) :
    PE X (.Call (.Name "isinstance" p2) [pa, pb] [] pos) (rE X.K (mIsi cx [t] ma)) :=
  PE.weak (pe_callB call_isi hg hm boot_isinstance (pa_cons ha (pa_cons hc pa_nil (star_cons h2)) (star_cons h1)) (by decide) (by decide) (star_cons h1) (star_plain (by simp [h2]))) fun σ H Q q => by
    obtain ⟨F, Γ, r, Γ', A, e, k⟩ := q
    obtain ⟨x, Γ1, e1, e⟩ := bind_ok e
    obtain ⟨e2, rfl⟩ := opt_ok e
    obtain ⟨b, hb, rfl⟩ := Option.map_eq_some_iff.mp e2
    refine ⟨F, Γ, x, _, A, e1, fun v F1 H1 s1 A1 g1 r1 => ?_⟩
    have hb' : isi1 cx x t = some b := isiD_one ▸ hb
    obtain ⟨q1, q2⟩ := isi1_ok O A1.sub r1 hb'
    exact ⟨v, _, _, _, b, rfl, t.cls X.K, q1, q2, k _ F1 H1 s1 A1 g1 (.bl b)⟩
theorem tups_tC {vs : List V} : ∀ {es : List Expr}, Paired (fun (e : Expr) v => PE X e (tC v) ∧ notStar e = true) es vs → PA X es (fun _ H Q => Q vs H) := by
  induction vs with
  | nil => intro es h; cases h; exact pa_nil
  | cons v vs ih => intro es h; cases h with | cons h1 h2 => exact PA.weak (pa_cons h1.1 (ih h2) (star_cons h1.2)) fun σ H Q q => q
theorem s_isiT {ts : List Ty} {k0 : Nat} (O : OwnOk X.K mg cx) (hg : Gl X "isinstance") (hm : X.mg "isinstance" = none) (ha : PE X pa (rP X.K ma)) (hc : Paired (fun (e : Expr) v => PE X e (tC v) ∧ notStar e = true) es (ts.map (·.v X.K))) (h1 : notStar pa = true) (hne : ts ≠ []) (hl : ts.length ≤ 20) :
    PE X (.Call (.Name "isinstance" p2) [pa, .Tuple es k0 p3] [] pos) (rE X.K (mIsi cx ts ma)) :=
  PE.weak (pe_callB call_isiT hg hm boot_isinstance (pa_cons ha (pa_cons (pe_tup (tups_tC hc)) pa_nil) (star_cons h1)) (by decide) (by decide) (star_cons h1) rfl) fun σ H Q q => by
    obtain ⟨F, Γ, r, Γ', A, e, k⟩ := q
    obtain ⟨x, Γ1, e1, e⟩ := bind_ok e
    obtain ⟨e2, rfl⟩ := opt_ok e
    obtain ⟨b, hb, rfl⟩ := Option.map_eq_some_iff.mp e2
    refine ⟨F, Γ, x, _, A, e1, fun v F1 H1 s1 A1 g1 r1 => ?_⟩
    refine ⟨by rw [List.length_map]; exact Nat.le_trans hl (by rw [sizeLine_eq]; decide), fun p hp => ?_⟩
    have s' : Same F1 (upd H1 p (.tup (ts.map (·.v X.K)))) := A1.sub.trans (same_upd hp)
    have r1' : PRep X.K F1 (upd H1 p (.tup (ts.map (·.v X.K)))) v x := by
      rcases r1 with r1 | ⟨a, m, z1, z2, z3⟩
      · exact .inl r1
      · obtain ⟨o, ho, _⟩ := z3.ex
        exact .inr ⟨a, m, z1, z2, z3.up (Same.refl _) (upd_ne (ne_of_none ho hp))⟩
    obtain ⟨q1, q2⟩ := isiD_ok O s' r1' hne hb
    have hcl : ∀ ts : List Ty, Paired ClsV (ts.map (·.v X.K)) (ts.map (·.u X.K)) := by
      intro ts
      induction ts with
      | nil => exact .nil
      | cons t ts ih => exact .cons (t.cls X.K) ih
    exact ⟨v, p, ts.map (·.v X.K), _, ts.map (·.u X.K), b, rfl, upd_same, hcl ts, q1, q2, k _ F1 _ (s1.new (by
      cases q : H p with
      | none => rfl
      | some o => exact absurd hp (s1.dom p (by rw [q]; simp)))) (A1.newH hp _) g1 (.bl b)⟩

/-! ### attributes, subscripts, slices -/
theorem s_attr {f : Str} (O : OwnOk X.K mg cx) (ha : PE X pa (rP X.K ma)) (hs : notSuper pa = true) : PE X (.Attribute pa f pos) (rE X.K (ma.bind fun x => EM.opt ((attrD cx x f).map .d))) :=
  PE.weak (pe_fld ha (attr_plain hs)) fun σ H Q q => by
    obtain ⟨F, Γ, r, Γ', A, e, k⟩ := q
    obtain ⟨x, Γ1, e1, e⟩ := bind_ok e
    obtain ⟨e2, rfl⟩ := opt_ok e
    obtain ⟨d, hd, rfl⟩ := Option.map_eq_some_iff.mp e2
    refine ⟨F, Γ, x, _, A, e1, fun v F1 H1 s1 A1 g1 r1 => ?_⟩
    unfold attrD at hd
    cases x with
    | ins C ns ds =>
      simp only at hd
      split at hd
      · rename_i hf
        obtain ⟨a, dx, vs, rfl, h1, h2, h3⟩ := r1.ins A1.sub
        obtain ⟨w, hw, rw'⟩ := lk_lookup h3 hd
        cases hl : cx.cls.lookup C with
        | none => rw [hl] at hf; cases hf
        | some fs =>
          rw [hl] at hf
          have hmem := PySem.mem_of_lookup hl
          exact ⟨a, _, dx, _, w, rfl, h1, O.cl C (List.mem_map.mpr ⟨_, hmem, rfl⟩), O.no (C, fs) hmem f (List.contains_iff_mem.mp hf), hw, k w F1 H1 s1 A1 g1 rw'⟩
      · cases hd
    | _ => cases hd
theorem s_ix (hu : X.A.units + 1 < cLine) (ha : PE X pa (rD X.K ma)) (hb : PE X pb (rD X.K mb)) (hs : notSlice pb = true) : PE X (.Subscript pa pb pos) (rE X.K (ma.bind fun x => mb.bind fun y => EM.opt ((ixD x y).map .d))) :=
  PE.weak (pe_ix (ix_d hu) ha hb (plain_ix hs)) fun σ H Q q => by
    obtain ⟨F, Γ, r, Γ', A, e, k⟩ := q
    obtain ⟨x, Γ1, e1, e⟩ := bind_ok e
    obtain ⟨y, Γ2, e2, e⟩ := bind_ok e
    obtain ⟨e3, rfl⟩ := opt_ok e
    obtain ⟨d, hd, rfl⟩ := Option.map_eq_some_iff.mp e3
    exact seq2 A e1 e2 fun vx vy F2 H2 st A2 es rx ry => ⟨F2, x, y, d, A2.sub, .inl rx, .inl ry, hd, fun w rw' => k w F2 H2 st A2 es rw'⟩
theorem s_ixV (hu : X.A.units + 1 < cLine) (ha : PE X pa (tVar i)) (hb : PE X pb (rD X.K mb)) (hs : notSlice pb = true) : PE X (.Subscript pa pb pos) (rE X.K ((pkV i).bind fun _ => mb.bind fun y => (pkV i).bind fun x => EM.opt ((ixD x y).map .d))) :=
  PE.weak (pe_ix (ix_d hu) ha hb (plain_ix hs)) fun σ H Q q => by
    obtain ⟨F, Γ, r, Γ', A, e, k⟩ := q
    obtain ⟨x0, Γ0, e0, e⟩ := bind_ok e
    obtain ⟨y, Γ1, e1, e⟩ := bind_ok e
    obtain ⟨x, Γ2, e2, e⟩ := bind_ok e
    obtain ⟨e3, rfl⟩ := opt_ok e
    obtain ⟨d, hd, rfl⟩ := Option.map_eq_some_iff.mp e3
    obtain ⟨rfl, v, hv, _⟩ := A.pk e0
    refine ⟨v, hv, F, _, y, Γ1, A, e1, fun vy F1 H1 s1 A1 g1 r1 => ?_⟩
    obtain ⟨rfl, v', hv', pr⟩ := A1.pk e2
    rw [hv] at hv'; cases hv'
    exact ⟨F1, x, y, d, A1.sub, pr, .inl r1, hd, fun w rw' => k w F1 H1 s1 A1 g1 rw'⟩
/-- a part of a slice -/
def rO (K : PySem.W.Frag) (m : EM (Option Int)) : TO := fun σ H Q => ∃ F Γ r Γ', At K F H σ Γ ∧ m Γ = .ok r Γ' ∧
  ∀ F' H', Step F H (Mu σ Γ) F' H' → At K F' H' σ Γ' → ES Γ Γ' → Q r H'
theorem PO.weak {o : Option Expr} {t t' : TO} (h : PO X o t) (k : ∀ σ H Q, t' σ H Q → t σ H Q) : PO X o t' := ⟨fun pins s σ H Q I q => h.run pins s σ H Q I (k σ H Q q)⟩
theorem s_onil : PO X none (rO X.K (EM.ret none)) := PO.weak po_none fun σ H Q q => by
  obtain ⟨F, Γ, r, Γ', A, e, k⟩ := q
  obtain ⟨rfl, rfl⟩ := ret_ok e
  exact k F H (Step.refl ..) A (ES.refl _)
theorem s_osome (ha : PE X pa (rD X.K ma)) : PO X (some pa) (rO X.K (ma.bind fun x => match x with
    | .int i => EM.ret (some i)
    | _ => fun _ => .no)) := PO.weak (po_some ha) fun σ H Q q => by
  obtain ⟨F, Γ, r, Γ', A, e, k⟩ := q
  obtain ⟨x, Γ1, e1, e⟩ := bind_ok e
  refine ⟨F, Γ, x, Γ1, A, e1, fun v F1 H1 s1 A1 g1 r1 => ?_⟩
  cases r1 with
  | int i =>
    obtain ⟨rfl, rfl⟩ := ret_ok e
    exact ⟨i, rfl, k F1 H1 s1 A1 g1⟩
  | _ => cases e
theorem s_cut {lo hi : Option Expr} {ml mh : EM (Option Int)} (ha : PE X pa (rD X.K ma)) (hl : PO X lo (rO X.K ml)) (hh : PO X hi (rO X.K mh)) : PE X (.Subscript pa (.Slice lo hi none p2) pos) (rE X.K (ma.bind fun x => ml.bind fun l => mh.bind fun h => EM.opt (cutD x l h))) :=
  PE.weak (pe_slice sl_d ha hl hh) fun σ H Q q => by
    obtain ⟨F, Γ, r, Γ', A, e, k⟩ := q
    obtain ⟨x, Γ1, e1, e⟩ := bind_ok e
    obtain ⟨l, Γ2, e2, e⟩ := bind_ok e
    obtain ⟨h, Γ3, e3, e⟩ := bind_ok e
    obtain ⟨e4, rfl⟩ := opt_ok e
    exact ⟨F, Γ, x, Γ1, A, e1, fun vx F1 H1 s1 A1 g1 r1 => ⟨F1, Γ1, l, Γ2, A1, e2, fun F2 H2 s2 A2 g2 => ⟨F2, Γ2, h, _, A2, e3, fun F3 H3 s3 A3 g3 =>
      ⟨F3, x, r, A3.sub, .inl ((r1.up s2.fs).up s3.fs), e4, gives_of A3 A ((s1.trans s2 fun z q => .inl (g1.mu q)).trans s3 fun z q => .inl ((g1.trans g2).mu q)) ((g1.trans g2).trans g3) k⟩⟩⟩⟩
theorem s_rev {kk : Nat} {p1 p4 : Pos} (ha : PE X pa (rD X.K ma)) : PE X (.Subscript pa (.Slice none none (some (.UnaryOp .USub (.Constant (.int 1) kk p1) p2)) p3) pos) (rE X.K (ma.bind fun x => EM.opt (revD x))) :=
  PE.weak (pe_rev2 ha) fun σ H Q q => by
    obtain ⟨F, Γ, r, Γ', A, e, k⟩ := q
    obtain ⟨x, Γ1, e1, e⟩ := bind_ok e
    obtain ⟨e4, rfl⟩ := opt_ok e
    refine ⟨F, Γ, x, _, A, e1, fun vx F1 H1 s1 A1 g1 r1 => ?_⟩
    cases r1 with
    | lst f1 rr =>
      cases e4
      exact ⟨_, _, rfl, .inl ⟨.inl (.inl (A1.sub _ _ f1)), fun p hp => (gives_of A1 A s1 g1 k).lst A1.sub rr.reverse hp⟩⟩
    | tup f1 rr =>
      cases e4
      exact ⟨_, _, rfl, .inr ⟨.inl (.inl (A1.sub _ _ f1)), fun p hp => (gives_of A1 A s1 g1 k).tup A1.sub rr.reverse hp⟩⟩
    | _ => cases e4

/-! ### displays -/
theorem s_tup {k0 : Nat} (ha : PA X es (rA X.K ms)) : PE X (.Tuple es k0 pos) (rE X.K (ms.bind fun ds => EM.opt (if ds.length ≤ 1000 then some (.d (.tup ds)) else none))) :=
  PE.weak (pe_tup ha) fun σ H Q q => by
    obtain ⟨F, Γ, r, Γ', A, e, k⟩ := q
    obtain ⟨xs, Γ1, e1, e⟩ := bind_ok e
    obtain ⟨e2, rfl⟩ := opt_ok e
    split at e2
    · rename_i hl
      cases e2
      exact ⟨F, Γ, xs, _, A, e1, fun vs F1 H1 s1 A1 g1 r1 => ⟨by rw [r1.len]; exact Nat.le_trans hl (by rw [sizeLine_eq]; decide), fun p hp => (gives_of A1 A s1 g1 k).tup A1.sub r1 hp⟩⟩
    · cases e2
theorem s_lst (ha : PA X es (rA X.K ms)) : PE X (.List es pos) (rE X.K (ms.bind fun ds => EM.opt (if ds.length ≤ 1000 then some (.m (.lst ds)) else none))) :=
  PE.weak (pe_lst ha) fun σ H Q q => by
    obtain ⟨F, Γ, r, Γ', A, e, k⟩ := q
    obtain ⟨xs, Γ1, e1, e⟩ := bind_ok e
    obtain ⟨e2, rfl⟩ := opt_ok e
    split at e2
    · rename_i hl
      cases e2
      exact ⟨F, Γ, xs, _, A, e1, fun vs F1 H1 s1 A1 g1 r1 => ⟨by rw [r1.len]; exact Nat.le_trans hl (by rw [sizeLine_eq]; decide), fun p hp => (gives_of A1 A s1 g1 k).lst A1.sub r1 hp⟩⟩
    · cases e2

/-! ### methods -/
theorem tyV_lst (s : Same F H) (h : PRep K F H v (.lst ds)) : tyV K "list" v H := by
  obtain ⟨a, vs, rfl, h1, _⟩ := h.lst s
  exact .inl ⟨rfl, vs, .inl (.inl h1)⟩
theorem s_indexV (hu : X.A.units + 65 < cLine) (ha : PE X pa (tVar i)) (hb : PA X (pb :: es) (rA X.K ms)) (hs : (pb :: es).all notStar = true) (hl : es.length < 20) (hsup : notSuper pa = true) (hline : (apos.endLine == pos.line) = true) :
    PE X (.Call (.Attribute pa "index" apos) (pb :: es) [] pos) (rE X.K ((pkV i).bind fun x0 => (EM.opt (match x0 with | .lst _ => some () | _ => none)).bind fun _ => ms.bind fun ds => (pkV i).bind fun x => EM.opt (methD .index x ds))) :=
  PE.weak (pe_bm PySem.F.plainAttrs_list PySem.F.slot_list_index PySem.F.type_list_index (me_index hu) ha hb (attr_plain hsup) (few_plain hs hl) hline (star_cons (by rw [List.all_cons, Bool.and_eq_true] at hs; exact hs.1)) (star_plain (by rw [List.all_cons, Bool.and_eq_true] at hs; exact hs.2))) fun σ H Q q => by
    obtain ⟨F, Γ, r, Γ', A, e, k⟩ := q
    obtain ⟨x0, Γ0, e0, e⟩ := bind_ok e
    obtain ⟨u, Γ1, e1, e⟩ := bind_ok e
    obtain ⟨ds, Γ2, e2, e⟩ := bind_ok e
    obtain ⟨x, Γ3, e3, e⟩ := bind_ok e
    obtain ⟨e4, rfl⟩ := opt_ok e
    obtain ⟨e5, rfl⟩ := opt_ok e1
    obtain ⟨rfl, v, hv, pr0⟩ := A.pk e0
    refine ⟨v, hv, ?_, F, _, ds, Γ2, A, e2, fun vs F1 H1 s1 A1 g1 r1 => ?_⟩
    · cases x0 <;> first | exact tyV_lst A.sub pr0 | cases e5
    · obtain ⟨rfl, v', hv', pr⟩ := A1.pk e3
      rw [hv] at hv'; cases hv'
      exact ⟨F1, x, ds, r, A1.sub, pr, r1.pr, e4, gives_of A1 A s1 g1 k⟩
/-- a list that a slot holds is changed -/
theorem At.stV (A : At K F H σ Γ) {o o' : M} (e : obV i Γ = some o) : ∃ a, σ[i]? = some (some (.ref a)) ∧ F a = none ∧ MRep K F H a o ∧ Mu σ Γ a ∧ ∀ H', (∀ b, b ≠ a → H' b = H b) → Same F H' → MRep K F H' a o' → At K F H' σ (stV i o' Γ) ∧ ES Γ (stV i o' Γ) := by
  unfold obV at e
  split at e
  · rename_i m h
    cases e
    obtain ⟨a, e1, f, r⟩ := A.ob i _ _ h rfl
    refine ⟨a, e1, f, r, ⟨i, _, _, h, rfl, e1⟩, fun H' hk hs hm => ?_⟩
    unfold Rf.stV
    rw [h]
    obtain ⟨o0, ho0, n0⟩ := r.noTC
    refine ⟨A.set1 (tabs_chg A.tab ho0 n0 hk) (Same.refl F) hs (fun j s n b hj ej cj ej2 => ?_) (fun d z => by cases z) (fun s n z c => ?_), ES.set1 fun s hs' => ?_⟩
    · obtain ⟨b', z1, f', _⟩ := A.ob j s n ej cj
      rw [ej2] at z1; cases z1
      exact ⟨f', hk b fun z => by subst z; exact A.sep i j _ s _ n b (fun z => hj z.symm) h rfl ej cj e1 ej2⟩
    · cases z
      cases c
      exact ⟨a, e1, f, hm, fun j s n hj ej cj z => A.sep i j _ s _ n a (fun z => hj z.symm) h rfl ej cj e1 z⟩
    · rw [h] at hs'; cases hs'; exact .inl ⟨_, rfl⟩
  · rename_i m h
    cases e
    obtain ⟨a, e1, f, r⟩ := A.ob i _ _ h rfl
    refine ⟨a, e1, f, r, ⟨i, _, _, h, rfl, e1⟩, fun H' hk hs hm => ?_⟩
    unfold Rf.stV
    rw [h]
    obtain ⟨o0, ho0, n0⟩ := r.noTC
    refine ⟨A.set1 (tabs_chg A.tab ho0 n0 hk) (Same.refl F) hs (fun j s n b hj ej cj ej2 => ?_) (fun d z => by cases z) (fun s n z c => ?_), ES.set1 fun s hs' => ?_⟩
    · obtain ⟨b', z1, f', _⟩ := A.ob j s n ej cj
      rw [ej2] at z1; cases z1
      exact ⟨f', hk b fun z => by subst z; exact A.sep i j _ s _ n b (fun z => hj z.symm) h rfl ej cj e1 ej2⟩
    · cases z
      cases c
      exact ⟨a, e1, f, hm, fun j s n hj ej cj z => A.sep i j _ s _ n a (fun z => hj z.symm) h rfl ej cj e1 z⟩
    · rw [h] at hs'; cases hs'; exact ⟨_, rfl⟩
  · cases e
theorem mutD_lst {m : Mn} {o o' : M} {r : R} (e : mutD m o ds = some (r, o')) : (∃ es, o = .lst es) ∧ (∃ es, o' = .lst es) ∧ ∃ d, r = .d d := by
  cases o with
  | lst es =>
    cases m with
    | append => obtain ⟨a, _, _, rfl, rfl⟩ := inv_append e; exact ⟨⟨_, rfl⟩, ⟨_, rfl⟩, _, rfl⟩
    | extend => obtain ⟨a, _, _, rfl, rfl⟩ := inv_extend e; exact ⟨⟨_, rfl⟩, ⟨_, rfl⟩, _, rfl⟩
    | pop => rcases inv_pop e with ⟨_, _, y, _, _, _, _, _, rfl, rfl⟩ | ⟨y, _, _, rfl, rfl⟩ <;> exact ⟨⟨_, rfl⟩, ⟨_, rfl⟩, _, rfl⟩
  | _ => cases m <;> simp [mutD] at e
theorem rd_mut {m : Mn} (σ : L2.St) (H : Hp) (Q : VK) (q : rE X.K (mMut m i ms) σ H Q) : tBM X.K "list" (rMn X.K m) (tVar i) (rA X.K ms) σ H Q := by
  obtain ⟨F, Γ, r, Γ', A, e, k⟩ := q
  unfold mMut at e
  split at e
  · rename_i es h0
    split at e
    · cases e
    · rename_i ds Γ1 e1
      split at e
      · cases e
      · rename_i o h1
        split at e
        · cases e
        · rename_i r' o' hm
          cases e
          obtain ⟨a, ha, fa, hr, _, _⟩ := A.stV (o' := o') h0
          obtain ⟨⟨es1, rfl⟩, ⟨es2, rfl⟩, d, rfl⟩ := mutD_lst hm
          refine ⟨.ref a, ha, .inl ⟨rfl, ?_⟩, F, Γ, ds, Γ1, A, e1, fun vs F1 H1 s1 A1 g1 r1 => ?_⟩
          · obtain ⟨vs, h, _⟩ := hr; exact ⟨vs, .inl (.inl h)⟩
          · obtain ⟨a', ha', fa', hr', hmu, hk⟩ := A1.stV (o' := .lst es2) h1
            rw [ha] at ha'; cases ha'
            refine ⟨F1, a, es1, ds, .d d, .lst es2, A1.sub, rfl, fa', hr', r1, hm, fun w vs' es' z1 z2 z3 => ?_⟩
            cases z1
            obtain ⟨d', z3, z4⟩ := z3
            cases z3
            obtain ⟨A2, g2⟩ := hk (upd H1 a (.lst vs')) (fun b hb => upd_ne hb) (fun b o e => by rw [upd_ne (fun z => by subst z; rw [fa'] at e; cases e)]; exact A1.sub _ _ e) ⟨vs', upd_same, z2⟩
            refine k w F1 _ ?_ A2 (g1.trans g2) z4
            refine s1.trans (S1 := fun b => b = a) ⟨Same.refl _, fun b o e n _ => by rw [upd_ne n]; exact e, fun _ _ _ => rfl, fun b h => ?_⟩ fun b z => by subst z; exact .inl (g1.mu hmu)
            by_cases hb : b = a
            · subst hb; rw [upd_same]; simp
            · rw [upd_ne hb]; exact h
  · cases e
theorem s_mut {m : Mn} {nm : Str} {id : String} (slot : Slot "list" nm id) (hty : typeOf (.builtin id) = pure (.type "method_descriptor")) (hm : MtR X id (rMn X.K m)) (ha : PE X pa (tVar i)) (hb : PA X (pb :: es) (rA X.K ms)) (hs : (pb :: es).all notStar = true) (hl : es.length < 20) (hsup : notSuper pa = true) (hline : (apos.endLine == pos.line) = true) :
    PE X (.Call (.Attribute pa nm apos) (pb :: es) [] pos) (rE X.K (mMut m i ms)) :=
  PE.weak (pe_bm PySem.F.plainAttrs_list slot hty hm ha hb (attr_plain hsup) (few_plain hs hl) hline (star_cons (by rw [List.all_cons, Bool.and_eq_true] at hs; exact hs.1)) (star_plain (by rw [List.all_cons, Bool.and_eq_true] at hs; exact hs.2))) rd_mut
theorem s_mut0 {m : Mn} {nm : Str} {id : String} (slot : Slot "list" nm id) (hty : typeOf (.builtin id) = pure (.type "method_descriptor")) (hm : MtR X id (rMn X.K m)) (ha : PE X pa (tVar i)) (hsup : notSuper pa = true) (hline : (apos.endLine == pos.line) = true) :
    PE X (.Call (.Attribute pa nm apos) [] [] pos) (rE X.K (mMut m i (EM.ret []))) :=
  PE.weak (pe_bm0 PySem.F.plainAttrs_list slot hty hm ha (attr_plain hsup) hline) fun σ H Q q => by
    obtain ⟨v, hv, ty, F, Γ, ds, Γ1, A, e1, k⟩ := rd_mut σ H Q q
    obtain ⟨rfl, rfl⟩ := ret_ok e1
    exact ⟨v, hv, ty, k [] F H (Step.refl ..) A (ES.refl _) .nil⟩
end
end Rf

set_option Elab.async false
set_option linter.all false
set_option maxRecDepth 100000
set_option maxHeartbeats 1000000
namespace Rf
open PySem PySem.Spec PyProof.Rows L2
variable [Tb]

def OwnMu (σ : L2.St) (Γ : En) (a : Addr) : Prop := ∃ (i : Nat) (m : M), Γ[i]? = some (some (.mu m)) ∧ σ[i]? = some (some (.ref a))
/-- what statements leave of the slots -/
structure SS (H0 : Hp) (σ : L2.St) (Γ : En) (σ' : L2.St) (Γ' : En) : Prop where
  len : σ'.length = σ.length
  bo : ∀ (i : Nat) (m : M), Γ[i]? = some (some (.bo m)) → (∃ m', Γ'[i]? = some (some (.bo m'))) ∧ σ'[i]? = σ[i]?
  ob : ∀ (i : Nat) (m : M), Γ'[i]? = some (some (.bo m)) → ∃ m', Γ[i]? = some (some (.bo m'))
  lk : ∀ (i : Nat) (m : M), Γ[i]? = some (some (.lk m)) → Γ'[i]? = some (some (.lk m)) ∧ σ'[i]? = σ[i]?
  own : ∀ a, OwnMu σ' Γ' a → OwnMu σ Γ a ∨ H0 a = none
section
variable {K : PySem.W.Frag} {mg : Str → Option Value} {cx : CtxR} {F H F' H' F1 H1 : Hp} {σ σ' σ1 : L2.St} {Γ Γ' Γ1 : En} {v : V} {d : D} {ds : List D} {Q : VK} {X : Cx} {i : Nat} {pos : Pos} {D0 : Ends}
theorem SS.refl (H : Hp) (σ : L2.St) (Γ : En) : SS H σ Γ σ Γ := ⟨rfl, fun i m h => ⟨⟨m, h⟩, rfl⟩, fun i m h => ⟨m, h⟩, fun i m h => ⟨h, rfl⟩, fun a h => .inl h⟩
theorem SS.trans (a : SS H σ Γ σ1 Γ1) (b : SS H1 σ1 Γ1 σ' Γ') (hd : ∀ x, H1 x = none → H x = none) : SS H σ Γ σ' Γ' := by
  refine ⟨b.len.trans a.len, fun i m h => ?_, fun i m h => ?_, fun i m h => ?_, fun x h => ?_⟩
  · obtain ⟨⟨m1, h1⟩, e1⟩ := a.bo i m h
    obtain ⟨h2, e2⟩ := b.bo i m1 h1
    exact ⟨h2, e2.trans e1⟩
  · obtain ⟨m1, h1⟩ := b.ob i m h
    exact a.ob i m1 h1
  · obtain ⟨h1, e1⟩ := a.lk i m h
    obtain ⟨h2, e2⟩ := b.lk i m h1
    exact ⟨h2, e2.trans e1⟩
  · rcases b.own x h with h1 | h1
    · exact a.own x h1
    · exact .inr (hd x h1)
theorem dom_none {S : Addr → Prop} (s : Step F H S F' H') : ∀ x, H' x = none → H x = none := fun x h => by
  cases q : H x with
  | none => rfl
  | some o => exact absurd h (s.dom x (by rw [q]; simp))
theorem ES.back (x : ES Γ Γ') {s : Sl} (e : Γ'[i]? = some (some s)) : (∃ m n, s = .bo m ∧ Γ[i]? = some (some (.bo n))) ∨ (∃ m n, s = .mu m ∧ Γ[i]? = some (some (.mu n))) ∨ (∃ m, s = .lk m ∧ Γ[i]? = some (some (.lk m))) ∨ ∃ d, s = .fr d := by
  have hi : i < Γ.length := by rw [← x.1]; exact (List.getElem?_eq_some_iff.mp e).1
  obtain ⟨t, e2, g⟩ := x.2 i _ (List.getElem?_eq_getElem hi)
  rw [e] at e2
  cases e2
  generalize hs : Γ[i] = s0 at g
  have e0 : Γ[i]? = some s0 := by rw [List.getElem?_eq_getElem hi, hs]
  cases s0 with
  | none => cases g
  | some s0 =>
    cases s0 with
    | fr d => cases g; exact .inr (.inr (.inr ⟨d, rfl⟩))
    | mu m =>
      rcases g with ⟨n, g⟩ | ⟨d, g⟩
      · cases g; exact .inr (.inl ⟨n, m, rfl, e0⟩)
      · cases g; exact .inr (.inr (.inr ⟨d, rfl⟩))
    | bo m => obtain ⟨n, g⟩ := g; cases g; exact .inl ⟨n, m, rfl, e0⟩
    | lk m => cases g; exact .inr (.inr (.inl ⟨m, rfl, e0⟩))
theorem ES.ss (x : ES Γ Γ') : SS H σ Γ σ Γ' := by
  refine ⟨rfl, fun i m h => ?_, fun i m h => ?_, fun i m h => ?_, fun a h => ?_⟩
  · obtain ⟨t, e, g⟩ := x.2 i _ h
    obtain ⟨n, g⟩ := g
    subst g
    exact ⟨⟨n, e⟩, rfl⟩
  · rcases x.back h with ⟨_, n, _, q⟩ | ⟨_, _, z, _⟩ | ⟨_, z, _⟩ | ⟨_, z⟩
    · exact ⟨n, q⟩
    · cases z
    · cases z
    · cases z
  · obtain ⟨t, e, g⟩ := x.2 i _ h
    cases g
    exact ⟨e, rfl⟩
  · obtain ⟨i, m, e, z⟩ := h
    rcases x.back e with ⟨_, n, q, _⟩ | ⟨_, n, _, q⟩ | ⟨_, q, _⟩ | ⟨_, q⟩
    · cases q
    · exact .inl ⟨i, n, q, z⟩
    · cases q
    · cases q
theorem SS.mu (x : SS H σ Γ σ' Γ') {a : Addr} (h : Mu σ' Γ' a) : Mu σ Γ a ∨ H a = none := by
  obtain ⟨i, s, m, e, q, z⟩ := h
  cases s with
  | fr d => cases q
  | lk m => cases q
  | mu m' =>
    rcases x.own a ⟨i, m', e, z⟩ with ⟨j, n, e1, z1⟩ | h
    · exact .inl ⟨j, _, n, e1, rfl, z1⟩
    · exact .inr h
  | bo m' =>
    obtain ⟨n, e1⟩ := x.ob i m' e
    exact .inl ⟨i, _, n, e1, rfl, by rw [← (x.bo i n e1).2]; exact z⟩
/-- a result that a statement hands back: new, or the object of an own name -/
def RRet (K : PySem.W.Frag) (H0 : Hp) (σ : L2.St) (Γ : En) (F H : Hp) (v : V) : R → Prop
  | .d d => Rep K F v d
  | .m m => ∃ a, v = .ref a ∧ (OwnMu σ Γ a ∨ H0 a = none) ∧ F a = none ∧ MRep K F H a m
theorem RRep.ret {H0 : Hp} {r : R} (h : RRep K H0 F H v r) : RRet K H0 σ Γ F H v r := by
  cases r with
  | d d => exact h
  | m m => obtain ⟨a, z, h1, h2⟩ := h; exact ⟨a, z, .inr h1, h2⟩
/-- the wish of what is raised -/
class Wi where
  E : XK
variable [Wi]
/-- an exception that has been raised -/
def XRep (K : PySem.W.Frag) (H0 F H : Hp) (cls : Value) (d : Option Addr) (c : Xc) : Prop :=
  cls = .ref (He.ga K c.C) ∧ ∃ dx vs, d = some dx ∧ H0 dx = none ∧ F dx = none ∧ H dx = some (.xd (c.ns.zip vs).reverse) ∧ c.ns.length = vs.length ∧ Reps K F vs c.ds
theorem XRep.old {H0 H1 : Hp} {cls : Value} {d : Option Addr} {c : Xc} (x : XRep K H1 F H cls d c) (dn : ∀ x, H1 x = none → H0 x = none) : XRep K H0 F H cls d c := by
  obtain ⟨h1, dx, vs, h2, h3, h4⟩ := x
  exact ⟨h1, dx, vs, h2, dn _ h3, h4⟩
/-- the reading of an expression that raises what xf says -/
def rX (K : PySem.W.Frag) (xf : En → Option Xc) : TE := fun σ H _ => ∃ F Γ c, At K F H σ Γ ∧ xf Γ = some c ∧
  ∀ cls d F' H', Step F H (Mu σ Γ) F' H' → Same F' H' → TabF Tb.T F' H' → XRep K H F' H' cls d c → Wi.E cls d H'
def xrf (xf : En → Option Xc) (Γ : En) : Fl := match xf Γ with
  | some c => .ex c
  | none => .no
def FlQ (K : PySem.W.Frag) (F H : Hp) (σ : L2.St) (Γ : En) (D : Ends) : Fl → Prop
  | .nx Γ' => ∀ σ' F' H', Step F H (Mu σ Γ) F' H' → At K F' H' σ' Γ' → SS H σ Γ σ' Γ' → D.nx σ' H'
  | .bk Γ' => ∀ σ' F' H', Step F H (Mu σ Γ) F' H' → At K F' H' σ' Γ' → SS H σ Γ σ' Γ' → D.bk σ' H'
  | .ct Γ' => ∀ σ' F' H', Step F H (Mu σ Γ) F' H' → At K F' H' σ' Γ' → SS H σ Γ σ' Γ' → D.ct σ' H'
  | .rt r Γ' => ∀ v σ' F' H', Step F H (Mu σ Γ) F' H' → At K F' H' σ' Γ' → SS H σ Γ σ' Γ' → RRet K H σ Γ F' H' v r → D.rt v H'
  | .no => False
  | .ex c => ∀ cls d F' H', Step F H (Mu σ Γ) F' H' → Same F' H' → TabF Tb.T F' H' → XRep K H F' H' cls d c → Wi.E cls d H'
/-- the reading of a statement that m says -/
def rS (K : PySem.W.Frag) (m : En → Fl) : TS := fun D σ H => ∃ F Γ, At K F H σ Γ ∧ FlQ K F H σ Γ D (m Γ)
theorem FlQ.later {D : Ends} (st : Step F H (Mu σ Γ) F1 H1) (ss : SS H σ Γ σ1 Γ1) {f : Fl} (q : FlQ K F H σ Γ D f) : FlQ K F1 H1 σ1 Γ1 D f := by
  have dn := dom_none st
  have mu : ∀ x, Mu σ1 Γ1 x → Mu σ Γ x ∨ H x = none := fun x h => ss.mu h
  cases f with
  | nx Γ' => exact fun σ' F' H' s1 A1 s2 => q σ' F' H' (st.trans s1 mu) A1 (ss.trans s2 dn)
  | bk Γ' => exact fun σ' F' H' s1 A1 s2 => q σ' F' H' (st.trans s1 mu) A1 (ss.trans s2 dn)
  | ct Γ' => exact fun σ' F' H' s1 A1 s2 => q σ' F' H' (st.trans s1 mu) A1 (ss.trans s2 dn)
  | rt r Γ' =>
    refine fun v σ' F' H' s1 A1 s2 rr => q v σ' F' H' (st.trans s1 mu) A1 (ss.trans s2 dn) ?_
    cases r with
    | d d => exact rr
    | m m =>
      obtain ⟨a, z, h1, h2⟩ := rr
      refine ⟨a, z, ?_, h2⟩
      rcases h1 with h1 | h1
      · exact ss.own a h1
      · exact .inr (dn a h1)
  | no => exact q
  | ex c => exact fun cls d F' H' s1 sm tb x => q cls d F' H' (st.trans s1 mu) sm tb (x.old dn)
theorem FlQ.ends {D D' : Ends} (hn : D'.nx = D.nx) (hr : D'.rt = D.rt) (hb : D'.bk = D.bk) (hc : D'.ct = D.ct) {f : Fl} (q : FlQ K F H σ Γ D f) : FlQ K F H σ Γ D' f := by
  cases f with
  | nx Γ' => exact fun σ' F' H' s1 A1 s2 => by rw [hn]; exact q σ' F' H' s1 A1 s2
  | bk Γ' => exact fun σ' F' H' s1 A1 s2 => by rw [hb]; exact q σ' F' H' s1 A1 s2
  | ct Γ' => exact fun σ' F' H' s1 A1 s2 => by rw [hc]; exact q σ' F' H' s1 A1 s2
  | rt r Γ' => exact fun v σ' F' H' s1 A1 s2 rr => by rw [hr]; exact q v σ' F' H' s1 A1 s2 rr
  | no => exact q
  | ex c => exact q
/-- what is raised by an expression -/
theorem FlQ.x {D : Ends} {xf : En → Option Xc} (A : At K F H σ Γ) (q : FlQ K F H σ Γ D (xrf xf Γ)) : rX K xf σ H fun _ _ => True := by
  unfold xrf at q
  cases e : xf Γ with
  | none => rw [e] at q; exact q.elim
  | some c => rw [e] at q; exact ⟨F, Γ, c, A, e, q⟩
theorem rX.any {xf : En → Option Xc} {Q Q' : VK} (h : rX K xf σ H Q) : rX K xf σ H Q' := h
theorem px_none {X : Cx} {pe : Expr} : PE X pe (rX X.K fun _ => none) := ⟨fun pins s σ H Q I h => by
  obtain ⟨_, _, _, _, e, _⟩ := h
  cases e⟩

/-! ### blocks, tests -/
variable {st : Stmt} {body b2 : List Stmt} {m m2 : En → Fl} {pe : Expr}
theorem b_nil : PSs X [] (rS X.K fun Γ => .nx Γ) := PSs.weak pss_nil fun D σ H q => by
  obtain ⟨F, Γ, A, q⟩ := q
  dsimp only at q
  exact q σ F H (Step.refl ..) A (SS.refl ..)
theorem b_cons (h1 : PS X st (rS X.K m)) (h2 : PSs X body (rS X.K m2)) : PSs X (st :: body) (rS X.K fun Γ => match m Γ with
    | .nx Γ1 => m2 Γ1
    | f => f) := PSs.weak (pss_cons h1 h2) fun D σ H q => by
  obtain ⟨F, Γ, A, q⟩ := q
  dsimp only at q
  refine ⟨F, Γ, A, ?_⟩
  show FlQ X.K F H σ Γ { D with nx := rS X.K m2 D } (m Γ)
  cases e : m Γ with
  | nx Γ1 =>
    rw [e] at q
    intro σ1 F1 H1 s1 A1 ss1
    exact ⟨F1, Γ1, A1, FlQ.later s1 ss1 q⟩
  | bk Γ1 => rw [e] at q; exact q
  | ct Γ1 => rw [e] at q; exact q
  | rt r Γ1 => rw [e] at q; exact q
  | no => rw [e] at q; exact q
  | ex c => rw [e] at q; exact q
theorem i_ite {mt : EM Bool} (hc : PT X pe (rT X.K mt)) (h1 : PSs X body (rS X.K m)) (h2 : PSs X b2 (rS X.K m2)) : PS X (.If pe body b2 pos) (rS X.K fun Γ => match mt Γ with
    | .no => .no
    | .ok true Γ1 => m Γ1
    | .ok false Γ1 => m2 Γ1) := PS.weak (ps_if hc h1 h2) fun D σ H q => by
  obtain ⟨F, Γ, A, q⟩ := q
  dsimp only at q
  cases e : mt Γ with
  | no => rw [e] at q; exact q.elim
  | ok b Γ1 =>
    rw [e] at q
    refine ⟨F, Γ, b, Γ1, A, e, fun F1 H1 s1 A1 g1 => ?_⟩
    cases b with
    | true => exact iteT ⟨F1, Γ1, A1, FlQ.later s1 g1.ss q⟩
    | false => exact iteF ⟨F1, Γ1, A1, FlQ.later s1 g1.ss q⟩
theorem i_pass : PS X (.Pass pos) (rS X.K fun Γ => .nx Γ) := PS.weak ps_pass fun D σ H q => by
  obtain ⟨F, Γ, A, q⟩ := q
  dsimp only at q
  exact q σ F H (Step.refl ..) A (SS.refl ..)
theorem i_brk : PS X (.Break pos) (rS X.K fun Γ => .bk Γ) := PS.weak ps_break fun D σ H q => by
  obtain ⟨F, Γ, A, q⟩ := q
  dsimp only at q
  exact q σ F H (Step.refl ..) A (SS.refl ..)
theorem i_cont : PS X (.Continue pos) (rS X.K fun Γ => .ct Γ) := PS.weak ps_continue fun D σ H q => by
  obtain ⟨F, Γ, A, q⟩ := q
  dsimp only at q
  exact q σ F H (Step.refl ..) A (SS.refl ..)
theorem i_never : PS X st (rS X.K fun _ => .no) := PS.weak ps_never fun D σ H q => by
  obtain ⟨F, Γ, A, q⟩ := q
  dsimp only at q
  exact q
theorem i_retN : PS X (.Return none pos) (rS X.K fun Γ => .rt (.d .non) Γ) := PS.weak ps_retN fun D σ H q => by
  obtain ⟨F, Γ, A, q⟩ := q
  dsimp only at q
  exact q .non σ F H (Step.refl ..) A (SS.refl ..) .non
theorem i_ret {me : EM R} {xf : En → Option Xc} (h : PE X pe (rE X.K me)) (hx : PE X pe (rX X.K xf)) : PS X (.Return (some pe) pos) (rS X.K fun Γ => match me Γ with
    | .no => xrf xf Γ
    | .ok r Γ1 => .rt r Γ1) := PS.weak (ps_ret (PE.or h hx)) fun D σ H q => by
  obtain ⟨F, Γ, A, q⟩ := q
  dsimp only at q
  cases e : me Γ with
  | no => rw [e] at q; exact .inr (FlQ.x A q).any
  | ok r Γ1 =>
    rw [e] at q
    exact .inl ⟨F, Γ, r, Γ1, A, e, fun v F1 H1 s1 A1 g1 r1 => q v σ F1 H1 s1 A1 g1.ss r1.ret⟩
theorem At.drop (A : At K F H σ Γ) (i : Nat) : At K F H σ (Γ.set i none) :=
  A.set1 A.tab (Same.refl F) A.sub (fun j s m a hj e c z => ⟨by obtain ⟨b, z1, f, _⟩ := A.ob j s m e c; rw [z] at z1; cases z1; exact f, rfl⟩) (fun d z => nomatch z) (fun s m z => nomatch z)
theorem i_retV (h : PE X pe (tVar i)) : PS X (.Return (some pe) pos) (rS X.K fun Γ => match Γ[i]? with
      | some (some (.mu m)) => .rt (.m m) (Γ.set i none)
      | some (some (.fr d)) => .rt (.d d) Γ
      | _ => .no) := PS.weak (ps_ret h) fun D σ H q => by
  obtain ⟨F, Γ, A, q⟩ := q
  dsimp only at q
  split at q
  · rename_i m h
    obtain ⟨a, e1, f, r⟩ := A.ob i _ _ h rfl
    refine ⟨_, e1, q _ σ F H (Step.refl ..) (A.drop i) ?_ ⟨a, rfl, .inl ⟨i, m, h, e1⟩, f, r⟩⟩
    have ne : ∀ {j : Nat} {t : Option Sl}, Γ[j]? = some t → t ≠ some (.mu m) → j ≠ i := fun {j t} e n z => by subst z; rw [h] at e; cases e; exact n rfl
    have get : ∀ {j : Nat} {s : Sl}, (Γ.set i none)[j]? = some (some s) → Γ[j]? = some (some s) := fun {j s} e => by
      by_cases hj : i = j
      · subst hj
        rw [List.getElem?_set_self (by have := (List.getElem?_eq_some_iff.mp e).1; rwa [List.length_set] at this)] at e
        cases e
      · rwa [List.getElem?_set_ne hj] at e
    refine ⟨rfl, fun j n e => ⟨⟨n, ?_⟩, rfl⟩, fun j n e => ⟨n, get e⟩, fun j n e => ⟨?_, rfl⟩, fun a ⟨j, n, e, z⟩ => .inl ⟨j, n, get e, z⟩⟩
    · rw [List.getElem?_set_ne (ne e (by simp)).symm]; exact e
    · rw [List.getElem?_set_ne (ne e (by simp)).symm]; exact e
  · rename_i d h
    obtain ⟨v, e1, r⟩ := A.fr i d h
    exact ⟨v, e1, q v σ F H (Step.refl ..) A (SS.refl ..) r⟩
  · exact q.elim
def notComp : Expr → Bool
  | .ListComp _ _ _ _ => false
  | .SetComp _ _ _ _ => false
  | .DictComp _ _ _ _ _ => false
  | _ => true
theorem swap_plain {e : Expr} {t : Option Expr} {l : Nat} {env : PySem.Env} (h : notComp e = true) : swapsWith e t l env = pure false := by
  cases e <;> first | rfl | cases h
theorem i_exp {me : EM R} {xf : En → Option Xc} (h : PE X pe (rE X.K me)) (hx : PE X pe (rX X.K xf)) (hn : notComp pe = true) : PS X (.Expr pe pos) (rS X.K fun Γ => match me Γ with
    | .no => xrf xf Γ
    | .ok _ Γ1 => .nx Γ1) := PS.weak (ps_expr (PE.or h hx) (swap_plain hn)) fun D σ H q => by
  obtain ⟨F, Γ, A, q⟩ := q
  dsimp only at q
  cases e : me Γ with
  | no => rw [e] at q; exact .inr (FlQ.x A q).any
  | ok r Γ1 =>
    rw [e] at q
    exact .inl ⟨F, Γ, r, Γ1, A, e, fun v F1 H1 s1 A1 g1 r1 => q σ F1 H1 s1 A1 g1.ss⟩
end
end Rf

set_option Elab.async false
set_option linter.all false
set_option maxRecDepth 100000
set_option maxHeartbeats 1000000
namespace Rf
open PySem PySem.Spec PyProof.Rows L2
variable [Tb] [Wi]
section
variable {K : PySem.W.Frag} {mg : Str → Option Value} {cx : CtxR} {F H F' H' F1 H1 H0 : Hp} {σ σ' σ1 : L2.St} {Γ Γ' Γ1 : En} {v : V} {d : D} {ds : List D} {Q : VK} {X : Cx} {i : Nat} {pos : Pos} {D0 : Ends}
/-- what has come since H0 is held by no slot -/
def Free (H0 : Hp) (σ : L2.St) (Γ : En) : Prop := ∀ a, H0 a = none → ∀ (i : Nat) (s : Sl) (m : M), Γ[i]? = some (some s) → s.cont = some m → σ[i]? ≠ some (some (.ref a))
def R.fresh (v : V) : R → Addr → Prop
  | .d _, _ => False
  | .m _, a => v = .ref a
/-- the address of an object that some slot holds as its own -/
def Held (σ : L2.St) (Γ : En) (a : Addr) : Prop := ∃ (i : Nat) (s : Sl) (m : M), Γ[i]? = some (some s) ∧ s.cont = some m ∧ σ[i]? = some (some (.ref a))
theorem setV_ok {r : R} (e : setV i r Γ = some Γ') : i < Γ.length ∧ Γ' = Γ.set i (some r.sl) ∧ (∀ m, Γ[i]? ≠ some (some (.bo m))) ∧ ∀ m, Γ[i]? ≠ some (some (.lk m)) := by
  unfold setV at e
  split at e
  · cases e
  · cases e
  · rename_i s h1 h2 h3
    cases e
    refine ⟨(List.getElem?_eq_some_iff.mp h3).1, rfl, fun m z => ?_, fun m z => ?_⟩
    · exact h1 m (Option.some.inj (h3.symm.trans z))
    · exact h2 m (Option.some.inj (h3.symm.trans z))
  · cases e
theorem At.store {r : R} (A : At K F H σ Γ) (e0 : setV i r Γ = some Γ') (rr : RRep K H0 F H v r) (hf : ∀ a, r.fresh v a → ¬ Held σ Γ a) :
    At K F H (σ.set i (some v)) Γ' ∧ SS H0 σ Γ (σ.set i (some v)) Γ' ∧ ∀ a, Held (σ.set i (some v)) Γ' a → Held σ Γ a ∨ r.fresh v a := by
  obtain ⟨hi, rfl, nb, nl⟩ := setV_ok e0
  have hi2 : i < σ.length := by rw [← A.len]; exact hi
  have get : ∀ {j : Nat} {u : Option Sl}, (Γ.set i (some r.sl))[j]? = some u → (j = i ∧ u = some r.sl) ∨ (j ≠ i ∧ Γ[j]? = some u) := fun {j u} e => by
    by_cases hj : i = j
    · subst hj
      rw [List.getElem?_set_self hi] at e
      exact .inl ⟨rfl, (Option.some.inj e).symm⟩
    · rw [List.getElem?_set_ne hj] at e
      exact .inr ⟨fun z => hj z.symm, e⟩
  have sne : ∀ {j : Nat}, j ≠ i → (σ.set i (some v))[j]? = σ[j]? := fun {j} h => List.getElem?_set_ne h.symm
  have si : (σ.set i (some v))[i]? = some (some v) := List.getElem?_set_self hi2
  refine ⟨⟨A.sub, by rw [List.length_set, List.length_set]; exact A.len, fun j d e => ?_, fun j u m e c => ?_, fun j k u w m n a hjk e1 c1 e2 c2 z1 z2 => ?_, A.tab, A.f0⟩, ⟨by rw [List.length_set], fun j m e => ?_, fun j m e => ?_, fun j m e => ?_, fun a ⟨j, m, e, z⟩ => ?_⟩, fun a ⟨j, s, m, e, c, z⟩ => ?_⟩
  · rcases get e with ⟨rfl, z⟩ | ⟨hj, e⟩
    · cases r with
      | d d' => cases z; exact ⟨v, si, rr⟩
      | m m => cases z
    · rw [sne hj]; exact A.fr j d e
  · rcases get e with ⟨rfl, z⟩ | ⟨hj, e⟩
    · cases r with
      | d d' => cases z; cases c
      | m m' =>
        cases z
        cases c
        obtain ⟨a, rfl, h1, h2, h3⟩ := rr
        exact ⟨a, si, h2, h3⟩
    · rw [sne hj]; exact A.ob j u m e c
  · rcases get e1 with ⟨rfl, y1⟩ | ⟨hj, f1⟩
    · rcases get e2 with ⟨rfl, _⟩ | ⟨hk, f2⟩
      · exact hjk rfl
      · rw [si] at z1; rw [sne hk] at z2
        cases r with
        | d d' => cases y1; cases c1
        | m m' => cases z1; exact hf a rfl ⟨k, w, n, f2, c2, z2⟩
    · rcases get e2 with ⟨rfl, y2⟩ | ⟨hk, f2⟩
      · rw [si] at z2; rw [sne hj] at z1
        cases r with
        | d d' => cases y2; cases c2
        | m m' => cases z2; exact hf a rfl ⟨j, u, m, f1, c1, z1⟩
      · rw [sne hj] at z1; rw [sne hk] at z2
        exact A.sep j k u w m n a hjk f1 c1 f2 c2 z1 z2
  · have hj : j ≠ i := fun z => by subst z; exact nb m e
    exact ⟨⟨m, by rw [List.getElem?_set_ne hj.symm]; exact e⟩, sne hj⟩
  · rcases get e with ⟨rfl, z⟩ | ⟨hj, e⟩
    · cases r <;> cases z
    · exact ⟨m, e⟩
  · have hj : j ≠ i := fun z => by subst z; exact nl m e
    exact ⟨by rw [List.getElem?_set_ne hj.symm]; exact e, sne hj⟩
  · rcases get e with ⟨rfl, y⟩ | ⟨hj, e⟩
    · cases r with
      | d d' => cases y
      | m m' =>
        obtain ⟨b, rfl, h1, _⟩ := rr
        rw [si] at z; cases z
        exact .inr h1
    · rw [sne hj] at z; exact .inl ⟨j, m, e, z⟩
  · rcases get e with ⟨rfl, y⟩ | ⟨hj, e⟩
    · cases r with
      | d d' => cases y; cases c
      | m m' => rw [si] at z; cases z; exact .inr rfl
    · rw [sne hj] at z; exact .inl ⟨j, s, m, e, c, z⟩
/-- several results, each fresh object once -/
inductive RReps (K : PySem.W.Frag) (H0 F H : Hp) : List V → List R → Prop
  | nil : RReps K H0 F H [] []
  | cons {v : V} {vs : List V} {r : R} {rs : List R} : RRep K H0 F H v r → RReps K H0 F H vs rs → (∀ a, r.fresh v a → ∀ (j : Nat) (w : V) (s : R), vs[j]? = some w → rs[j]? = some s → ¬ s.fresh w a) → RReps K H0 F H (v :: vs) (r :: rs)
theorem RReps.ofD {vs : List V} : ∀ {ds : List D}, Reps K F vs ds → RReps K H0 F H vs (ds.map R.d) := by
  induction vs with
  | nil => intro ds r; cases r; exact .nil
  | cons v vs ih => intro ds r; cases r with | cons h r => exact .cons h (ih r) fun a z => z.elim
def rG (K : PySem.W.Frag) (sl : List Nat) (m : R → En → Option En) : TG := fun v σ H Q => ∃ F Γ r Γ' H0, At K F H σ Γ ∧ RRep K H0 F H v r ∧ (∀ a, r.fresh v a → ¬ Held σ Γ a) ∧ m r Γ = some Γ' ∧
  ∀ σ', At K F H σ' Γ' → SS H0 σ Γ σ' Γ' → (∀ a, Held σ' Γ' a → Held σ Γ a ∨ r.fresh v a) → (∀ j, j ∉ sl → σ'[j]? = σ[j]?) → Q σ' H
def rGs (K : PySem.W.Frag) (sl : List Nat) (m : List R → En → Option En) : TGs := fun vs σ H Q => ∃ F Γ rs Γ' H0, At K F H σ Γ ∧ RReps K H0 F H vs rs ∧ (∀ (j : Nat) (w : V) (s : R) (a : Addr), vs[j]? = some w → rs[j]? = some s → s.fresh w a → ¬ Held σ Γ a) ∧ m rs Γ = some Γ' ∧
  ∀ σ', At K F H σ' Γ' → SS H0 σ Γ σ' Γ' → (∀ a, Held σ' Γ' a → Held σ Γ a ∨ ∃ (j : Nat) (w : V) (s : R), vs[j]? = some w ∧ rs[j]? = some s ∧ s.fresh w a) → (∀ j, j ∉ sl → σ'[j]? = σ[j]?) → Q σ' H
theorem PG.weak {pe : Expr} {t t' : TG} (h : PG X pe t) (k : ∀ v σ H Q, t' v σ H Q → t v σ H Q) : PG X pe t' := ⟨fun pins s σ H v u Q I r q => h.run pins s σ H v u Q I r (k v σ H Q q)⟩
theorem PGs.weak {es : List Expr} {t t' : TGs} (h : PGs X es t) (k : ∀ v σ H Q, t' v σ H Q → t v σ H Q) : PGs X es t' := ⟨fun pins s σ H vs us Q I r q => h.run pins s σ H vs us Q I r (k vs σ H Q q)⟩
theorem g_var {x : Str} (hN : X.N.Nodup) (hi : X.N[i]? = some x) (hx : Loc X.env.scope x) (hf : X.fn x = true ∨ X.env.scope.names.lookup x = some .local) : PG X (.Name x pos) (rG X.K [i] (setV i)) :=
  PG.weak (pg_name hN hi hx hf) fun v σ H Q q => by
    obtain ⟨F, Γ, r, Γ', H0, A, rr, hf, e, k⟩ := q
    obtain ⟨A', s, h⟩ := A.store e rr hf
    exact k _ A' s h fun j hj => List.getElem?_set_ne fun z => hj (by simp [z])
theorem assign_len {env : PySem.Env} : ∀ {es : List Expr}, es.all notStar = true → (assignEach es env).length = es.length ∧ (assignEach es env).findIdx? (·.1) = none ∧ ∀ e, notStar e = true → (assignEach (e :: es) env).map (·.2) = assign e env :: (assignEach es env).map (·.2) := by
  intro es
  induction es with
  | nil => intro _; exact ⟨rfl, rfl, fun e h => by cases e <;> first | rfl | cases h⟩
  | cons e es ih =>
    intro h
    rw [List.all_cons, Bool.and_eq_true] at h
    obtain ⟨h1, h2, _⟩ := ih h.2
    have he : assignEach (e :: es) env = (false, assign e env) :: assignEach es env := by
      have := h.1
      cases e <;> first | rfl | cases this
    refine ⟨by rw [he, List.length_cons, h1, List.length_cons], ?_, fun e' h' => by cases e' <;> first | rfl | cases h'⟩
    rw [he, List.findIdx?_cons]
    simp [h2]
theorem g_nil : PGs X [] (rGs X.K [] fun rs Γ => match rs with
    | [] => some Γ
    | _ => none) := PGs.weak pgs_nil fun vs σ H Q q => by
  obtain ⟨F, Γ, rs, Γ', H0, A, rr, hf, e, k⟩ := q
  cases rr with
  | nil => cases e; exact ⟨rfl, k σ A (SS.refl ..) (fun a h => .inl h) fun j _ => rfl⟩
  | cons _ _ _ => cases e
theorem g_cons {pe : Expr} {es : List Expr} {sl1 sl2 : List Nat} {m : R → En → Option En} {ms : List R → En → Option En} (h1 : PG X pe (rG X.K sl1 m)) (h2 : PGs X es (rGs X.K sl2 ms)) (hn : notStar pe = true) (hs : es.all notStar = true) : PGs X (pe :: es) (rGs X.K (sl1 ++ sl2) fun rs Γ => match rs with
    | r :: rs => (m r Γ).bind (ms rs)
    | _ => none) := PGs.weak (pgs_cons h1 h2 ((assign_len hs).2.2 pe hn)) fun vs σ H Q q => by
  obtain ⟨F, Γ, rs, Γ', H0, A, rr, hf, e, k⟩ := q
  cases rr with
  | nil => cases e
  | @cons v vs r rs r1 r2 hd =>
    obtain ⟨Γ1, e1, e2⟩ := Option.bind_eq_some_iff.mp e
    refine ⟨v, vs, rfl, F, Γ, r, Γ1, H0, A, r1, fun a z => hf 0 v r a rfl rfl z, e1, fun σ1 A1 s1 h1 o1 => ?_⟩
    refine ⟨F, Γ1, rs, Γ', H0, A1, r2, fun j w s a z1 z2 z3 hh => ?_, e2, fun σ2 A2 s2 h2 o2 => k σ2 A2 (s1.trans s2 fun _ h => h) (fun a hh => ?_) fun j hj => (o2 j fun z => hj (List.mem_append_right _ z)).trans (o1 j fun z => hj (List.mem_append_left _ z))⟩
    · rcases h1 a hh with q | q
      · exact hf (j + 1) w s a z1 z2 z3 q
      · exact hd a q j w s z1 z2 z3
    · rcases h2 a hh with q | ⟨j, w, s, z1, z2, z3⟩
      · rcases h1 a q with q | q
        · exact .inl q
        · exact .inr ⟨0, v, r, rfl, rfl, q⟩
      · exact .inr ⟨j + 1, w, s, z1, z2, z3⟩
theorem g_tup {es : List Expr} {k0 : Nat} {sl : List Nat} {ms : List R → En → Option En} (hc : X.calm = true) (h : PGs X es (rGs X.K sl ms)) (hs : es.all notStar = true) (hl : ∀ rs Γ Γ', ms rs Γ = some Γ' → rs.length = es.length) : PG X (.Tuple es k0 pos) (rG X.K sl fun r Γ => match r with
    | .d (.tup ds) => ms (ds.map R.d) Γ
    | _ => none) := PG.weak (pg_tup hc h (n := es.length) (assign_len hs).1 (assign_len hs).2.1) fun v σ H Q q => by
  obtain ⟨F, Γ, r, Γ', H0, A, rr, hf, e, k⟩ := q
  dsimp only at e
  split at e
  · rename_i ds
    have rr : Rep X.K F v (.tup ds) := rr
    cases rr with
    | @tup a vs _ f1 r1 =>
      have len := hl _ _ _ e
      rw [List.length_map, ← r1.len] at len
      have nof : ∀ {j : Nat} {s : R} {w : V} {b : Addr}, (ds.map R.d)[j]? = some s → ¬ s.fresh w b := fun {j s w b} h => by
        rw [List.getElem?_map] at h
        obtain ⟨d, _, rfl⟩ := Option.map_eq_some_iff.mp h
        exact fun z => z
      exact ⟨a, vs, rfl, .inl (.inl (A.sub _ _ f1)), len, F, Γ, _, Γ', H0, A, RReps.ofD r1, fun j w s b z1 z2 z3 => absurd z3 (nof z2), e, fun σ' A' s' h' o' => k σ' A' s' (fun b hb => by
        rcases h' b hb with q | ⟨j, w, s, _, z2, z3⟩
        · exact .inl q
        · exact absurd z3 (nof z2)) o'⟩
  · cases e
end
end Rf

set_option Elab.async false
set_option linter.all false
set_option maxRecDepth 100000
set_option maxHeartbeats 1000000
namespace Rf
open PySem PySem.Spec PyProof.Rows L2
variable [Tb] [Wi]
def swF {β : Type} (sc : Scope) (ts vs : List Expr) (a : β) (b : List Str → β) (c : β) : β :=
  if (!(ts.length == 2 || ts.length == 3) || vs.length != ts.length) = true then a
  else if (vs.any fun | .Starred .. => true | _ => false) = true then a
  else if ((ts.filterMap fun
      | .Name id pos => if (sc.names.lookup id == some .local && pos.line == (ts.head?.map (·.pos.line)).getD 0) = true then some id else none
      | _ => none).length != ts.length || (ts.filterMap fun
      | .Name id pos => if (sc.names.lookup id == some .local && pos.line == (ts.head?.map (·.pos.line)).getD 0) = true then some id else none
      | _ => none).eraseDups.length != (ts.filterMap fun
      | .Name id pos => if (sc.names.lookup id == some .local && pos.line == (ts.head?.map (·.pos.line)).getD 0) = true then some id else none
      | _ => none).length) = true then a
    else if vs.all (foldedForSure 8) = true then a
    else if vs.all (constantsAlone 8) = true then c
    else b (ts.filterMap fun
      | .Name id pos => if (sc.names.lookup id == some .local && pos.line == (ts.head?.map (·.pos.line)).getD 0) = true then some id else none
      | _ => none)
/-- what the stores of (a, b, ..) = (x, y, ..) are: none: one by one off a tuple; some names: exchanged -/
def swS (sc : Scope) (ts vs : List Expr) : Option (Option (List Str)) := swF sc ts vs (some none) (fun l => some (some l)) none
theorem swF_ok {sc : Scope} {ts vs : List Expr} {β : Type} {a c : β} {b : List Str → β} {o : Option (List Str)} (h : swS sc ts vs = some o) : swF sc ts vs a b c = (match o with | none => a | some l => b l) := by
  unfold swS swF at h
  unfold swF
  split at h
  · rename_i k; cases h; rw [if_pos k]
  · rename_i k; rw [if_neg k]
    split at h
    · rename_i k; cases h; rw [if_pos k]
    · rename_i k; rw [if_neg k]
      split at h
      · rename_i k; cases h; rw [if_pos k]
      · rename_i k; rw [if_neg k]
        split at h
        · rename_i k; cases h; rw [if_pos k]
        · rename_i k; rw [if_neg k]
          split at h
          · cases h
          · rename_i k; cases h; rw [if_neg k]
theorem swS_ok {sc : Scope} {env : PySem.Env} (hs : env.scope = sc) (hk : sc.kind = .function) {ts vs : List Expr} {k k2 : Nat} {p p2 : Pos} {o : Option (List Str)} (h : swS sc ts vs = some o) :
    swappedStores [.Tuple ts k p] (.Tuple vs k2 p2) env = pure o := by
  have hb : env.blockKind = .function := by unfold Env.blockKind; rw [hs, hk]; rfl
  have e : swappedStores [.Tuple ts k p] (.Tuple vs k2 p2) env = swF sc ts vs (pure none) (fun l => pure (some l)) (do unsupported "assign.tuple-of-constant-expressions:order-of-the-stores"; pure (some (ts.filterMap fun
      | .Name id pos => if (sc.names.lookup id == some .local && pos.line == (ts.head?.map (·.pos.line)).getD 0) = true then some id else none
      | _ => none))) := by
    unfold swappedStores swF
    simp only [hb, Env.kindOf, hs, bne_self_eq_false, Bool.or_false]
    rfl
  rw [e, swF_ok h]
  cases o <;> rfl
section
variable {K : PySem.W.Frag} {mg : Str → Option Value} {cx : CtxR} {F H F' H' F1 H1 H0 : Hp} {σ σ' σ1 : L2.St} {Γ Γ' Γ1 : En} {v : V} {d : D} {ds : List D} {Q : VK} {X : Cx} {i j l : Nat} {pos p2 : Pos} {D0 : Ends} {pe tg pa pb pc : Expr}
def notTup : Expr → Bool
  | .Tuple _ _ _ => false
  | .List _ _ => false
  | _ => true
theorem sw_name {x : Str} {e : Expr} {env : PySem.Env} {p : Pos} : swappedStores [.Name x p] e env = pure none := by rfl
theorem sw_tup {ts : List Expr} {k : Nat} {p : Pos} {e : Expr} {env : PySem.Env} (h : notTup e = true) : swappedStores [.Tuple ts k p] e env = pure none := by
  cases e <;> first | rfl | cases h
theorem asg1 {tg : Expr} {env : PySem.Env} (h : notStar tg = true) : (assignEach [tg] env).map (·.2) = [assign tg env] := by
  cases tg <;> first | rfl | cases h
theorem fresh_free {r : R} (A : At K F H σ Γ) (g : ES Γ Γ1) (rr : RRep K H F1 H1 v r) : ∀ a, r.fresh v a → ¬ Held σ Γ1 a := by
  intro a hf ⟨i, s, m, e, c, z⟩
  cases r with
  | d d => exact hf
  | m m' =>
    obtain ⟨b, rfl, h0, _⟩ := rr
    cases (show V.ref b = V.ref a from hf)
    exact A.hold g h0 i s m e c z
/-- a store of one value -/
theorem i_asg {me : EM R} {xf : En → Option Xc} {sl : List Nat} {m : R → En → Option En} (he : PE X pe (rE X.K me)) (hx : PE X pe (rX X.K xf)) (hg : PG X tg (rG X.K sl m)) (hs : notComp pe = true) (hw : swappedStores [tg] pe X.env = pure none) (ht : notStar tg = true) : PS X (.Assign [tg] pe pos) (rS X.K fun Γ => match me Γ with
    | .no => xrf xf Γ
    | .ok r Γ1 => match m r Γ1 with
      | some Γ2 => .nx Γ2
      | none => .no) := PS.weak (ps_asg (PE.or he hx) hg (swap_plain hs) hw (asg1 ht)) fun D σ H q => by
  obtain ⟨F, Γ, A, q⟩ := q
  dsimp only at q
  cases e : me Γ with
  | no => rw [e] at q; exact .inr (FlQ.x A q).any
  | ok r Γ1 =>
    rw [e] at q
    dsimp only at q
    cases e2 : m r Γ1 with
    | none => rw [e2] at q; exact q.elim
    | some Γ2 =>
      rw [e2] at q
      exact .inl ⟨F, Γ, r, Γ1, A, e, fun v F1 H1 s1 A1 g1 r1 => ⟨F1, Γ1, r, Γ2, H, A1, r1, fresh_free A g1 r1, e2, fun σ' A' ss _ _ => q σ' F1 H1 s1 A' (g1.ss.trans ss fun _ h => h)⟩⟩

/-! ### several values to several names -/
def rRs (K : PySem.W.Frag) (m : EM (List R)) : TA := fun σ H Q => ∃ F Γ r Γ', At K F H σ Γ ∧ m Γ = .ok r Γ' ∧
  ∀ vs F' H', Step F H (Mu σ Γ) F' H' → At K F' H' σ Γ' → ES Γ Γ' → RReps K H F' H' vs r → Q vs H'
variable {es : List Expr} {mrs : EM (List R)}
theorem RRep.upS {r : R} {S : Addr → Prop} (rr : RRep K H0 F H v r) (s : Step F H S F' H') (hS : ∀ a, r.fresh v a → ¬ S a) : RRep K H0 F' H' v r := by
  cases r with
  | d d => exact Rep.up s.fs rr
  | m m =>
    obtain ⟨a, rfl, h0, hf, hm⟩ := rr
    obtain ⟨o, ho, nt⟩ := hm.noTC
    have hn := hS a rfl
    exact ⟨a, rfl, h0, by rw [s.fn a hn (by rw [ho]; simp)]; exact hf, hm.up s.fs (by rw [s.hs _ _ ho hn nt.1, ho])⟩
theorem RReps.at {vs : List V} {rs : List R} (h : RReps K H0 F H vs rs) : ∀ {j : Nat} {w : V} {s : R}, vs[j]? = some w → rs[j]? = some s → RRep K H0 F H w s := by
  induction h with
  | nil => intro j w s z; simp at z
  | cons h1 h2 h3 ih =>
    intro j w s z1 z2
    cases j with
    | zero => cases z1; cases z2; exact h1
    | succ j => exact ih z1 z2
theorem r_nil : PA X [] (rRs X.K (EM.ret [])) := PA.weak pa_nil fun σ H Q q => by
  obtain ⟨F, Γ, r, Γ', A, e, k⟩ := q
  obtain ⟨rfl, rfl⟩ := ret_ok e
  exact k [] F H (Step.refl ..) A (ES.refl _) .nil
theorem RReps.dom {vs : List V} {rs : List R} (h : RReps K H1 F H vs rs) (d : ∀ x, H1 x = none → H0 x = none) : RReps K H0 F H vs rs := by
  induction h with
  | nil => exact .nil
  | @cons v vs r rs h1 h2 h3 ih =>
    refine .cons ?_ ih h3
    cases r with
    | d d => exact h1
    | m m => obtain ⟨a, z, h0, h4⟩ := h1; exact ⟨a, z, d a h0, h4⟩
theorem r_cons {me : EM R} (ha : PE X pa (rE X.K me)) (hs : PA X es (rRs X.K mrs)) (hn : notStar pa = true) : PA X (pa :: es) (rRs X.K (me.bind fun x => mrs.bind fun xs => EM.ret (x :: xs))) :=
  PA.weak (pa_cons ha hs (star_cons hn)) fun σ H Q q => by
    obtain ⟨F, Γ, r, Γ', A, e, k⟩ := q
    obtain ⟨x, Γ1, e1, e⟩ := bind_ok e
    obtain ⟨xs, Γ2, e2, e⟩ := bind_ok e
    obtain ⟨rfl, rfl⟩ := ret_ok e
    refine ⟨F, Γ, x, Γ1, A, e1, fun v F1 H1 s1 A1 g1 r1 => ⟨F1, Γ1, xs, _, A1, e2, fun vs F2 H2 s2 A2 g2 r2 => ?_⟩⟩
    have nf := fresh_free A g1 r1
    refine k (v :: vs) F2 H2 (s1.trans s2 fun z q => .inl (g1.mu q)) A2 (g1.trans g2) (.cons (r1.upS s2 fun a hf hm => ?_) (r2.dom (dom_none s1)) fun a hf j w s z1 z2 z3 => ?_)
    · obtain ⟨i, s, m, e, c, z⟩ := hm
      exact nf a hf ⟨i, s, m, e, Sl.cont_of_mut c, z⟩
    · cases s with
      | d d => exact z3
      | m m =>
        obtain ⟨b, hb, h0, _⟩ := r2.at z1 z2
        have z3 : w = .ref a := z3
        rw [hb] at z3
        cases z3
        cases x with
        | d d => exact hf
        | m m' =>
          obtain ⟨c, hc, _, _, hm⟩ := r1
          have hf : v = .ref a := hf
          rw [hc] at hf; cases hf
          obtain ⟨o, ho, _⟩ := hm.ex
          rw [h0] at ho; cases ho
theorem RReps.upH {vs : List V} {rs : List R} (h : RReps K H0 F H vs rs) {p : Addr} {o : HO} (hp : H p = none) : RReps K H0 F (upd H p o) vs rs := by
  induction h with
  | nil => exact .nil
  | @cons v vs r rs h1 h2 h3 ih =>
    refine .cons ?_ ih h3
    cases r with
    | d d => exact h1
    | m m =>
      obtain ⟨a, z, h0, hf, hm⟩ := h1
      obtain ⟨o2, ho, _⟩ := hm.ex
      exact ⟨a, z, h0, hf, hm.up (Same.refl _) (upd_ne (ne_of_none ho hp))⟩
def mAsgs (ms : List R → En → Option En) (mrs : EM (List R)) : En → Fl := fun Γ => match mrs Γ with
    | .no => .no
    | .ok rs Γ1 => match ms rs Γ1 with
      | some Γ2 => .nx Γ2
      | none => .no
theorem mAsgs_q {ms : List R → En → Option En} {D : Ends} (A : At K F H σ Γ) (q : FlQ K F H σ Γ D (mAsgs ms mrs Γ)) : ∃ rs Γ1 Γ2, mrs Γ = .ok rs Γ1 ∧ ms rs Γ1 = some Γ2 ∧ FlQ K F H σ Γ D (.nx Γ2) := by
  unfold mAsgs at q
  cases e : mrs Γ with
  | no => rw [e] at q; exact q.elim
  | ok rs Γ1 =>
    rw [e] at q
    dsimp only at q
    cases e2 : ms rs Γ1 with
    | none => rw [e2] at q; exact q.elim
    | some Γ2 => rw [e2] at q; exact ⟨rs, Γ1, Γ2, rfl, e2, q⟩
theorem RReps.nf {vs : List V} {rs : List R} (A : At K F H σ Γ) (g : ES Γ Γ1) (h : RReps K H F1 H1 vs rs) : ∀ (j : Nat) (w : V) (s : R) (a : Addr), vs[j]? = some w → rs[j]? = some s → s.fresh w a → ¬ Held σ Γ1 a :=
  fun j w s a z1 z2 z3 => fresh_free A g (h.at z1 z2) a z3
theorem RReps.len {vs : List V} {rs : List R} (h : RReps K H0 F H vs rs) : vs.length = rs.length := by
  induction h with
  | nil => rfl
  | cons _ _ _ ih => rw [List.length_cons, List.length_cons, ih]
/-- off a tuple -/
theorem i_asgs {ts : List Expr} {sl : List Nat} {k1 k2 : Nat} {p1 p2 : Pos} {ms : List R → En → Option En} (hc : X.calm = true) (he : PA X es (rRs X.K mrs)) (hg : PGs X ts (rGs X.K sl ms)) (hw : swappedStores [.Tuple ts k1 p1] (.Tuple es k2 p2) X.env = pure none) (hs : ts.all notStar = true)
    (hl : ∀ rs Γ Γ', ms rs Γ = some Γ' → rs.length = ts.length) (h20 : ts.length ≤ 1000) : PS X (.Assign [.Tuple ts k1 p1] (.Tuple es k2 p2) pos) (rS X.K (mAsgs ms mrs)) :=
  PS.weak (ps_asg (pe_tup he) (pg_tup hc hg (n := ts.length) (assign_len hs).1 (assign_len hs).2.1) rfl hw rfl) fun D σ H q => by
    obtain ⟨F, Γ, A, q⟩ := q
    obtain ⟨rs, Γ1, Γ2, e1, e2, q⟩ := mAsgs_q A q
    refine ⟨F, Γ, rs, Γ1, A, e1, fun vs F1 H1 s1 A1 g1 r1 => ?_⟩
    have len := hl _ _ _ e2
    rw [← r1.len] at len
    refine ⟨by rw [len]; exact Nat.le_trans h20 (by rw [sizeLine_eq]; decide), fun p hp => ?_⟩
    refine ⟨p, vs, rfl, .inl (.inl upd_same), len, F1, Γ1, rs, Γ2, H, A1.newH hp _, r1.upH hp, r1.nf A g1, e2, fun σ' A' ss _ _ => q σ' F1 _ (s1.new (dom_none s1 p hp)) A' (g1.ss.trans ss fun _ h => h)⟩
theorem i_par {k1 k2 : Nat} {p1 p2 px py : Pos} {x y : Str} (hc : X.calm = true) (hN : X.N.Nodup) (hi : X.N[i]? = some x) (hj : X.N[j]? = some y) (hij : i ≠ j) (hx : X.env.scope.names.lookup x = some .local) (hy : X.env.scope.names.lookup y = some .local) (he : PA X [pa, pb] (rRs X.K mrs))
    (hw : swappedStores [.Tuple [.Name x px, .Name y py] k1 p1] (.Tuple [pa, pb] k2 p2) X.env = pure (some [x, y])) : PS X (.Assign [.Tuple [.Name x px, .Name y py] k1 p1] (.Tuple [pa, pb] k2 p2) pos) (rS X.K (mAsgs (asgTs [.var i, .var j]) mrs)) :=
  PS.weak (ps_par hc hN hi hj hij hx hy he hw) fun D σ H q => by
    obtain ⟨F, Γ, A, q⟩ := q
    obtain ⟨rs, Γ1, Γ2, e1, e2, q⟩ := mAsgs_q A q
    refine ⟨F, Γ, rs, Γ1, A, e1, fun vs F1 H1 s1 A1 g1 r1 => ?_⟩
    have nf := r1.nf A g1
    cases r1 with
    | nil => simp [asgTs] at e2
    | @cons v vs r rs h1 h2 h3 =>
      cases h2 with
      | nil => simp [asgTs, asgT] at e2
      | @cons w ws s ss k1 k2 k3 =>
        cases k2 with
        | cons _ _ _ => simp [asgTs, asgT, Option.bind_eq_some_iff] at e2
        | nil =>
          simp only [asgTs, asgT, Option.bind_eq_some_iff] at e2
          obtain ⟨G1, f1, G2, f2, f3⟩ := e2
          cases f3
          obtain ⟨B1, t1, u1⟩ := A1.store f1 h1 (nf 0 v r · rfl rfl)
          obtain ⟨B2, t2, u2⟩ := B1.store f2 k1 fun a hf hh => by
            rcases u1 a hh with z | z
            · exact nf 1 w s a rfl rfl hf z
            · exact h3 a z 0 w s rfl rfl hf
          exact ⟨v, w, rfl, q _ F1 H1 s1 B2 (g1.ss.trans (t1.trans t2 fun _ h => h) fun _ h => h)⟩
theorem i_par3 {k1 k2 : Nat} {p1 p2 px py pz : Pos} {x y z : Str} (hc : X.calm = true) (hN : X.N.Nodup) (hi : X.N[i]? = some x) (hj : X.N[j]? = some y) (hl : X.N[l]? = some z) (hij : i ≠ j) (hil : i ≠ l) (hjl : j ≠ l) (hx : X.env.scope.names.lookup x = some .local) (hy : X.env.scope.names.lookup y = some .local) (hz : X.env.scope.names.lookup z = some .local) (he : PA X [pa, pb, pc] (rRs X.K mrs))
    (hw : swappedStores [.Tuple [.Name x px, .Name y py, .Name z pz] k1 p1] (.Tuple [pa, pb, pc] k2 p2) X.env = pure (some [x, y, z])) : PS X (.Assign [.Tuple [.Name x px, .Name y py, .Name z pz] k1 p1] (.Tuple [pa, pb, pc] k2 p2) pos) (rS X.K (mAsgs (asgTs [.var i, .var j, .var l]) mrs)) :=
  PS.weak (ps_par3 hc hN hi hj hl hij hil hjl hx hy hz he hw) fun D σ H q => by
    obtain ⟨F, Γ, A, q⟩ := q
    obtain ⟨rs, Γ1, Γ2, e1, e2, q⟩ := mAsgs_q A q
    refine ⟨F, Γ, rs, Γ1, A, e1, fun vs F1 H1 s1 A1 g1 r1 => ?_⟩
    have nf := r1.nf A g1
    cases r1 with
    | nil => simp [asgTs] at e2
    | @cons v vs r rs h1 h2 h3 =>
      cases h2 with
      | nil => simp [asgTs, asgT] at e2
      | @cons w ws s ss k1 k2 k3 =>
        cases k2 with
        | nil => simp [asgTs, asgT, Option.bind_eq_some_iff] at e2
        | @cons w' ws' s' ss' l1 l2 l3 =>
          cases l2 with
          | cons _ _ _ => simp [asgTs, asgT, Option.bind_eq_some_iff] at e2
          | nil =>
            simp only [asgTs, asgT, Option.bind_eq_some_iff] at e2
            obtain ⟨G1, f1, G2, f2, G3, f3, f4⟩ := e2
            cases f4
            obtain ⟨B1, t1, u1⟩ := A1.store f1 h1 (nf 0 v r · rfl rfl)
            obtain ⟨B2, t2, u2⟩ := B1.store f2 k1 fun a hf hh => by
              rcases u1 a hh with z | z
              · exact nf 1 w s a rfl rfl hf z
              · exact h3 a z 0 w s rfl rfl hf
            obtain ⟨B3, t3, u3⟩ := B2.store f3 l1 fun a hf hh => by
              rcases u2 a hh with z | z
              · rcases u1 a z with z | z
                · exact nf 2 w' s' a rfl rfl hf z
                · exact h3 a z 1 w' s' rfl rfl hf
              · exact k3 a z 0 w' s' rfl rfl hf
            exact ⟨v, w, w', rfl, q _ F1 H1 s1 B3 (g1.ss.trans ((t1.trans t2 fun _ h => h).trans t3 fun _ h => h) fun _ h => h)⟩
end
end Rf

set_option Elab.async false
set_option linter.all false
set_option maxRecDepth 100000
set_option maxHeartbeats 1000000
namespace Rf
open PySem PySem.Spec PyProof.Rows L2
variable [Tb] [Wi]
section
variable {K : PySem.W.Frag} {mg : Str → Option Value} {cx : CtxR} {F H F' H' F1 H1 H0 : Hp} {σ σ' σ1 : L2.St} {Γ Γ' Γ1 : En} {v : V} {d : D} {ds : List D} {Q : VK} {X : Cx} {i j l : Nat} {pos p2 : Pos} {D0 : Ends} {pe tg pa pb pc : Expr} {ma mb : EM D}
theorem PS.or {st : Stmt} {t u : TS} (h : PS X st t) (k : PS X st u) : PS X st (fun D σ H => t D σ H ∨ u D σ H) :=
  ⟨fun pins s σ H D I q => q.elim (h.run pins s σ H D I) (k.run pins s σ H D I)⟩
/-- the object of a slot changes in place -/
theorem At.chg (A : At K F H σ Γ) {o o' : M} {ho : HO} (e : obV i Γ = some o) : ∃ a, σ[i]? = some (some (.ref a)) ∧ F a = none ∧ MRep K F H a o ∧
    ∀ ho, MRep K F (upd H a ho) a o' → At K F (upd H a ho) σ (Rf.stV i o' Γ) ∧ ES Γ (Rf.stV i o' Γ) ∧ Step F H (Mu σ Γ) F (upd H a ho) := by
  obtain ⟨a, e1, fa, r, mu, k⟩ := A.stV (o' := o') e
  refine ⟨a, e1, fa, r, fun ho hm => ?_⟩
  obtain ⟨A2, g2⟩ := k (upd H a ho) (fun b hb => upd_ne hb) (fun b o e => by rw [upd_ne (fun z => by subst z; rw [fa] at e; cases e)]; exact A.sub _ _ e) hm
  refine ⟨A2, g2, Same.refl _, fun b o e n _ => ?_, fun _ _ _ => rfl, fun b h => ?_⟩
  · rw [upd_ne (fun z => by subst z; exact n mu)]; exact e
  · by_cases hb : b = a
    · subst hb; rw [upd_same]; simp
    · rw [upd_ne hb]; exact h
theorem putA_ok {x : Key} {d : D} {v : V} (hr : Rep K F v d) : ∀ {ks : List Key} {vs : List V} {ds : List D}, ks.length = vs.length → Reps K F vs ds →
    ∃ ws, ((ks.zip vs).map fun kv => if kv.1 = x then (kv.1, v) else kv) = ks.zip ws ∧ ks.length = ws.length ∧ Reps K F ws (putA x d ks ds)
  | [], vs, ds, l, r => ⟨[], rfl, rfl, by cases vs <;> cases ds <;> first | exact .nil | (cases l; done) | (cases r; done)⟩
  | k :: ks, [], ds, l, r => by cases l
  | k :: ks, w :: vs, ds, l, r => by
    cases r with
    | @cons _ _ e ds h r =>
      obtain ⟨ws, h1, h2, h3⟩ := putA_ok hr (ks := ks) (vs := vs) (Nat.succ.inj l) r
      refine ⟨(if k = x then v else w) :: ws, ?_, congrArg (· + 1) h2, ?_⟩
      · rw [List.zip_cons_cons, List.map_cons, List.zip_cons_cons, h1]
        by_cases hk : k = x
        · simp [hk]
        · simp [hk]
      · show Reps K F _ ((if k = x then d else e) :: putA x d ks ds)
        by_cases hk : k = x
        · rw [if_pos hk, if_pos hk]; exact .cons hr h3
        · rw [if_neg hk, if_neg hk]; exact .cons h h3
theorem zip_any {x : Key} : ∀ {ks : List Key} {vs : List V}, ks.length = vs.length → ks.any (fun k => decide (k = x)) = true → ((ks.zip vs).any fun kv => decide (kv.1 = x)) = true
  | [], _, _, h => by simp at h
  | k :: ks, [], l, _ => by cases l
  | k :: ks, w :: vs, l, h => by
    rw [List.zip_cons_cons, List.any_cons]
    rw [List.any_cons, Bool.or_eq_true] at h
    rcases h with h | h
    · rw [h]; rfl
    · rw [zip_any (Nat.succ.inj l) h, Bool.or_true]
theorem obV_ref (A : At K F H σ Γ) {o : M} (e : obV i Γ = some o) : ∃ a, σ[i]? = some (some (.ref a)) := by
  obtain ⟨a, h, _⟩ := A.stV (o' := o) e
  exact ⟨a, h⟩
theorem sole_plain {t e : Expr} {l : Nat} {env : PySem.Env} (h : notComp e = true) : swapsWithSole [t] e l env = pure false := swap_plain h
theorem i_put (hu : X.A.units + 1 < cLine) (hi : PE X pa (tVar i)) (hv : PE X pb (rD X.K ma)) (hk : PE X pc (rD X.K mb)) (hs : notComp pb = true)
    (ha : ∀ v, assign (.Subscript pa pc p2) X.env v = (do
      let ov ← holding [v] (eval pa X.env)
      let iv ← holding [v, ov] (eval pc X.env)
      standAt p2
      holding [v, ov, iv] (setItem ov iv v)
      release [v, ov, iv] [])) : PS X (.Assign [.Subscript pa pc p2] pb pos) (rS X.K (mPut i ma mb)) :=
  PS.weak (PS.or (ps_asg hv (pg_sub hi hk set_list ha) (sole_plain hs) rfl rfl) (ps_dput hu hi hk hv (swap_plain hs))) fun D σ H q => by
    obtain ⟨F, Γ, A, q⟩ := q
    unfold mPut at q
    cases e0 : obV i Γ with
    | none => rw [e0] at q; exact q.elim
    | some o0 =>
      rw [e0] at q
      dsimp only at q
      cases e1 : ma Γ with
      | no => rw [e1] at q; exact q.elim
      | ok x Γ1 =>
        rw [e1] at q
        dsimp only at q
        cases e2 : mb Γ1 with
        | no => rw [e2] at q; exact q.elim
        | ok y Γ2 =>
          rw [e2] at q
          dsimp only at q
          cases e3 : obV i Γ2 with
          | none => rw [e3] at q; exact q.elim
          | some o =>
            rw [e3, Option.bind_some] at q
            cases e4 : putM o y x with
            | none => rw [e4] at q; exact q.elim
            | some o' =>
              rw [e4] at q
              dsimp only at q
              obtain ⟨a0, ha0⟩ := obV_ref A e0
              cases o with
              | ins C ns es => simp [putM] at e4
              | lst es =>
                left
                refine ⟨F, Γ, x, Γ1, A, e1, fun v F1 H1 s1 A1 g1 r1 => ⟨.ref a0, ha0, F1, Γ1, y, Γ2, A1, e2, fun w F2 H2 s2 A2 g2 r2 => ?_⟩⟩
                obtain ⟨a, h1, h2, h3, h4⟩ := A2.chg (o' := o') (ho := .lst []) e3
                rw [ha0] at h1; cases h1
                obtain ⟨vs, z1, z2⟩ := h3
                cases y with
                | int k =>
                  simp only [putM, Option.map_eq_some_iff] at e4
                  obtain ⟨n, hn, rfl⟩ := e4
                  cases r2
                  obtain ⟨B, g3, s3⟩ := h4 (.lst (vs.set n v)) ⟨_, upd_same, z2.set (r1.up s2.fs) n⟩
                  exact ⟨a0, vs, k, n, rfl, rfl, z1, by rw [z2.len]; exact hn, q σ F2 _ ((s1.trans s2 fun z q => .inl (g1.mu q)).trans s3 fun z q => .inl ((g1.trans g2).mu q)) B ((g1.trans g2).trans g3).ss⟩
                | _ => simp [putM] at e4
              | dct ks es =>
                right
                refine ⟨F, Γ, x, Γ1, A, e1, fun v F1 H1 s1 A1 g1 r1 => ⟨.ref a0, ha0, F1, Γ1, y, Γ2, A1, e2, fun w F2 H2 s2 A2 g2 r2 => ?_⟩⟩
                obtain ⟨a, h1, h2, h3, h4⟩ := A2.chg (o' := o') (ho := .lst []) e3
                rw [ha0] at h1; cases h1
                obtain ⟨vs, z1, z2, z3⟩ := h3
                cases y with
                | str k =>
                  simp only [putM] at e4
                  split at e4
                  · rename_i hc
                    rw [Bool.and_eq_true, decide_eq_true_eq] at hc
                    cases e4
                    cases r2
                    obtain ⟨ws, w1, w2, w3⟩ := putA_ok (x := Sum.inr k) (r1.up s2.fs) z2 z3
                    have hp : putK (ks.zip vs) (Sum.inr k) v = ks.zip ws := by
                      unfold putK
                      rw [if_pos (zip_any z2 hc.1)]
                      exact w1
                    obtain ⟨B, g3, s3⟩ := h4 (.dK (ks.zip ws)) ⟨ws, upd_same, w2, w3⟩
                    have dp := DPut.k (k := Sum.inr k) (v := v) z1 (by
                      rw [List.length_zip, ← z2, Nat.min_self]
                      exact Nat.lt_of_le_of_lt hc.2 (by rw [sizeLine_eq]; decide))
                    rw [hp] at dp
                    exact ⟨a0, _, rfl, dp, q σ F2 _ ((s1.trans s2 fun z q => .inl (g1.mu q)).trans s3 fun z q => .inl ((g1.trans g2).mu q)) B ((g1.trans g2).trans g3).ss⟩
                  · cases e4
                | _ => simp [putM] at e4
theorem putF_new {f : Str} {v : V} : ∀ {ns : List Str} {vs : List V}, ns.length = vs.length → ns.contains f = false → putF f v (ns.zip vs) = (ns ++ [f]).zip (vs ++ [v])
  | [], [], _, _ => rfl
  | [], _ :: _, l, _ => by cases l
  | _ :: _, [], l, _ => by cases l
  | n :: ns, w :: vs, l, h => by
    rw [List.contains_cons, Bool.or_eq_false_iff] at h
    rw [List.zip_cons_cons, List.cons_append, List.cons_append, List.zip_cons_cons, ← putF_new (Nat.succ.inj l) h.2]
    show (if n = f then _ else _) = _
    rw [if_neg (fun z => by rw [z] at h; simp at h)]
theorem i_fld {f : Str} (O : OwnOk X.K mg cx) (hi : PE X pa (tVar i)) (hv : PE X pb (rD X.K ma)) (hs : notComp pb = true) : PS X (.Assign [.Attribute pa f p2] pb pos) (rS X.K (mFld cx i f ma)) :=
  PS.weak (ps_fld hi hv (swap_plain hs)) fun D σ H q => by
    obtain ⟨F, Γ, A, q⟩ := q
    unfold mFld at q
    cases e1 : ma Γ with
    | no => rw [e1] at q; exact q.elim
    | ok x Γ1 =>
      rw [e1] at q
      dsimp only at q
      cases e3 : obV i Γ1 with
      | none => rw [e3] at q; exact q.elim
      | some o =>
        rw [e3, Option.bind_some] at q
        cases e4 : fldM cx o f x with
        | none => rw [e4] at q; exact q.elim
        | some o' =>
          rw [e4] at q
          dsimp only at q
          refine ⟨F, Γ, x, Γ1, A, e1, fun v F1 H1 s1 A1 g1 r1 => ?_⟩
          obtain ⟨a, h1, h2, h3, h4⟩ := A1.chg (o' := o') (ho := .lst []) e3
          cases o with
          | ins C ns es =>
            simp only [fldM] at e4
            split at e4
            · cases e4
            · rename_i hc
              cases e4
              rw [Bool.not_eq_true, Bool.or_eq_false_iff, Bool.or_eq_false_iff, decide_eq_false_iff_not, Bool.not_eq_false'] at hc
              obtain ⟨⟨hc1, hc2⟩, hc3⟩ := hc
              obtain ⟨dx, vs, z1, z2, z3⟩ := h3
              cases hl : cx.cls.lookup C with
              | none => rw [hl] at hc3; cases hc3
              | some fs =>
                rw [hl] at hc3
                have hmem := PySem.mem_of_lookup hl
                obtain ⟨B, g3, s3⟩ := h4 (.ins (He.ga X.K C) dx ((ns ++ [f]).zip (vs ++ [v]))) ⟨dx, vs ++ [v], upd_same, by simp [z2], z3.app (.cons r1 .nil)⟩
                refine ⟨.ref a, h1, a, _, dx, ns.zip vs, rfl, z1, O.cl C (List.mem_map.mpr ⟨_, hmem, rfl⟩), O.no (C, fs) hmem f (List.contains_iff_mem.mp hc3), ?_, ?_⟩
                · rw [List.length_zip, ← z2, Nat.min_self]; omega
                · rw [putF_new z2 hc1]
                  exact q σ F1 _ (s1.trans s3 fun z q => .inl (g1.mu q)) B (g1.trans g3).ss
          | _ => simp [fldM] at e4
end
end Rf

set_option Elab.async false
set_option linter.all false
set_option maxRecDepth 100000
set_option maxHeartbeats 1000000
namespace Rf
open PySem PySem.Spec PyProof.Rows L2
variable [Tb] [Wi]
section
variable {K : PySem.W.Frag} {mg : Str → Option Value} {cx : CtxR} {F H F' H' F1 H1 H0 F2 H2 : Hp} {σ σ' σ1 : L2.St} {Γ Γ' Γ1 : En} {v : V} {d : D} {ds : List D} {Q : VK} {X : Cx} {i j l : Nat} {pos p2 : Pos} {D0 : Ends} {pe tg pa pb pc : Expr} {ma mb : EM D} {es : List Expr}
/-! ### x += e -/
theorem i_aug {op : BOp} {x : Str} {px : Pos} (hop : PIp X op.py (ipI fun a b => if op = .add then a + b else a - b)) (h2 : op = .add ∨ op = .sub) (hN : X.N.Nodup) (hi : X.N[i]? = some x) (hx : Loc X.env.scope x) (he : PE X pe (rD X.K ma)) (hf : X.fn x = true ∨ X.env.scope.names.lookup x = some .local) :
    PS X (.AugAssign (.Name x px) op.py pe pos) (rS X.K fun Γ => match ((pkV i).bind fun x => ma.bind fun y => EM.opt (match x, y with | .int a, .int b => (binI op a b).map D.int | _, _ => none)) Γ with
    | .no => .no
    | .ok x Γ1 => match setV i (.d x) Γ1 with
      | some Γ2 => .nx Γ2
      | none => .no) := PS.weak (ps_aug hN hi hx he hop hf) fun D σ H q => by
  obtain ⟨F, Γ, A, q⟩ := q
  dsimp only at q
  split at q
  · exact q.elim
  · rename_i z Γ1 e
    obtain ⟨x0, Γ0, e0, e⟩ := bind_ok e
    obtain ⟨y, Γ2, e1, e⟩ := bind_ok e
    obtain ⟨e2, rfl⟩ := opt_ok e
    obtain ⟨rfl, w, hw, pr⟩ := A.pk e0
    cases x0 with
    | int a =>
      cases y with
      | int b =>
        cases pr.int
        obtain ⟨c, hc, rfl⟩ := Option.map_eq_some_iff.mp e2
        refine ⟨_, hw, F, _, _, _, A, e1, fun v F1 H1 s1 A1 g1 r1 => ?_⟩
        cases r1
        have hc' : c = if op = .add then a + b else a - b := by
          rcases h2 with rfl | rfl <;> (cases hc; rfl)
        cases e3 : setV i (.d (.int c)) Γ1 with
        | none => rw [e3] at q; exact q.elim
        | some Γ2 =>
          rw [e3] at q
          obtain ⟨B, ss, _⟩ := A1.store (H0 := H) (v := .int c) e3 (Rep.int c) fun a h => h.elim
          refine ⟨a, b, rfl, rfl, ?_⟩
          show D.nx (σ.set i (some (.int (if op = .add then a + b else a - b)))) H1
          rw [← hc']
          exact q _ F1 H1 s1 B (g1.ss.trans ss fun _ h => h)
      | _ => cases e2
    | _ => cases e2

/-! ### calls -/
def pad (n : Nat) (l : List (Option V)) : L2.St := l ++ List.replicate (n - l.length) none
def padE (n : Nat) (l : List Sl) : En := l.map some ++ List.replicate (n - l.length) none
def isArg : Sl → Bool
  | .fr _ => true
  | .bo _ => true
  | _ => false
/-- a def's promise: what it gives, or what it raises -/
def spF (K : PySem.W.Frag) (Φ : Phi) (f : Str) (n : Nat) : Sp := fun vs H Q E => ∃ F args, vs.length = args.length ∧ At K F H (pad n (vs.map some)) (padE n args) ∧ args.all isArg = true ∧
  ((∃ r Γ', Φ f args = some (r, Γ') ∧ ∀ v σ' F' H', Step F H (Mu (pad n (vs.map some)) (padE n args)) F' H' → At K F' H' σ' Γ' → SS H (pad n (vs.map some)) (padE n args) σ' Γ' → RRep K H F' H' v r → Q v H') ∨
   ∃ c, Φ.ex f args = some c ∧ ∀ cls d F' H', Step F H (Mu (pad n (vs.map some)) (padE n args)) F' H' → Same F' H' → TabF Tb.T F' H' → XRep K H F' H' cls d c → E cls d H')
/-- a def that keeps its promise wherever no repr runs around it -/
structure FnG (P : Program) (w : World) (K : PySem.W.Frag) (mg : Str → Option Value) (base : Heap) (k : Nat) (f : Addr) (fd : FuncData) (ps : List Str) (sp : Sp) : Prop where
  len : ∀ vs H Q E, sp vs H Q E → vs.length = ps.length
  run : ∀ (A : Around) (outer : List Env) (s : Shared) (H : Hp) (args : Args) (us : List Value) (vs : List V) (Q : VK) (E : XK), Room k A → A.guards = some [] → Env0 P w K mg base A outer s H →
    BindsTo s fd args (ps.zip us) → Vals vs us → sp vs H Q E → codeAny (model P w) A (.call (.ref f) args) (CR (L2N.CX P w) outer P w H s Q E) s
theorem FnG.up {P : Program} {w : World} {K : PySem.W.Frag} {mg : Str → Option Value} {base : Heap} {j k : Nat} {f : Addr} {fd : FuncData} {ps : List Str} {sp : Sp} (o : FnG P w K mg base j f fd ps sp) (hjk : j ≤ k) : FnG P w K mg base k f fd ps sp where
  len := o.len
  run := fun A outer s H args us vs Q E r => o.run A outer s H args us vs Q E (r.mono hjk)
def noE : XK := fun _ _ _ => False
theorem takesN {X : Cx} : L2N.Takes X fun _ _ _ _ => False := fun u t h => by
  obtain ⟨_, _, _, _, _, _, _, _, h⟩ := h
  exact (h.2.2.2.2.2.2.2.2 : False).elim
theorem passN {X : Cx} (σ : L2.St) : PassesAt (L2N.CX X.prog X.w) X σ noE := fun _ _ _ e t I c => takesN e t (L2N.XE.of_call I (fun _ _ _ z => z) c)
theorem passE {X : Cx} {E : XK} (tk : L2N.Takes X fun c d _ H => E c d H) (σ : L2.St) : PassesAt (L2N.CX X.prog X.w) X σ E := fun _ _ _ e t I c => tk e t (L2N.XE.of_call I (fun _ _ _ z => z) c)
section
variable {X : Cx} {k : Nat} {f C : Addr} {fd : FuncData} {ps : List Str} {sp : Sp} {E : XK} {x : Str} {p q : Pos} {a : Expr} {rest : List Expr} {ta : TA}
/-- what lies behind a call is what the caller wants -/
theorem run_fnG {pins : List (Addr × Obj)} {σ : L2.St} {H : Hp} {s : Shared} {Q : VK} {us : List Value} {vs : List V} (o : FnG X.prog X.w X.K X.mg X.base k f fd ps sp) (room : Room k X.A) (g : X.A.guards = some []) (b : Binds X.K fd ps [])
    (pass : PassesAt (L2N.CX X.prog X.w) X σ E) (I : Inv X pins σ H s) (r : Vals vs us) (h : sp vs H Q E) : wpAny (model X.prog X.w) X.A (call (.ref f) us) (EP X pins σ Q) X.xe s := by
  have hlen : (us ++ []).length = ps.length := by rw [List.append_nil, ← o.len vs H Q E h]; exact r.length.symm
  have hb := b s us I.kIn hlen
  rw [List.append_nil] at hb
  exact wpAny_call (codeAny_mono (o.run X.A X.stack s H _ us vs Q E room g I.env0 hb r h) fun res t ht => match res, ht with
    | .error e, ht => pass pins H s e t I ht
    | .ok (.ret _), ht => I.after ht
    | .ok .next, ht => (show False from ht).elim
    | .ok .brk, ht => (show False from ht).elim
    | .ok .cont, ht => (show False from ht).elim)
def tG (sp : Sp) (E : XK) (ta : TA) : TE := fun σ H Q => ta σ H fun vs H1 => sp vs H1 Q E
theorem pe_callG (o : FnG X.prog X.w X.K X.mg X.base k f fd ps sp) (room : Room k X.A) (g : X.A.guards = some []) (gl : Gl X x) (hm : X.mg x = some (.ref f)) (kp : PySem.W.keepIn X.K (.ref f) = true) (b : Binds X.K fd ps [])
    (pass : ∀ σ, PassesAt (L2N.CX X.prog X.w) X σ E) (ha : PA X (a :: rest) ta) (hd : (x == ("__debug__" : Str)) = false) (st : starEach (a :: rest) X.env = (false, eval a X.env) :: starEach rest X.env) (pl : (backTo q (starEach rest X.env)).any (·.1) = false) :
    PE X (.Call (.Name x p) (a :: rest) [] q) (tG sp E ta) :=
  ⟨fun pins s σ H Q I h => wpAny_Call_Name_kw (ld_glob I gl hm (PySem.W.callWith_K (h₀ := X.base) I.ok.mod.kin kp (thn (ha.run q pins s σ H _ I h) fun _ _ hh => by
    obtain ⟨_, _, J, r, z⟩ := hh
    exact ⟨J.kIn, run_fnG o room g b (pass σ) J r z⟩) st pl) hd)⟩
theorem pe_callG0 (o : FnG X.prog X.w X.K X.mg X.base k f fd ps sp) (room : Room k X.A) (g : X.A.guards = some []) (gl : Gl X x) (hm : X.mg x = some (.ref f)) (kp : PySem.W.keepIn X.K (.ref f) = true) (b : Binds X.K fd ps [])
    (pass : ∀ σ, PassesAt (L2N.CX X.prog X.w) X σ E) (hd : (x == ("__debug__" : Str)) = false) : PE X (.Call (.Name x p) [] [] q) (tG sp E tNil) :=
  ⟨fun pins s σ H Q I h => wpAny_Call_Name_kw (ld_glob I gl hm (PySem.W.callWith_K0 I.kIn kp (run_fnG (us := []) (vs := []) o room g b (pass σ) I .nil h)) hd)⟩
end
theorem pad_at {n : Nat} {l : List (Option V)} {v : V} (h : (pad n l)[i]? = some (some v)) : l[i]? = some (some v) := by
  unfold pad at h
  by_cases hi : i < l.length
  · rwa [List.getElem?_append_left hi] at h
  · rw [List.getElem?_append_right (by omega), List.getElem?_replicate] at h
    split at h <;> cases h
theorem padE_at {n : Nat} {l : List Sl} {s : Sl} (h : (padE n l)[i]? = some (some s)) : l[i]? = some s := by
  unfold padE at h
  by_cases hi : i < l.length
  · rw [List.getElem?_append_left (by rwa [List.length_map]), List.getElem?_map] at h
    obtain ⟨t, h1, h2⟩ := Option.map_eq_some_iff.mp h
    cases h2
    exact h1
  · rw [List.getElem?_append_right (by rw [List.length_map]; omega), List.getElem?_replicate] at h
    split at h <;> cases h
theorem pad_to {n : Nat} {l : List (Option V)} {v : Option V} (h : l[i]? = some v) : (pad n l)[i]? = some v := by
  unfold pad
  rw [List.getElem?_append_left (List.getElem?_eq_some_iff.mp h).1]
  exact h
theorem padE_to {n : Nat} {l : List Sl} {s : Sl} (h : l[i]? = some s) : (padE n l)[i]? = some (some s) := by
  unfold padE
  rw [List.getElem?_append_left (by rw [List.length_map]; exact (List.getElem?_eq_some_iff.mp h).1), List.getElem?_map, h]
  rfl
/-- the callee's slots: frozen ones alone -/
theorem at_args {n : Nat} {vs : List V} (ht : TabF Tb.T F H) (f0 : Same Tb.F0 F) (s : Same F H) (r : Reps K F vs ds) : At K F H (pad n (vs.map some)) (padE n (ds.map Sl.fr)) := by
  have fr : ∀ {i : Nat} {s : Sl}, (padE n (ds.map Sl.fr))[i]? = some (some s) → ∃ d, s = .fr d ∧ ds[i]? = some d := fun {i s} h => by
    have := padE_at h
    rw [List.getElem?_map] at this
    obtain ⟨d, h1, h2⟩ := Option.map_eq_some_iff.mp this
    exact ⟨d, h2.symm, h1⟩
  refine ⟨s, ?_, fun i d e => ?_, fun i t m e c => ?_, fun i j t u m m' a _ e c => ?_, ht, f0⟩
  · unfold pad padE
    simp [r.len]
  · obtain ⟨d', z, h⟩ := fr e
    cases z
    obtain ⟨v, h1, h2⟩ := r.get h
    exact ⟨v, pad_to (by rw [List.getElem?_map, h1]; rfl), h2⟩
  · obtain ⟨d', z, h⟩ := fr e
    cases z; cases c
  · obtain ⟨d', z, h⟩ := fr e
    cases z; cases c
/-- the callee's slots: the first one borrowed -/
theorem at_args1 {n : Nat} {vs : List V} {a : Addr} {m : M} (ht : TabF Tb.T F H) (f0 : Same Tb.F0 F) (s : Same F H) (fa : F a = none) (hm : MRep K F H a m) (r : Reps K F vs ds) : At K F H (pad n ((V.ref a :: vs).map some)) (padE n (.bo m :: ds.map Sl.fr)) := by
  have fr : ∀ {i : Nat} {s : Sl}, (padE n (.bo m :: ds.map Sl.fr))[i]? = some (some s) → (i = 0 ∧ s = .bo m) ∨ ∃ d j, i = j + 1 ∧ s = .fr d ∧ ds[j]? = some d := fun {i s} h => by
    have := padE_at h
    cases i with
    | zero => cases this; exact .inl ⟨rfl, rfl⟩
    | succ i =>
      rw [List.getElem?_cons_succ, List.getElem?_map] at this
      obtain ⟨d, h1, h2⟩ := Option.map_eq_some_iff.mp this
      exact .inr ⟨d, i, rfl, h2.symm, h1⟩
  refine ⟨s, ?_, fun i d e => ?_, fun i t m' e c => ?_, fun i j t u m1 m2 b hij e c e2 c2 => ?_, ht, f0⟩
  · unfold pad padE
    simp [r.len]
  · rcases fr e with ⟨_, z⟩ | ⟨d', j, rfl, z, h⟩
    · cases z
    · cases z
      obtain ⟨v, h1, h2⟩ := r.get h
      exact ⟨v, pad_to (by rw [List.map_cons, List.getElem?_cons_succ, List.getElem?_map, h1]; rfl), h2⟩
  · rcases fr e with ⟨rfl, z⟩ | ⟨d', j, rfl, z, h⟩
    · cases z
      cases c
      exact ⟨a, pad_to (by simp), fa, hm⟩
    · cases z; cases c
  · rcases fr e with ⟨rfl, z⟩ | ⟨d', k, rfl, z, h⟩
    · rcases fr e2 with ⟨rfl, z2⟩ | ⟨d', k, rfl, z2, h⟩
      · exact absurd rfl hij
      · cases z2; cases c2
    · cases z; cases c
theorem mu_args {n : Nat} {vs : List V} {a : Addr} : ¬ Mu (pad n (vs.map some)) (padE n (ds.map Sl.fr)) a := by
  rintro ⟨i, s, m, e, c, z⟩
  have := padE_at e
  rw [List.getElem?_map] at this
  obtain ⟨d, h1, h2⟩ := Option.map_eq_some_iff.mp this
  subst h2
  cases c
theorem mu_args1 {n : Nat} {vs : List V} {a b : Addr} {m : M} (h : Mu (pad n ((V.ref a :: vs).map some)) (padE n (.bo m :: ds.map Sl.fr)) b) : b = a := by
  obtain ⟨i, s, m', e, c, z⟩ := h
  have := padE_at e
  cases i with
  | zero => have := pad_at z; simp at this; exact this.symm
  | succ i =>
    rw [List.getElem?_cons_succ, List.getElem?_map] at this
    obtain ⟨d, h1, h2⟩ := Option.map_eq_some_iff.mp this
    subst h2
    cases c
theorem At.step {S : Addr → Prop} (A : At K F1 H1 σ Γ) (st : Step F1 H1 S F2 H2) (ht : TabF Tb.T F2 H2) (s : Same F2 H2) (hS : ∀ a, Held σ Γ a → ¬ S a) : At K F2 H2 σ Γ := by
  refine ⟨s, A.len, fun i d e => ?_, fun i t m e c => ?_, A.sep, ht, A.f0.trans st.fs⟩
  · obtain ⟨v, e1, r⟩ := A.fr i d e
    exact ⟨v, e1, r.up st.fs⟩
  · obtain ⟨a, e1, f, r⟩ := A.ob i t m e c
    obtain ⟨o, ho, nt⟩ := r.noTC
    have hn := hS a ⟨i, t, m, e, c, e1⟩
    exact ⟨a, e1, by rw [st.fn a hn (by rw [ho]; simp)]; exact f, r.up st.fs (by rw [st.hs _ _ ho hn nt.1, ho])⟩
variable {Φ : Phi} {f : Str} {n k : Nat} {fa : Addr} {fd : FuncData} {ps : List Str} {ms : EM (List D)}
theorem PA.or {X : Cx} {l : List Expr} {t u : TA} (h : PA X l t) (k : PA X l u) : PA X l (fun σ H Q => t σ H Q ∨ u σ H Q) :=
  ⟨fun pos pins s σ H Q I q => q.elim (h.run pos pins s σ H Q I) (k.run pos pins s σ H Q I)⟩
/-- the reading of arguments of which one raises -/
def rXA (K : PySem.W.Frag) (xf : En → Option Xc) : TA := fun σ H _ => rX K xf σ H fun _ _ => True
theorem rd_call (σ : L2.St) (H : Hp) (Q : VK) (q : rE X.K (ms.bind fun ds => EM.opt ((Φ f (ds.map Sl.fr)).map (·.1))) σ H Q) : tG (spF X.K Φ f n) noE (rA X.K ms) σ H Q := by
  obtain ⟨F, Γ, r, Γ', A, e, k⟩ := q
  obtain ⟨xs, Γ1, e1, e⟩ := bind_ok e
  obtain ⟨e2, rfl⟩ := opt_ok e
  obtain ⟨⟨r', Γo⟩, e3, rfl⟩ := Option.map_eq_some_iff.mp e2
  refine ⟨F, Γ, xs, _, A, e1, fun vs F1 H1 s1 A1 g1 r1 => ?_⟩
  refine ⟨F1, xs.map Sl.fr, by rw [List.length_map, r1.len], at_args A1.tab A1.f0 A1.sub r1, by simp [isArg], .inl ⟨r', Γo, e3, fun v σ' F2 H2 s2 A2 ss rr => ?_⟩⟩
  exact k v F2 H2 (s1.trans s2 fun z q => absurd q mu_args) (A1.step s2 A2.tab A2.sub fun a _ h => mu_args h) g1 (rup s1 rr)
/-- what a call raises -/
def xCall (Φ : Phi) (f : Str) (ms : EM (List D)) (xa : En → Option Xc) (pre : List Sl) : En → Option Xc := fun Γ => match ms Γ with
  | .ok ds _ => Φ.ex f (pre ++ ds.map Sl.fr)
  | .no => xa Γ
theorem rd_callX {xa : En → Option Xc} (σ : L2.St) (H : Hp) (Q : VK) (q : rX X.K (xCall Φ f ms xa []) σ H Q) : tG (spF X.K Φ f n) Wi.E (fun σ H Q => rA X.K ms σ H Q ∨ rXA X.K xa σ H Q) σ H Q := by
  obtain ⟨F, Γ, c, A, e, k⟩ := q
  unfold xCall at e
  split at e
  · rename_i ds Γ1 e1
    refine .inl ⟨F, Γ, ds, _, A, e1, fun vs F1 H1 s1 A1 g1 r1 => ?_⟩
    exact ⟨F1, ds.map Sl.fr, by rw [List.length_map, r1.len], at_args A1.tab A1.f0 A1.sub r1, by simp [isArg], .inr ⟨c, e, fun cls d F2 H2 s2 sm tb xr => k cls d F2 H2 (s1.trans s2 fun z q => absurd q mu_args) sm tb (xr.old (dom_none s1))⟩⟩
  · exact .inr ⟨F, Γ, c, A, e, k⟩
theorem s_call {x : Str} (F : FnG X.prog X.w X.K X.mg X.base k fa fd ps (spF X.K Φ f n)) (hr : Room k X.A) (gu : X.A.guards = some []) (hg : Gl X x) (hm : X.mg x = some (.ref fa)) (hk : PySem.W.keepIn X.K (.ref fa) = true) (hb : Binds X.K fd ps []) (ha : PA X (pa :: es) (rA X.K ms)) (hd : (x == ("__debug__" : Str)) = false)
    (hs : (pa :: es).all notStar = true) : PE X (.Call (.Name x p2) (pa :: es) [] pos) (rE X.K (ms.bind fun ds => EM.opt ((Φ f (ds.map Sl.fr)).map (·.1)))) := by
  rw [List.all_cons, Bool.and_eq_true] at hs
  exact PE.weak (pe_callG F hr gu hg hm hk hb passN ha hd (star_cons hs.1) (star_plain hs.2)) rd_call
theorem s_callX {x : Str} {xa : En → Option Xc} (tk : L2N.Takes X fun c d _ H => Wi.E c d H) (F : FnG X.prog X.w X.K X.mg X.base k fa fd ps (spF X.K Φ f n)) (hr : Room k X.A) (gu : X.A.guards = some []) (hg : Gl X x) (hm : X.mg x = some (.ref fa)) (hk : PySem.W.keepIn X.K (.ref fa) = true) (hb : Binds X.K fd ps []) (ha : PA X (pa :: es) (rA X.K ms)) (hxa : PA X (pa :: es) (rXA X.K xa)) (hd : (x == ("__debug__" : Str)) = false)
    (hs : (pa :: es).all notStar = true) : PE X (.Call (.Name x p2) (pa :: es) [] pos) (rX X.K (xCall Φ f ms xa [])) := by
  rw [List.all_cons, Bool.and_eq_true] at hs
  exact PE.weak (pe_callG F hr gu hg hm hk hb (passE tk) (PA.or ha hxa) hd (star_cons hs.1) (star_plain hs.2)) rd_callX
theorem s_call0 {x : Str} (F : FnG X.prog X.w X.K X.mg X.base k fa fd ps (spF X.K Φ f n)) (hr : Room k X.A) (gu : X.A.guards = some []) (hg : Gl X x) (hm : X.mg x = some (.ref fa)) (hk : PySem.W.keepIn X.K (.ref fa) = true) (hb : Binds X.K fd ps []) (hd : (x == ("__debug__" : Str)) = false) :
    PE X (.Call (.Name x p2) [] [] pos) (rE X.K (EM.opt ((Φ f []).map (·.1)))) :=
  PE.weak (pe_callG0 F hr gu hg hm hk hb passN hd) fun σ H Q q => by
    have q' : rE X.K ((EM.ret []).bind fun ds => EM.opt ((Φ f (ds.map Sl.fr)).map (·.1))) σ H Q := q
    obtain ⟨F, Γ, ds, Γ1, A, e1, k⟩ := rd_call (n := n) σ H Q q'
    obtain ⟨rfl, rfl⟩ := ret_ok e1
    exact k [] F H (Step.refl ..) A (ES.refl _) .nil
theorem s_call0X {x : Str} (tk : L2N.Takes X fun c d _ H => Wi.E c d H) (F : FnG X.prog X.w X.K X.mg X.base k fa fd ps (spF X.K Φ f n)) (hr : Room k X.A) (gu : X.A.guards = some []) (hg : Gl X x) (hm : X.mg x = some (.ref fa)) (hk : PySem.W.keepIn X.K (.ref fa) = true) (hb : Binds X.K fd ps []) (hd : (x == ("__debug__" : Str)) = false) :
    PE X (.Call (.Name x p2) [] [] pos) (rX X.K fun _ => Φ.ex f []) :=
  PE.weak (pe_callG0 F hr gu hg hm hk hb (passE tk) hd) fun σ H Q q => by
    obtain ⟨F, Γ, c, A, e, k⟩ := q
    exact ⟨F, [], rfl, at_args A.tab A.f0 A.sub .nil, rfl, .inr ⟨c, e, fun cls d F2 H2 s2 => k cls d F2 H2 ((Step.refl F H _).trans s2 fun z q => absurd q (mu_args (ds := [])))⟩⟩
theorem s_bor {x : Str} {alt : EM R} (F : FnG X.prog X.w X.K X.mg X.base k fa fd ps (spF X.K Φ f n)) (hr : Room k X.A) (gu : X.A.guards = some []) (hg : Gl X x) (hm : X.mg x = some (.ref fa)) (hk : PySem.W.keepIn X.K (.ref fa) = true) (hb : Binds X.K fd ps []) (hi : PE X pa (tVar i)) (ha : PA X es (rA X.K ms)) (hd : (x == ("__debug__" : Str)) = false)
    (hs : (pa :: es).all notStar = true) (halt : PE X (.Call (.Name x p2) (pa :: es) [] pos) (rE X.K alt)) : PE X (.Call (.Name x p2) (pa :: es) [] pos) (rE X.K (mBor Φ f i ms alt)) := by
  rw [List.all_cons, Bool.and_eq_true] at hs
  refine PE.weak (PE.or halt (pe_callG F hr gu hg hm hk hb passN (pa_cons hi ha (star_cons hs.1)) hd (star_cons hs.1) (star_plain hs.2))) fun σ H Q q => ?_
  obtain ⟨F, Γ, r, Γ', A, e, k⟩ := q
  unfold mBor at e
  split at e
  · rename_i ks0 es0 h0
    right
    split at e
    · rename_i ds Γ1 e1
      split at e
      · rename_i m h1
        split at e
        · rename_i r' m' rest e3
          cases e
          obtain ⟨a0, ha0⟩ := obV_ref A h0
          refine ⟨.ref a0, ha0, F, Γ, ds, Γ1, A, e1, fun vs F1 H1 s1 A1 g1 r1 => ?_⟩
          obtain ⟨a, z1, z2, z3, z4, z5⟩ := A1.stV (o' := m') h1
          rw [ha0] at z1; cases z1
          refine ⟨F1, .bo m :: ds.map Sl.fr, by simp [r1.len], at_args1 A1.tab A1.f0 A1.sub z2 z3 r1, by simp [isArg], .inl ⟨_, _, e3, fun v σ' F2 H2 s2 A2 ss rr => ?_⟩⟩
          -- the borrowed object, as the callee leaves it
          have hb0 := (ss.bo 0 m (padE_to (l := .bo m :: ds.map Sl.fr) (i := 0) rfl)).2
          rw [pad_to (l := (V.ref a0 :: vs).map some) (i := 0) (v := some (.ref a0)) rfl] at hb0
          obtain ⟨b, y1, y2, y3⟩ := A2.ob 0 (.bo m') m' rfl rfl
          rw [hb0] at y1; cases y1
          have A3 : At X.K F2 H2 σ (stV i m' Γ1) ∧ ES Γ1 (stV i m' Γ1) := by
            have hp : ∀ b, b ≠ a0 → ¬ Mu (pad n ((V.ref a0 :: vs).map some)) (padE n (.bo m :: ds.map Sl.fr)) b := fun b hb h => hb (mu_args1 h)
            obtain ⟨i', s', m1, w1, w2, w3⟩ := z4
            have key : ∀ t : Option Sl, (t = some (.mu m') ∨ t = some (.bo m')) → At X.K F2 H2 σ (Γ1.set i t) := fun t ht => by
              refine A1.set1 A2.tab s2.fs A2.sub (fun j s n' b hj ej cj ej2 => ?_) (fun d z => ?_) (fun s n' z c => ?_)
              · obtain ⟨b', x1, f', hm'⟩ := A1.ob j s n' ej cj
                rw [ej2] at x1; cases x1
                obtain ⟨o, ho, nt⟩ := hm'.noTC
                have hne : b ≠ a0 := fun z => by
                  subst z
                  unfold obV at h1
                  split at h1
                  · rename_i mm hh; cases h1; exact A1.sep i j _ s _ n' b (fun z => hj z.symm) hh rfl ej cj ha0 ej2
                  · rename_i mm hh; cases h1; exact A1.sep i j _ s _ n' b (fun z => hj z.symm) hh rfl ej cj ha0 ej2
                  · cases h1
                exact ⟨by rw [s2.fn b (hp b hne) (by rw [ho]; simp)]; exact f', by rw [s2.hs _ _ ho (hp b hne) nt.1, ho]⟩
              · rcases ht with rfl | rfl <;> cases z
              · have hn' : n' = m' := by rcases ht with rfl | rfl <;> (cases z; cases c; rfl)
                subst hn'
                refine ⟨a0, ha0, y2, y3, fun j s n' hj ej cj z => ?_⟩
                unfold obV at h1
                split at h1
                · rename_i mm hh; cases h1; exact A1.sep i j _ s _ n' a0 (fun z => hj z.symm) hh rfl ej cj ha0 z
                · rename_i mm hh; cases h1; exact A1.sep i j _ s _ n' a0 (fun z => hj z.symm) hh rfl ej cj ha0 z
                · cases h1
            unfold obV at h1
            unfold stV
            split at h1
            · rename_i mm hh; cases h1; rw [hh]; exact ⟨key _ (.inl rfl), ES.set1 fun s hs' => by rw [hh] at hs'; cases hs'; exact .inl ⟨_, rfl⟩⟩
            · rename_i mm hh; cases h1; rw [hh]; exact ⟨key _ (.inr rfl), ES.set1 fun s hs' => by rw [hh] at hs'; cases hs'; exact ⟨_, rfl⟩⟩
            · cases h1
          exact k v F2 H2 (s1.trans s2 fun z q => .inl (g1.mu (mu_args1 q ▸ z4))) A3.1 (g1.trans A3.2) (rup s1 rr)
        · cases e
      · cases e
    · cases e
  · left
    exact ⟨F, Γ, r, Γ', A, e, k⟩
/-! ### new instances -/
section
variable {C x : Str} {E : XK} {p q : Pos} {ta : TA}
theorem guards_make {A : Around} {args : Args} : (A.under (.builtin "type.__call__" args)).guards = A.guards := rfl
/-- C(e, ..) by a def that makes the instance ready -/
def tMk (C : Addr) (sp : Sp) (E : XK) (ta : TA) : TE := fun σ H Q => ta σ H fun vs H1 => ∀ a dx, H1 a = none → H1 dx = none → dx ≠ a →
  sp (.ref a :: vs) (upd (upd H1 dx (.own a)) a (.ins C dx [])) (fun v H2 => v = .non ∧ Q (.ref a) H2) E
theorem run_mkG {c : Addr} {sp : Sp} {pins : List (Addr × Obj)} {σ : L2.St} {H : Hp} {s : Shared} {Q : VK} {us : List Value} {vs : List V} (M : Mk X.K c fa) (o : FnG X.prog X.w X.K X.mg X.base k fa fd ps sp) (room : Room (k + 1) X.A) (g : X.A.guards = some []) (b : Binds X.K fd ps [])
    (pass : PassesAt (L2N.CX X.prog X.w) X σ E) (I : Inv X pins σ H s) (r : Vals vs us)
    (h : ∀ a dx, H a = none → H dx = none → dx ≠ a → sp (.ref a :: vs) (upd (upd H dx (.own a)) a (.ins c dx [])) (fun v H2 => v = .non ∧ Q (.ref a) H2) E) : wpAny (model X.prog X.w) X.A (call (.ref c) us) (EP X pins σ Q) X.xe s := by
  have z := h (s.heap.objs.size + 1) s.heap.objs.size (I.hok.fresh (Nat.le_succ _)) (I.hok.fresh (Nat.le_refl _)) (fun e : s.heap.objs.size = s.heap.objs.size + 1 => Nat.succ_ne_self _ e.symm)
  have J := Inv.made (C := c) I
  have rr : Vals (V.ref (s.heap.objs.size + 1) :: vs) (Value.ref (s.heap.objs.size + 1) :: us) := .cons rfl r
  have hlen : ((Value.ref (s.heap.objs.size + 1) :: us) ++ []).length = ps.length := by rw [List.append_nil, ← o.len _ _ _ _ z]; exact rr.length.symm
  have hb := b _ (Value.ref (s.heap.objs.size + 1) :: us) J.kIn hlen
  rw [List.append_nil] at hb
  refine wpAny_call (make_map (f := fa) I.kIn M.makes M.init (beq_iff_eq.mp M.fn) (codeAny_mono (o.run _ X.stack _ _ _ _ _ _ E (room.make c us []) (guards_make.trans g) (J.env0.make c us []) hb rr z) fun res t ht => match res, ht with
    | .error e, ht => pass pins _ _ e t J ht
    | .ok (.ret _), ht => by
      obtain ⟨v, H', I3, rv, ev, q3⟩ := J.after ht
      cases ev
      exact ⟨rv, V.ref _, H', I3, rfl, q3⟩
    | .ok .next, ht => (show False from ht).elim
    | .ok .brk, ht => (show False from ht).elim
    | .ok .cont, ht => (show False from ht).elim))
theorem pe_mkG {c : Addr} {sp : Sp} (M : Mk X.K c fa) (o : FnG X.prog X.w X.K X.mg X.base k fa fd ps sp) (room : Room (k + 1) X.A) (g : X.A.guards = some []) (gl : Gl X x) (hm : X.mg x = some (.ref c)) (b : Binds X.K fd ps []) (pass : ∀ σ, PassesAt (L2N.CX X.prog X.w) X σ E)
    (ha : PA X (pa :: es) ta) (hd : (x == ("__debug__" : Str)) = false) (st : starEach (pa :: es) X.env = (false, eval pa X.env) :: starEach es X.env) (pl : (backTo q (starEach es X.env)).any (·.1) = false) : PE X (.Call (.Name x p) (pa :: es) [] q) (tMk c sp E ta) :=
  ⟨fun pins s σ H Q I h => wpAny_Call_Name_kw (ld_glob I gl hm (PySem.W.callWith_K (h₀ := X.base) I.ok.mod.kin M.kp (thn (ha.run q pins s σ H _ I h) fun _ _ hh => by
    obtain ⟨_, _, J, r, z⟩ := hh
    exact ⟨J.kIn, run_mkG M o room g b (pass σ) J r z⟩) st pl) hd)⟩
end
theorem rd_make {C : Str} (σ : L2.St) (H : Hp) (Q : VK) (q : rE X.K (mMake Φ C f ms) σ H Q) : tMk (He.ga X.K C) (spF X.K Φ f n) noE (rA X.K ms) σ H Q := by
  obtain ⟨F, Γ, r, Γ', A, e, k⟩ := q
  obtain ⟨xs, Γ1, e1, e⟩ := bind_ok e
  obtain ⟨e2, rfl⟩ := opt_ok e
  split at e2
  · rename_i m rest e3
    cases e2
    refine ⟨F, Γ, xs, _, A, e1, fun vs F1 H1 s1 A1 g1 r1 x dx nx ndx nex => ?_⟩
    have hdx : (upd H1 dx (.own x)) x = none := by rw [upd_ne (fun z => nex z.symm)]; exact nx
    have sm : Same H1 (upd (upd H1 dx (.own x)) x (.ins (He.ga X.K C) dx [])) := (same_upd ndx).trans (same_upd hdx)
    have fx : F1 x = none := A1.sub.free nx
    have mr : MRep X.K F1 (upd (upd H1 dx (.own x)) x (.ins (He.ga X.K C) dx [])) x (.ins C [] []) := ⟨dx, [], upd_same, rfl, .nil⟩
    refine ⟨F1, .bo (.ins C [] []) :: xs.map Sl.fr, by simp [r1.len], at_args1 (tabs_new (tabs_new A1.tab ndx) hdx) A1.f0 (A1.sub.trans sm) fx mr r1, by simp [isArg], .inl ⟨_, _, e3, fun v σ' F2 H2 s2 A2 ss rr => ?_⟩⟩
    cases (show Rep X.K F2 v .non from rr)
    refine ⟨rfl, ?_⟩
    have hb0 := (ss.bo 0 _ (padE_to (l := .bo (.ins C [] []) :: xs.map Sl.fr) (i := 0) rfl)).2
    rw [pad_to (l := (V.ref x :: vs).map some) (i := 0) (v := some (.ref x)) rfl] at hb0
    obtain ⟨b, y1, y2, y3⟩ := A2.ob 0 (.bo m) m rfl rfl
    rw [hb0] at y1; cases y1
    have s1' : Step F H (Mu σ Γ) F1 (upd (upd H1 dx (.own x)) x (.ins (He.ga X.K C) dx [])) := (s1.new (dom_none s1 dx ndx)).new (dom_none s1 x nx)
    refine k _ F2 H2 (s1'.trans s2 fun z q => .inr (mu_args1 q ▸ dom_none s1 x nx)) ?_ g1 ⟨x, rfl, dom_none s1 x nx, y2, y3⟩
    refine ((A1.newH ndx (.own x)).newH hdx _).step s2 A2.tab A2.sub fun a ha hm => ?_
    have := mu_args1 hm
    subst this
    obtain ⟨i, s, m', z1, z2, z3⟩ := ha
    obtain ⟨a', q1, _, q3⟩ := A1.ob i s m' z1 z2
    rw [z3] at q1; cases q1
    obtain ⟨o, ho, _⟩ := q3.ex
    rw [nx] at ho; cases ho
  · cases e2
theorem rd_makeX {C : Str} {xa : En → Option Xc} (σ : L2.St) (H : Hp) (Q : VK) (q : rX X.K (xCall Φ f ms xa [.bo (.ins C [] [])]) σ H Q) : tMk (He.ga X.K C) (spF X.K Φ f n) Wi.E (fun σ H Q => rA X.K ms σ H Q ∨ rXA X.K xa σ H Q) σ H Q := by
  obtain ⟨F, Γ, c, A, e, k⟩ := q
  unfold xCall at e
  split at e
  · rename_i ds Γ1 e1
    refine .inl ⟨F, Γ, ds, _, A, e1, fun vs F1 H1 s1 A1 g1 r1 x dx nx ndx nex => ?_⟩
    have hdx : (upd H1 dx (.own x)) x = none := by rw [upd_ne (fun z => nex z.symm)]; exact nx
    have sm : Same H1 (upd (upd H1 dx (.own x)) x (.ins (He.ga X.K C) dx [])) := (same_upd ndx).trans (same_upd hdx)
    have fx : F1 x = none := A1.sub.free nx
    have mr : MRep X.K F1 (upd (upd H1 dx (.own x)) x (.ins (He.ga X.K C) dx [])) x (.ins C [] []) := ⟨dx, [], upd_same, rfl, .nil⟩
    have s1' : Step F H (Mu σ Γ) F1 (upd (upd H1 dx (.own x)) x (.ins (He.ga X.K C) dx [])) := (s1.new (dom_none s1 dx ndx)).new (dom_none s1 x nx)
    exact ⟨F1, .bo (.ins C [] []) :: ds.map Sl.fr, by simp [r1.len], at_args1 (tabs_new (tabs_new A1.tab ndx) hdx) A1.f0 (A1.sub.trans sm) fx mr r1, by simp [isArg], .inr ⟨c, e, fun cls d F2 H2 s2 sm tb xr =>
      k cls d F2 H2 (s1'.trans s2 fun z q => .inr (mu_args1 q ▸ dom_none s1 x nx)) sm tb (xr.old (dom_none s1'))⟩⟩
  · exact .inr ⟨F, Γ, c, A, e, k⟩
theorem s_make {C x : Str} (M : Mk X.K (He.ga X.K C) fa) (F : FnG X.prog X.w X.K X.mg X.base k fa fd ps (spF X.K Φ f n)) (hr : Room (k + 1) X.A) (gu : X.A.guards = some []) (hg : Gl X x) (hm : X.mg x = some (.ref (He.ga X.K C))) (hb : Binds X.K fd ps []) (ha : PA X (pa :: es) (rA X.K ms)) (hd : (x == ("__debug__" : Str)) = false)
    (hs : (pa :: es).all notStar = true) : PE X (.Call (.Name x p2) (pa :: es) [] pos) (rE X.K (mMake Φ C f ms)) := by
  rw [List.all_cons, Bool.and_eq_true] at hs
  exact PE.weak (pe_mkG M F hr gu hg hm hb passN ha hd (star_cons hs.1) (star_plain hs.2)) rd_make
theorem s_makeX {C x : Str} {xa : En → Option Xc} (tk : L2N.Takes X fun c d _ H => Wi.E c d H) (M : Mk X.K (He.ga X.K C) fa) (F : FnG X.prog X.w X.K X.mg X.base k fa fd ps (spF X.K Φ f n)) (hr : Room (k + 1) X.A) (gu : X.A.guards = some []) (hg : Gl X x) (hm : X.mg x = some (.ref (He.ga X.K C))) (hb : Binds X.K fd ps []) (ha : PA X (pa :: es) (rA X.K ms)) (hxa : PA X (pa :: es) (rXA X.K xa)) (hd : (x == ("__debug__" : Str)) = false)
    (hs : (pa :: es).all notStar = true) : PE X (.Call (.Name x p2) (pa :: es) [] pos) (rX X.K (xCall Φ f ms xa [.bo (.ins C [] [])])) := by
  rw [List.all_cons, Bool.and_eq_true] at hs
  exact PE.weak (pe_mkG M F hr gu hg hm hb (passE tk) (PA.or ha hxa) hd (star_cons hs.1) (star_plain hs.2)) rd_makeX
end
end Rf

set_option Elab.async false
set_option linter.all false
set_option maxRecDepth 100000
set_option maxHeartbeats 1000000
namespace Rf
open PySem PySem.Spec PyProof.Rows L2
variable [Tb] [Wi]
section
variable {K : PySem.W.Frag} {mg : Str → Option Value} {cx : CtxR} {F H F' H' F1 H1 H0 : Hp} {σ σ' σ1 : L2.St} {Γ Γ' Γ1 Γ2 : En} {v : V} {d : D} {ds xs : List D} {Q : VK} {X : Cx} {i j l : Nat} {pos p2 tpos : Pos} {D0 : Ends} {pe tg pa pb pc : Expr} {kk : Nat} {elts : List Expr}

/-! ### what is walked -/
structure ItOk (K : PySem.W.Frag) (S : Addr → Prop) (F1 H1 : Hp) (J : L2.It) (xs : List D) : Prop where
  go : ∀ F H, Step F1 H1 S F H → Same F H → ∀ i, i < xs.length → J.go i H
  yld : ∀ F H, Step F1 H1 S F H → Same F H → ∀ i x v H', xs[i]? = some x → J.yld i H v H' → (H' = H ∧ Rep K F v x) ∨ ∃ T o, H T = none ∧ (∀ ps, o ≠ .tbl ps) ∧ H' = upd H T o ∧ Rep K (upd F T o) v x
  stop : ∀ F H, Step F1 H1 S F H → Same F H → ∀ i, xs.length ≤ i → J.stop i H
def rI (K : PySem.W.Frag) (m : EM (Option Nat × List D)) : TI := fun σ H R => ∃ F Γ ls xs Γ', At K F H σ Γ ∧ m Γ = .ok (ls, xs) Γ' ∧
  ∀ J F1 H1, Step F H (Mu σ Γ) F1 H1 → At K F1 H1 σ Γ' → ES Γ Γ' → ItOk K (Mu σ (lockO ls Γ')) F1 H1 J xs → R J H1
theorem PI.or {w1 w2 : TI} (h1 : PI X tg pe w1) (h2 : PI X tg pe w2) : PI X tg pe (fun σ H R => w1 σ H R ∨ w2 σ H R) := ⟨fun pins s σ H R I q => q.elim (h1.run pins s σ H R I) (h2.run pins s σ H R I)⟩
theorem PI.weak {w1 w2 : TI} (h1 : PI X tg pe w1) (k : ∀ σ H R, w2 σ H R → w1 σ H R) : PI X tg pe w2 := ⟨fun pins s σ H R I q => h1.run pins s σ H R I (k σ H R q)⟩
theorem it_list {S : Addr → Prop} {a : Addr} {vs : List V} (hl : ∀ F H, Step F1 H1 S F H → Same F H → SqL K H a vs) (r : Reps K F1 vs xs) : ItOk K S F1 H1 (Itl K a) xs := by
  refine ⟨fun F H st s i hi => ?_, fun F H st s i x v H' hx y => ?_, fun F H st s i hi => ⟨vs, hl F H st s, by rw [r.len]; exact hi⟩⟩
  · obtain ⟨v, h1, h2⟩ := r.get (List.getElem?_eq_getElem hi)
    exact ⟨vs, v, hl F H st s, h1⟩
  · obtain ⟨v', h1, h2⟩ := r.get hx
    have := y.2 vs (hl F H st s)
    rw [h1] at this; cases this
    exact .inl ⟨y.1, h2.up st.fs⟩
theorem it_tup {S : Addr → Prop} {a : Addr} {vs : List V} (hl : ∀ F H, Step F1 H1 S F H → Same F H → SqT K H a vs) (r : Reps K F1 vs xs) : ItOk K S F1 H1 (Itt K a) xs := by
  refine ⟨fun F H st s i hi => ?_, fun F H st s i x v H' hx y => ?_, fun F H st s i hi => ⟨vs, hl F H st s, by rw [r.len]; exact hi⟩⟩
  · obtain ⟨v, h1, h2⟩ := r.get (List.getElem?_eq_getElem hi)
    exact ⟨vs, v, hl F H st s, h1⟩
  · obtain ⟨v', h1, h2⟩ := r.get hx
    have := y.2 vs (hl F H st s)
    rw [h1] at this; cases this
    exact .inl ⟨y.1, h2.up st.fs⟩
theorem it_rng {S : Addr → Prop} {lo : Int} {n : Nat} : ItOk K S F1 H1 (Itr lo n) ((List.range n).map fun k => D.int (lo + (k : Nat))) := by
  refine ⟨fun F H st s i hi => (show i < n by simpa using hi), fun F H st s i x v H' hx y => ?_, fun F H st s i hi => (show n ≤ i by simpa using hi)⟩
  obtain ⟨rfl, rfl⟩ := y
  rw [List.getElem?_map] at hx
  obtain ⟨k, h1, rfl⟩ := Option.map_eq_some_iff.mp hx
  have := List.getElem?_eq_some_iff.mp h1
  obtain ⟨h2, h3⟩ := this
  rw [List.getElem_range] at h3
  subst h3
  exact .inl ⟨rfl, .int _⟩
theorem Reps.intsF (F : Hp) : ∀ ns : List Int, Reps K F (ns.map V.int) (ns.map D.int)
  | [] => .nil
  | n :: ns => .cons (.int n) (Reps.intsF F ns)
/-- a value that a walk takes -/
theorem it_seq {S : Addr → Prop} (s1 : Same F1 H1) (r : Rep K F1 v d) (h : d.seq? = some xs) : ∃ a, v = .ref a ∧ ((∃ vs, SqL K H1 a vs ∧ ItOk K S F1 H1 (Itl K a) xs) ∨ ∃ vs, SqT K H1 a vs ∧ ItOk K S F1 H1 (Itt K a) xs) := by
  cases r with
  | tup h1 r1 => cases h; exact ⟨_, rfl, .inr ⟨_, SqT.of (s1 _ _ h1), it_tup (fun F H st s => SqT.of (s _ _ (st.fs _ _ h1))) r1⟩⟩
  | lst h1 r1 => cases h; exact ⟨_, rfl, .inl ⟨_, SqL.of (s1 _ _ h1), it_list (fun F H st s => SqL.of (s _ _ (st.fs _ _ h1))) r1⟩⟩
  | scr h1 => cases h; exact ⟨_, rfl, .inl ⟨_, s1.seq h1, it_list (fun F H st s => s.seq (st.fs.seq h1)) (Reps.intsF _ _)⟩⟩
  | non => cases h
  | bl => cases h
  | int => cases h
  | str => cases h
  | dct => cases h
  | ins => cases h
  | exc => cases h
  | fn => cases h
theorem pi_e {me : EM D} (h : PE X pe (rD X.K me)) : PI X tg pe (rI X.K (mIe me)) := PI.weak (PI.or (pi_list h) (pi_tup h)) fun σ H R q => by
  obtain ⟨F, Γ, ls, xs, Γ', A, e, k⟩ := q
  obtain ⟨x, Γ1, e1, e⟩ := bind_ok e
  obtain ⟨e2, rfl⟩ := opt_ok e
  obtain ⟨ys, e3, e4⟩ := Option.map_eq_some_iff.mp e2
  cases e4
  -- list or tuple, by the data
  by_cases ht : ∃ ds, x = .tup ds
  · obtain ⟨ds, rfl⟩ := ht
    cases e3
    right
    refine ⟨F, Γ, _, _, A, e1, fun v F1 H1 s1 A1 g1 r1 => ?_⟩
    obtain ⟨a, rfl, h⟩ := it_seq (S := Mu σ (lockO none Γ')) A1.sub r1 (by rfl : (D.tup _).seq? = some xs)
    rcases h with ⟨vs, h1, h2⟩ | ⟨vs, h1, h2⟩
    · cases r1 with
      | tup z1 z2 => exact ⟨_, rfl, ⟨_, SqT.of (A1.sub _ _ z1)⟩, k _ F1 H1 s1 A1 g1 (it_tup (fun F H st s => SqT.of (s _ _ (st.fs _ _ z1))) z2)⟩
    · exact ⟨a, rfl, ⟨vs, h1⟩, k _ F1 H1 s1 A1 g1 h2⟩
  · left
    refine ⟨F, Γ, _, _, A, e1, fun v F1 H1 s1 A1 g1 r1 => ?_⟩
    cases r1 with
    | tup z1 z2 => exact absurd ⟨_, rfl⟩ ht
    | lst z1 z2 => cases e3; exact ⟨_, rfl, ⟨_, SqL.of (A1.sub _ _ z1)⟩, k _ F1 H1 s1 A1 g1 (it_list (fun F H st s => SqL.of (s _ _ (st.fs _ _ z1))) z2)⟩
    | scr z1 => cases e3; exact ⟨_, rfl, ⟨_, A1.sub.seq z1⟩, k _ F1 H1 s1 A1 g1 (it_list (fun F H st s => s.seq (st.fs.seq z1)) (Reps.intsF _ _))⟩
    | non => cases e3
    | bl => cases e3
    | int => cases e3
    | str => cases e3
    | dct => cases e3
    | ins => cases e3
    | exc => cases e3
    | fn => cases e3
theorem itV_ok (e : itV i Γ = .ok d Γ') : Γ' = Γ ∧ (Γ[i]? = some (some (.fr d)) ∨ ∃ m, (Γ[i]? = some (some (.mu m)) ∨ Γ[i]? = some (some (.lk m))) ∧ d = m.d) := by
  unfold itV at e
  split at e
  · rename_i h; cases e; exact ⟨rfl, .inl h⟩
  · rename_i m h; cases e; exact ⟨rfl, .inr ⟨m, .inl h, rfl⟩⟩
  · rename_i m h; cases e; exact ⟨rfl, .inr ⟨m, .inr h, rfl⟩⟩
  · cases e
theorem lock_at : (lockO (some i) Γ)[j]? = (if j = i then (match Γ[i]? with | some (some (.mu m)) => some (some (.lk m)) | s => s) else Γ[j]?) := by
  show (lockE i Γ)[j]? = _
  unfold lockE
  split
  · rename_i m h
    by_cases hj : j = i
    · subst hj
      first | (rw [if_pos rfl, List.getElem?_set_self (List.getElem?_eq_some_iff.mp h).1, h]; done) | rw [if_pos rfl, List.getElem?_set_self (List.getElem?_eq_some_iff.mp h).1]
    · rw [if_neg hj, List.getElem?_set_ne (Ne.symm hj)]
  · rename_i h
    by_cases hj : j = i
    · subst hj
      first
        | (rw [if_pos rfl]; done)
        | (rw [if_pos rfl]
           split
           · rename_i m hm; exact absurd hm (h m)
           · rfl)
    · rw [if_neg hj]
/-- what is walked under a lock does not change -/
theorem lock_mu {a : Addr} {m : M} {s : Sl} (A : At K F H σ Γ) (h : Γ[i]? = some (some s)) (hc : s.cont = some m) (hb : ∀ m, s ≠ .bo m) (e : σ[i]? = some (some (.ref a))) : ¬ Mu σ (lockO (some i) Γ) a := by
  rintro ⟨j, t, n, h1, h2, h3⟩
  rw [lock_at] at h1
  by_cases hj : j = i
  · subst hj
    rw [if_pos rfl, h] at h1
    cases s with
    | fr d => cases hc
    | mu m => cases h1; cases h2
    | bo m => exact hb m rfl
    | lk m => cases h1; cases h2
  · rw [if_neg hj] at h1
    exact A.sep j i t s n m a hj h1 (Sl.cont_of_mut h2) h hc h3 e
theorem pi_v (h : PE X pe (tVar i)) : PI X tg pe (rI X.K (mIv i)) := PI.weak (PI.or (pi_list h) (pi_tup h)) fun σ H R q => by
  obtain ⟨F, Γ, ls, xs, Γ', A, e, k⟩ := q
  obtain ⟨x, Γ1, e1, e⟩ := bind_ok e
  obtain ⟨e2, rfl⟩ := opt_ok e
  obtain ⟨ys, e3, e4⟩ := Option.map_eq_some_iff.mp e2
  cases e4
  obtain ⟨rfl, hs⟩ := itV_ok e1
  rcases hs with hs | ⟨m, hs, rfl⟩
  · obtain ⟨v, z1, r1⟩ := A.fr i x hs
    cases r1 with
    | tup y1 y2 => cases e3; exact .inr ⟨_, z1, _, rfl, ⟨_, SqT.of (A.sub _ _ y1)⟩, k _ F H (Step.refl ..) A (ES.refl _) (it_tup (fun F H st s => SqT.of (s _ _ (st.fs _ _ y1))) y2)⟩
    | lst y1 y2 => cases e3; exact .inl ⟨_, z1, _, rfl, ⟨_, SqL.of (A.sub _ _ y1)⟩, k _ F H (Step.refl ..) A (ES.refl _) (it_list (fun F H st s => SqL.of (s _ _ (st.fs _ _ y1))) y2)⟩
    | scr y1 => cases e3; exact .inl ⟨_, z1, _, rfl, ⟨_, A.sub.seq y1⟩, k _ F H (Step.refl ..) A (ES.refl _) (it_list (fun F H st s => s.seq (st.fs.seq y1)) (Reps.intsF _ _))⟩
    | non => cases e3
    | bl => cases e3
    | int => cases e3
    | str => cases e3
    | dct => cases e3
    | ins => cases e3
    | exc => cases e3
    | fn => cases e3
  · cases m with
    | dct ks es => cases e3
    | ins C ns es => cases e3
    | lst es =>
      cases e3
      left
      have key : ∀ s : Sl, Γ'[i]? = some (some s) → s.cont = some (.lst xs) → (∀ m, s ≠ .bo m) → iList X.K (tVar i) σ H R := fun s hs hc hb => by
        obtain ⟨a, z1, z2, vs, z3, z4⟩ := A.ob i s _ hs hc
        have nm := lock_mu A hs hc hb z1
        exact ⟨_, z1, _, rfl, ⟨_, SqL.of z3⟩, k _ F H (Step.refl ..) A (ES.refl _) (it_list (fun F H st s => SqL.of (st.hs _ _ z3 nm fun _ z => (nomatch z))) z4)⟩
      rcases hs with hs | hs
      · exact key _ hs rfl (fun m z => nomatch z)
      · exact key _ hs rfl (fun m z => nomatch z)
theorem pi_r1 {me : EM D} (hg : Gl X "range") (hm : X.mg "range" = none) (ha : PA X [pa] (rA X.K (me.bind fun x => EM.ret [x]))) (hn : notStar pa = true) : PI X tg (.Call (.Name "range" p2) [pa] [] pos) (rI X.K (mR1 me)) := PI.weak (pi_range1 hg hm ha (star_cons hn)) fun σ H R q => by
  obtain ⟨F, Γ, ls, xs, Γ', A, e, k⟩ := q
  obtain ⟨x, Γ1, e1, e⟩ := bind_ok e
  obtain ⟨e2, rfl⟩ := opt_ok e
  obtain ⟨ys, e3, e4⟩ := Option.map_eq_some_iff.mp e2
  cases e4
  refine ⟨F, Γ, [x], _, A, by unfold EM.bind; rw [e1]; rfl, fun vs F1 H1 s1 A1 g1 r1 => ?_⟩
  cases r1 with
  | cons r rr =>
    cases rr
    cases x with
    | int n =>
      cases r
      unfold r1D at e3
      dsimp only at e3
      split at e3
      · rename_i hh
        cases e3
        simp only [Bool.and_eq_true, decide_eq_true_eq] at hh
        refine ⟨n, rfl, by omega, by omega, k _ F1 H1 s1 A1 g1 ?_⟩
        have := it_rng (K := X.K) (S := Mu σ (lockO none Γ')) (F1 := F1) (H1 := H1) (lo := 0) (n := n.toNat)
        simpa using this
      · cases e3
    | _ => cases e3
theorem r2D_ok {x y : D} (e : r2D x y = some xs) : ∃ n n2, x = .int n ∧ y = .int n2 ∧ (-(2 ^ 62) ≤ n ∧ n < 2 ^ 62 ∧ -(2 ^ 62) ≤ n2 ∧ n2 < 2 ^ 62) ∧ xs = (List.range (n2 - n).toNat).map fun k => D.int (n + (k : Nat)) := by
  unfold r2D at e
  split at e
  · split at e
    · rename_i n n2 hh
      cases e
      simp only [Bool.and_eq_true, decide_eq_true_eq] at hh
      exact ⟨n, n2, rfl, rfl, ⟨by omega, by omega, by omega, by omega⟩, rfl⟩
    · cases e
  · cases e
theorem pi_r2 {ma mb : EM D} (hg : Gl X "range") (hm : X.mg "range" = none) (ha : PA X [pa, pb] (rA X.K (ma.bind fun x => mb.bind fun y => EM.ret [x, y]))) (hn : notStar pa = true) (hn2 : notStar pb = true) : PI X tg (.Call (.Name "range" p2) [pa, pb] [] pos) (rI X.K (mR2 ma mb)) := PI.weak (pi_range2 hg hm ha (by rw [star_cons hn, star_cons hn2]; rfl) (star_cons hn2)) fun σ H R q => by
  obtain ⟨F, Γ, ls, xs, Γ', A, e, k⟩ := q
  obtain ⟨x, Γ1, e1, e⟩ := bind_ok e
  obtain ⟨y, Γ2, e1', e⟩ := bind_ok e
  obtain ⟨e2, rfl⟩ := opt_ok e
  obtain ⟨ys, e3, e4⟩ := Option.map_eq_some_iff.mp e2
  cases e4
  refine ⟨F, Γ, [x, y], _, A, by unfold EM.bind; rw [e1]; dsimp only; rw [e1']; rfl, fun vs F1 H1 s1 A1 g1 r1 => ?_⟩
  cases r1 with
  | cons r rr =>
    cases rr with
    | cons r' rr =>
      cases rr
      obtain ⟨n, n2, rfl, rfl, ⟨h1, h2, h3, h4⟩, rfl⟩ := r2D_ok e3
      cases r; cases r'
      exact ⟨n, n2, rfl, ⟨h1, h2, h3, h4⟩, k _ F1 H1 s1 A1 g1 it_rng⟩
theorem upd_rep {T : Addr} {vs : List V} (s : Same F H) (hT : H T = none) (r : Reps K F vs ds) : Rep K (upd F T (.tup vs)) (.ref T) (.tup ds) := .tup upd_same (r.up (same_upd (s.free hT)))
theorem it_enum {S : Addr → Prop} {a : Addr} {vs : List V} (h1 : F1 a = some (.lst vs)) (r : Reps K F1 vs ds) : ItOk K S F1 H1 (Ite K a) (ds.zipIdx.map fun p => D.tup [.int (p.2 : Nat), p.1]) := by
  have hl : ∀ F H, Step F1 H1 S F H → Same F H → SqL K H a vs := fun F H st s => SqL.of (s _ _ (st.fs _ _ h1))
  refine ⟨fun F H st s i hi => ?_, fun F H st s i x v H' hx y => ?_, fun F H st s i hi => ⟨vs, hl F H st s, by rw [r.len]; simpa using hi⟩⟩
  · obtain ⟨v, h1, h2⟩ := r.get (i := i) (List.getElem?_eq_getElem (by simpa using hi))
    exact ⟨vs, v, hl F H st s, h1⟩
  · obtain ⟨T, u, rfl, hT, rfl, y⟩ := y
    rw [List.getElem?_map] at hx
    obtain ⟨p, h2, rfl⟩ := Option.map_eq_some_iff.mp hx
    rw [List.getElem?_zipIdx] at h2
    obtain ⟨dd, h3, rfl⟩ := Option.map_eq_some_iff.mp h2
    obtain ⟨v', h4, h5⟩ := r.get h3
    have := y vs (hl F H st s)
    rw [h4] at this; cases this
    refine .inr ⟨T, HO.tup _, hT, (fun _ z => (nomatch z)), rfl, upd_rep s hT (.cons ?_ (.cons (h5.up st.fs) .nil))⟩
    simp only [Nat.zero_add]
    exact .int _
theorem pi_en {ma : EM D} (hg : Gl X "enumerate") (hm : X.mg "enumerate" = none) (ha : PA X [pa] (rA X.K (ma.bind fun x => EM.ret [x]))) (hn : notStar pa = true) : PI X (.Tuple elts kk tpos) (.Call (.Name "enumerate" p2) [pa] [] pos) (rI X.K (mEnum ma)) := PI.weak (pi_enum hg hm ha (star_cons hn)) fun σ H R q => by
  obtain ⟨F, Γ, ls, xs, Γ', A, e, k⟩ := q
  obtain ⟨x, Γ1, e1, e⟩ := bind_ok e
  obtain ⟨e2, rfl⟩ := opt_ok e
  obtain ⟨ys, e3, e4⟩ := Option.map_eq_some_iff.mp e2
  cases e4
  refine ⟨F, Γ, [x], _, A, by unfold EM.bind; rw [e1]; rfl, fun vs F1 H1 s1 A1 g1 r1 => ?_⟩
  cases r1 with
  | cons r rr =>
    cases rr
    cases x with
    | lst es =>
      cases e3
      cases r with
      | lst z1 z2 => exact ⟨_, _, rfl, SqL.of (A1.sub _ _ z1), k _ F1 H1 s1 A1 g1 (it_enum z1 z2)⟩
    | _ => cases e3
theorem it_zip {S : Addr → Prop} {a b : Addr} {vs ws : List V} {es : List D} (h1 : F1 a = some (.lst vs)) (r : Reps K F1 vs ds) (h2 : F1 b = some (.lst ws)) (r2 : Reps K F1 ws es) : ItOk K S F1 H1 (Itz K a b) ((ds.zip es).map fun p => D.tup [p.1, p.2]) := by
  have hl : ∀ F H, Step F1 H1 S F H → Same F H → SqL K H a vs := fun F H st s => SqL.of (s _ _ (st.fs _ _ h1))
  have hl2 : ∀ F H, Step F1 H1 S F H → Same F H → SqL K H b ws := fun F H st s => SqL.of (s _ _ (st.fs _ _ h2))
  refine ⟨fun F H st s i hi => ?_, fun F H st s i x v H' hx y => ?_, fun F H st s i hi => ⟨vs, ws, hl F H st s, hl2 F H st s, by rw [r.len, r2.len]; simp at hi; omega⟩⟩
  · simp only [List.length_map, List.length_zip] at hi
    obtain ⟨v, z1, z2⟩ := r.get (i := i) (List.getElem?_eq_getElem (by omega))
    obtain ⟨w, z3, z4⟩ := r2.get (i := i) (List.getElem?_eq_getElem (by omega))
    exact ⟨vs, ws, v, w, hl F H st s, hl2 F H st s, z1, z3⟩
  · obtain ⟨T, u, w, rfl, hT, rfl, y, y2⟩ := y
    rw [List.getElem?_map] at hx
    obtain ⟨⟨p, q⟩, h2, rfl⟩ := Option.map_eq_some_iff.mp hx
    rw [List.getElem?_zip_eq_some] at h2
    obtain ⟨v', h4, h5⟩ := r.get h2.1
    obtain ⟨w', h6, h7⟩ := r2.get h2.2
    have := y vs (hl F H st s)
    rw [h4] at this; cases this
    have := y2 ws (hl2 F H st s)
    rw [h6] at this; cases this
    exact .inr ⟨T, HO.tup _, hT, (fun _ z => (nomatch z)), rfl, upd_rep s hT (.cons (h5.up st.fs) (.cons (h7.up st.fs) .nil))⟩
theorem it_zipT {S : Addr → Prop} {a b : Addr} {vs ws : List V} {es : List D} (h1 : F1 a = some (.tup vs)) (r : Reps K F1 vs ds) (h2 : F1 b = some (.tup ws)) (r2 : Reps K F1 ws es) : ItOk K S F1 H1 (RZ.ItzT K a b) ((ds.zip es).map fun p => D.tup [p.1, p.2]) := by
  have hl : ∀ F H, Step F1 H1 S F H → Same F H → SqT K H a vs := fun F H st s => SqT.of (s _ _ (st.fs _ _ h1))
  have hl2 : ∀ F H, Step F1 H1 S F H → Same F H → SqT K H b ws := fun F H st s => SqT.of (s _ _ (st.fs _ _ h2))
  refine ⟨fun F H st s i hi => ?_, fun F H st s i x v H' hx y => ?_, fun F H st s i hi => ⟨vs, ws, hl F H st s, hl2 F H st s, by rw [r.len, r2.len]; simp at hi; omega⟩⟩
  · simp only [List.length_map, List.length_zip] at hi
    obtain ⟨v, z1, z2⟩ := r.get (i := i) (List.getElem?_eq_getElem (by omega))
    obtain ⟨w, z3, z4⟩ := r2.get (i := i) (List.getElem?_eq_getElem (by omega))
    exact ⟨vs, ws, v, w, hl F H st s, hl2 F H st s, z1, z3⟩
  · obtain ⟨T, u, w, rfl, hT, rfl, y, y2⟩ := y
    rw [List.getElem?_map] at hx
    obtain ⟨⟨p, q⟩, h2, rfl⟩ := Option.map_eq_some_iff.mp hx
    rw [List.getElem?_zip_eq_some] at h2
    obtain ⟨v', h4, h5⟩ := r.get h2.1
    obtain ⟨w', h6, h7⟩ := r2.get h2.2
    have := y vs (hl F H st s)
    rw [h4] at this; cases this
    have := y2 ws (hl2 F H st s)
    rw [h6] at this; cases this
    exact .inr ⟨T, HO.tup _, hT, (fun _ z => (nomatch z)), rfl, upd_rep s hT (.cons (h5.up st.fs) (.cons (h7.up st.fs) .nil))⟩
theorem pi_zp {ma mb : EM D} (hg : Gl X "zip") (hm : X.mg "zip" = none) (ha : PA X [pa, pb] (rA X.K (ma.bind fun x => mb.bind fun y => EM.ret [x, y]))) (hn : notStar pa = true) (hn2 : notStar pb = true) : PI X (.Tuple elts kk tpos) (.Call (.Name "zip" p2) [pa, pb] [] pos) (rI X.K (mZip0 ma mb)) := PI.weak (RZ.pi_zipA hg hm ha (star_cons hn) (star_plain (by simp [hn2]))) fun σ H R q => by
  obtain ⟨F, Γ, ls, xs, Γ', A, e, k⟩ := q
  obtain ⟨x, Γ1, e1, e⟩ := bind_ok e
  obtain ⟨y, Γ2, e1', e⟩ := bind_ok e
  obtain ⟨e2, rfl⟩ := opt_ok e
  obtain ⟨ys, e3, e4⟩ := Option.map_eq_some_iff.mp e2
  cases e4
  refine ⟨F, Γ, [x, y], _, A, by unfold EM.bind; rw [e1]; dsimp only; rw [e1']; rfl, fun vs F1 H1 s1 A1 g1 r1 => ?_⟩
  cases r1 with
  | cons r rr =>
    cases rr with
    | cons r' rr =>
      cases rr
      unfold zipD at e3
      split at e3
      · cases e3
        cases r with
        | lst z1 z2 => cases r' with
          | lst z3 z4 => exact ⟨_, _, _, _, rfl, .inl ⟨SqL.of (A1.sub _ _ z1), SqL.of (A1.sub _ _ z3), k _ F1 H1 s1 A1 g1 (it_zip z1 z2 z3 z4)⟩⟩
      · cases e3
        cases r with
        | tup z1 z2 => cases r' with
          | tup z3 z4 => exact ⟨_, _, _, _, rfl, .inr ⟨SqT.of (A1.sub _ _ z1), SqT.of (A1.sub _ _ z3), k _ F1 H1 s1 A1 g1 (it_zipT z1 z2 z3 z4)⟩⟩
      · cases e3
end
end Rf

set_option Elab.async false
set_option linter.all false
set_option maxRecDepth 100000
set_option maxHeartbeats 1000000
namespace Rf
open PySem PySem.Spec PyProof.Rows L2
variable [Tb] [Wi]
section
variable {K : PySem.W.Frag} {mg : Str → Option Value} {cx : CtxR} {F H F' H' F1 H1 H0 : Hp} {σ σ' σ1 : L2.St} {Γ Γ' Γ1 Γ2 : En} {v : V} {d : D} {ds xs : List D} {Q : VK} {X : Cx} {i j l : Nat} {pos p2 tpos : Pos} {D0 : Ends} {pe tg pa pb pc iter : Expr} {body : List Stmt} {kk : Nat} {elts : List Expr} {ls : Option Nat} {sl : List Nat} {t : T}

theorem At.kin (A : At K F H σ Γ) (hl : Γ'.length = Γ.length) (h : ∀ (j : Nat) (s' : Sl), Γ'[j]? = some (some s') → ∃ s, Γ[j]? = some (some s) ∧ (s' = s ∨ (s.cont = s'.cont ∧ ∀ d, s' ≠ .fr d))) : At K F H σ Γ' := by
  have hc : ∀ (j : Nat) (s' : Sl) (m : M), Γ'[j]? = some (some s') → s'.cont = some m → ∃ s, Γ[j]? = some (some s) ∧ s.cont = some m := fun j s' m e c => by
    obtain ⟨s, h1, h2⟩ := h j s' e
    rcases h2 with rfl | ⟨h2, _⟩
    · exact ⟨_, h1, c⟩
    · exact ⟨s, h1, h2.trans c⟩
  refine ⟨A.sub, hl.trans A.len, fun j d e => ?_, fun j s' m e c => ?_, fun j k s t m n a hjk e1 c1 e2 c2 z1 z2 => ?_, A.tab, A.f0⟩
  · obtain ⟨s, h1, h2⟩ := h j _ e
    rcases h2 with rfl | ⟨_, h2⟩
    · exact A.fr j d h1
    · exact absurd rfl (h2 d)
  · obtain ⟨s, h1, h2⟩ := hc j s' m e c
    exact A.ob j s m h1 h2
  · obtain ⟨s', h1, h2⟩ := hc j s m e1 c1
    obtain ⟨t', h3, h4⟩ := hc k t n e2 c2
    exact A.sep j k s' t' m n a hjk h1 h2 h3 h4 z1 z2
theorem lock_len : (lockO ls Γ).length = Γ.length := by
  cases ls with
  | none => rfl
  | some i =>
    show (lockE i Γ).length = _
    unfold lockE
    split <;> simp
theorem lock_get {s' : Option Sl} (e : (lockO ls Γ)[j]? = some s') : ∃ s, Γ[j]? = some s ∧ (s' = s ∨ ∃ m, s = some (.mu m) ∧ s' = some (.lk m) ∧ ls = some j) := by
  cases ls with
  | none => exact ⟨s', e, .inl rfl⟩
  | some i =>
    rw [lock_at] at e
    by_cases hj : j = i
    · subst hj
      rw [if_pos rfl] at e
      split at e
      · rename_i m h; cases e; exact ⟨_, h, .inr ⟨m, rfl, rfl, rfl⟩⟩
      · exact ⟨s', e, .inl rfl⟩
    · rw [if_neg hj] at e; exact ⟨s', e, .inl rfl⟩
theorem lock_to {s : Option Sl} (e : Γ[j]? = some s) : ∃ s', (lockO ls Γ)[j]? = some s' ∧ (s' = s ∨ ∃ m, s = some (.mu m) ∧ s' = some (.lk m) ∧ ls = some j) := by
  have hj : j < (lockO ls Γ).length := by rw [lock_len]; exact (List.getElem?_eq_some_iff.mp e).1
  obtain ⟨s', h1, h2⟩ := lock_get (List.getElem?_eq_getElem hj)
  rw [e] at h1; cases h1
  exact ⟨_, List.getElem?_eq_getElem hj, h2⟩
theorem At.lock (A : At K F H σ Γ) : At K F H σ (lockO ls Γ) := A.kin lock_len fun j s' e => by
  obtain ⟨s, h1, h2⟩ := lock_get e
  rcases h2 with rfl | ⟨m, rfl, h3, _⟩
  · exact ⟨s', h1, .inl rfl⟩
  · cases h3; exact ⟨_, h1, .inr ⟨rfl, fun d z => nomatch z⟩⟩
theorem SS.lock : SS H σ Γ σ (lockO ls Γ) := by
  refine ⟨rfl, fun i m h => ⟨?_, rfl⟩, fun i m h => ?_, fun i m h => ⟨?_, rfl⟩, fun a h => ?_⟩
  · obtain ⟨s', h1, h2⟩ := lock_to (ls := ls) h
    rcases h2 with rfl | ⟨m', z, _⟩
    · exact ⟨m, h1⟩
    · cases z
  · obtain ⟨s, h1, h2⟩ := lock_get h
    rcases h2 with rfl | ⟨m', _, z, _⟩
    · exact ⟨m, h1⟩
    · cases z
  · obtain ⟨s', h1, h2⟩ := lock_to (ls := ls) h
    rcases h2 with rfl | ⟨m', z, _⟩
    · exact h1
    · cases z
  · obtain ⟨i, m, e, z⟩ := h
    obtain ⟨s, h1, h2⟩ := lock_get e
    rcases h2 with rfl | ⟨m', _, z', _⟩
    · exact .inl ⟨i, m, h1, z⟩
    · cases z'
theorem Mu.lock {a : Addr} (h : Mu σ (lockO ls Γ) a) : Mu σ Γ a := by
  obtain ⟨i, s, m, e, c, z⟩ := h
  obtain ⟨s', h1, h2⟩ := lock_get e
  rcases h2 with rfl | ⟨m', _, z', _⟩
  · exact ⟨i, s, m, h1, c, z⟩
  · cases z'; cases c
theorem free_len {Γ0 : En} : (freeO ls Γ0 Γ).length = Γ.length := by
  cases ls with
  | none => rfl
  | some i =>
    show (freeE i Γ0 Γ).length = _
    unfold freeE
    split <;> simp
theorem free_get {Γ0 : En} {s' : Option Sl} (e : (freeO ls Γ0 Γ)[j]? = some s') : ∃ s, Γ[j]? = some s ∧ (s' = s ∨ ∃ m n, s = some (.lk m) ∧ s' = some (.mu m) ∧ ls = some j ∧ Γ0[j]? = some (some (.mu n))) := by
  cases ls with
  | none => exact ⟨s', e, .inl rfl⟩
  | some i =>
    have e : (freeE i Γ0 Γ)[j]? = some s' := e
    unfold freeE at e
    split at e
    · rename_i n m h1 h2
      by_cases hj : i = j
      · subst hj
        rw [List.getElem?_set_self (List.getElem?_eq_some_iff.mp h2).1] at e
        cases e
        exact ⟨_, h2, .inr ⟨m, n, rfl, rfl, rfl, h1⟩⟩
      · rw [List.getElem?_set_ne hj] at e; exact ⟨s', e, .inl rfl⟩
    · exact ⟨s', e, .inl rfl⟩
theorem free_to {Γ0 : En} {s : Option Sl} (e : Γ[j]? = some s) : ∃ s', (freeO ls Γ0 Γ)[j]? = some s' ∧ (s' = s ∨ ∃ m n, s = some (.lk m) ∧ s' = some (.mu m) ∧ ls = some j ∧ Γ0[j]? = some (some (.mu n))) := by
  have hj : j < (freeO ls Γ0 Γ).length := by rw [free_len]; exact (List.getElem?_eq_some_iff.mp e).1
  obtain ⟨s', h1, h2⟩ := free_get (List.getElem?_eq_getElem hj)
  rw [e] at h1; cases h1
  exact ⟨_, List.getElem?_eq_getElem hj, h2⟩
theorem At.unlock {Γ0 : En} (A : At K F H σ Γ) : At K F H σ (freeO ls Γ0 Γ) := A.kin free_len fun j s' e => by
  obtain ⟨s, h1, h2⟩ := free_get e
  rcases h2 with rfl | ⟨m, n, rfl, h3, _⟩
  · exact ⟨s', h1, .inl rfl⟩
  · cases h3; exact ⟨_, h1, .inr ⟨rfl, fun d z => nomatch z⟩⟩
theorem SS.unlock (x : SS H σ (lockO ls Γ1) σ' Γ2) : SS H σ Γ1 σ' (freeO ls Γ1 Γ2) := by
  have y : SS H σ Γ1 σ' Γ2 := SS.trans SS.lock x fun _ h => h
  refine ⟨y.len, fun i m h => ?_, fun i m h => ?_, fun i m h => ?_, fun a h => ?_⟩
  · obtain ⟨⟨m', h1⟩, h2⟩ := y.bo i m h
    obtain ⟨s', h3, h4⟩ := free_to (ls := ls) (Γ0 := Γ1) h1
    rcases h4 with rfl | ⟨_, _, z, _⟩
    · exact ⟨⟨m', h3⟩, h2⟩
    · cases z
  · obtain ⟨s, h1, h2⟩ := free_get h
    rcases h2 with rfl | ⟨m', _, _, z, _⟩
    · exact y.ob i m h1
    · cases z
  · obtain ⟨h1, h2⟩ := y.lk i m h
    obtain ⟨s', h3, h4⟩ := free_to (ls := ls) (Γ0 := Γ1) h1
    rcases h4 with rfl | ⟨m', n, _, _, _, z⟩
    · exact ⟨h3, h2⟩
    · rw [h] at z; cases z
  · obtain ⟨i, m, e, z⟩ := h
    obtain ⟨s, h1, h2⟩ := free_get e
    rcases h2 with rfl | ⟨m', n, rfl, z', hi, h3⟩
    · exact y.own a ⟨i, m, h1, z⟩
    · cases z'
      obtain ⟨s', h4, h5⟩ := lock_to (ls := ls) h3
      rcases h5 with rfl | ⟨n', z2, rfl, _⟩
      · -- not locked: but ls is i
        subst hi
        rw [lock_at, if_pos rfl, h3] at h4
        cases h4
      · cases z2
        obtain ⟨_, h6⟩ := x.lk i n h4
        exact .inl ⟨i, n, h3, h6 ▸ z⟩

/-! ### for -/
theorem i_for {mi : EM (Option Nat × List D)} {mb : En → Fl} (hp : PassesOwn (model X.prog X.w) X.A X.env X.xe) (hc : X.calm = true) (hi : PI X tg iter (rI X.K mi)) (hg : PG X tg (rG X.K sl (asgT t))) (hb : PSs X body (rS X.K mb)) (hs : notSet iter = true) :
    PS X (.For tg iter body [] pos) (rS X.K (mFor t mi mb forL)) := PS.weak (ps_for hp hc hi hg hb fun x => fold_plain hs x) fun D σ H q => by
  obtain ⟨F, Γ, A, q⟩ := q
  unfold mFor at q
  cases e : mi Γ with
  | no => rw [e] at q; exact q.elim
  | ok p Γ1 =>
    obtain ⟨ls, xs⟩ := p
    rw [e] at q
    dsimp only at q
    refine ⟨F, Γ, ls, xs, Γ1, A, e, fun J F1 H1 s1 A1 g1 it => ?_⟩
    have mul : ∀ x, Mu σ (lockO ls Γ1) x → Mu σ Γ x := fun x h => g1.mu h.lock
    have q1 : FlQ X.K F1 H1 σ (lockO ls Γ1) D (forL t mb xs (lockO ls Γ1)) := by
      have dn := dom_none s1
      have sl : SS H σ Γ σ (lockO ls Γ1) := SS.trans g1.ss SS.lock fun _ h => h
      cases e2 : forL t mb xs (lockO ls Γ1) with
      | nx Γ2 =>
        rw [e2] at q
        intro σ' F' H' s2 A2 ss2
        exact q σ' F' H' (s1.trans s2 fun x h => .inl (mul x h)) A2.unlock (SS.trans g1.ss ss2.unlock dn)
      | bk Γ2 => rw [e2] at q; exact FlQ.later s1 sl q
      | ct Γ2 => rw [e2] at q; exact FlQ.later s1 sl q
      | rt r Γ2 => rw [e2] at q; exact FlQ.later s1 sl q
      | no => rw [e2] at q; exact q.elim
      | ex c => rw [e2] at q; exact FlQ.later (D := D) s1 sl q
    have A1' := A1.lock (ls := ls)
    generalize lockO ls Γ1 = ΓL at it q1 A1' mul
    refine ⟨fun i m σ' H' => m = xs.length - i ∧ i ≤ xs.length ∧ ∃ F' Γ', At X.K F' H' σ' Γ' ∧ Step F1 H1 (Mu σ ΓL) F' H' ∧ SS H1 σ ΓL σ' Γ' ∧ FlQ X.K F' H' σ' Γ' D (forL t mb (xs.drop i) Γ'), ⟨xs.length, by simp, Nat.zero_le _, F1, ΓL, A1', Step.refl .., SS.refl .., q1⟩, ?_⟩
    rintro i m σ2 H2 ⟨rfl, hi, F2, Γ2, A2, s2, ss2, q2⟩
    by_cases hlt : i < xs.length
    · rw [List.drop_eq_getElem_cons hlt] at q2
      unfold forL at q2
      refine .inr ⟨it.go F2 H2 s2 A2.sub i hlt, fun σ' H' => ∃ F' Γ', At X.K F' H' σ' Γ' ∧ Step F1 H1 (Mu σ ΓL) F' H' ∧ SS H1 σ ΓL σ' Γ' ∧ FlQ X.K F' H' σ' Γ' D (forL t mb (xs.drop (i + 1)) Γ'), fun σ' H' h => ⟨xs.length - (i + 1), by omega, rfl, hlt, h⟩, fun v H3 y => ?_⟩
      cases e3 : asgT t (.d xs[i]) Γ2 with
      | none => rw [e3] at q2; exact q2.elim
      | some Γ3 =>
        rw [e3] at q2
        dsimp only at q2
        have key : ∀ F3, At X.K F3 H3 σ2 Γ2 → Step F2 H2 (Mu σ2 Γ2) F3 H3 → Rep X.K F3 v xs[i] → rG X.K sl (asgT t) v σ2 H3 fun σ4 H4 => rS X.K mb { D with nx := fun σ' H' => ∃ F' Γ', At X.K F' H' σ' Γ' ∧ Step F1 H1 (Mu σ ΓL) F' H' ∧ SS H1 σ ΓL σ' Γ' ∧ FlQ X.K F' H' σ' Γ' D (forL t mb (xs.drop (i + 1)) Γ'), ct := fun σ' H' => ∃ F' Γ', At X.K F' H' σ' Γ' ∧ Step F1 H1 (Mu σ ΓL) F' H' ∧ SS H1 σ ΓL σ' Γ' ∧ FlQ X.K F' H' σ' Γ' D (forL t mb (xs.drop (i + 1)) Γ'), bk := D.nx } σ4 H4 := by
          intro F3 A3 s3 r3
          refine ⟨F3, Γ2, .d xs[i], Γ3, H3, A3, r3, fun a h => h.elim, e3, fun σ4 A4 ss4 _ _ => ⟨F3, Γ3, A4, ?_⟩⟩
          have s13 : Step F1 H1 (Mu σ ΓL) F3 H3 := s2.trans s3 fun x h => ss2.mu h
          have ss14 : SS H1 σ ΓL σ4 Γ3 := ss2.trans ss4 (dom_none s13)
          have ss24 : SS H2 σ2 Γ2 σ4 Γ3 := SS.trans (SS.refl H2 σ2 Γ2) ss4 (dom_none s3)
          have fin : ∀ Γ5, FlQ X.K F2 H2 σ2 Γ2 D (forL t mb (xs.drop (i + 1)) Γ5) → ∀ σ' F' H', Step F3 H3 (Mu σ4 Γ3) F' H' → At X.K F' H' σ' Γ5 → SS H3 σ4 Γ3 σ' Γ5 → ∃ F' Γ', At X.K F' H' σ' Γ' ∧ Step F1 H1 (Mu σ ΓL) F' H' ∧ SS H1 σ ΓL σ' Γ' ∧ FlQ X.K F' H' σ' Γ' D (forL t mb (xs.drop (i + 1)) Γ') := by
            intro Γ5 q5 σ' F' H' s5 A5 ss5
            refine ⟨F', Γ5, A5, s13.trans s5 fun x h => ss14.mu h, ss14.trans ss5 (dom_none s13), ?_⟩
            exact FlQ.later (s3.trans s5 fun x h => ss24.mu h) (ss24.trans ss5 (dom_none s3)) q5
          cases e4 : mb Γ3 with
          | nx Γ5 => rw [e4] at q2; exact fin Γ5 q2
          | ct Γ5 => rw [e4] at q2; exact fin Γ5 q2
          | bk Γ5 =>
            rw [e4] at q2
            intro σ' F' H' s5 A5 ss5
            exact q2 σ' F' H' (s3.trans s5 fun x h => ss24.mu h) A5 (ss24.trans ss5 (dom_none s3))
          | rt r Γ5 =>
            rw [e4] at q2
            have q3 := FlQ.later s3 ss24 q2
            exact q3
          | no => rw [e4] at q2; exact q2.elim
          | ex c =>
            rw [e4] at q2
            exact FlQ.later (D := D) s3 ss24 q2
        rcases it.yld F2 H2 s2 A2.sub i xs[i] v H3 (List.getElem?_eq_getElem hlt) y with ⟨rfl, r⟩ | ⟨T, o, hT, no, rfl, r⟩
        · exact key F2 A2 (Step.refl ..) r
        · exact key (upd F2 T o) (A2.newF hT o no) (VS.newF A2.sub hT o no).step r
    · have ei : i = xs.length := by omega
      subst ei
      rw [List.drop_length] at q2
      unfold forL at q2
      exact .inl ⟨it.stop F2 H2 s2 A2.sub _ (Nat.le_refl _), q2 σ2 F2 H2 (Step.refl ..) A2 (SS.refl ..)⟩
/-! ### while -/
theorem i_while {mc : EM Bool} {mb : En → Fl} (n : Nat) (hp : PassesOwn (model X.prog X.w) X.A X.env X.xe) (hc : PT X pe (rT X.K mc)) (hb : PSs X body (rS X.K mb)) :
    PS X (.While pe body [] pos) (rS X.K (whL mc mb n)) := PS.weak (ps_while hp hc hb) fun D σ H q => by
  obtain ⟨F, Γ, A, q⟩ := q
  refine ⟨fun m σ' H' => ∃ F' Γ', At X.K F' H' σ' Γ' ∧ FlQ X.K F' H' σ' Γ' D (whL mc mb m Γ'), ⟨n, F, Γ, A, q⟩, ?_⟩
  rintro m σ2 H2 ⟨F2, Γ2, A2, q2⟩
  cases m with
  | zero => exact q2.elim
  | succ m =>
    unfold whL at q2
    cases e : mc Γ2 with
    | no => rw [e] at q2; exact q2.elim
    | ok b Γ3 =>
      rw [e] at q2
      refine ⟨F2, Γ2, b, Γ3, A2, e, fun F3 H3 s3 A3 g3 => ?_⟩
      cases b with
      | false =>
        dsimp only at q2
        rw [if_neg Bool.false_ne_true]
        exact q2 σ2 F3 H3 s3 A3 g3.ss
      | true =>
        dsimp only at q2
        rw [if_pos rfl]
        have q3 := FlQ.later s3 g3.ss q2
        refine ⟨fun σ' H' => ∃ F' Γ', At X.K F' H' σ' Γ' ∧ FlQ X.K F' H' σ' Γ' D (whL mc mb m Γ'), fun σ' H' h => ⟨m, Nat.lt_succ_self _, h⟩, F3, Γ3, A3, ?_⟩
        cases e4 : mb Γ3 with
        | nx Γ5 => rw [e4] at q3; exact fun σ' F' H' s5 A5 ss5 => ⟨F', Γ5, A5, FlQ.later s5 ss5 q3⟩
        | ct Γ5 => rw [e4] at q3; exact fun σ' F' H' s5 A5 ss5 => ⟨F', Γ5, A5, FlQ.later s5 ss5 q3⟩
        | bk Γ5 => rw [e4] at q3; exact q3
        | rt r Γ5 => rw [e4] at q3; exact q3
        | no => rw [e4] at q3; exact q3.elim
        | ex c => rw [e4] at q3; exact q3
end
end Rf

set_option Elab.async false
set_option linter.all false
set_option maxRecDepth 100000
set_option maxHeartbeats 1000000
namespace Rf
open PySem PySem.Spec PyProof.Rows L2
variable [Tb] [Wi]
section
variable {K : PySem.W.Frag} {mg : Str → Option Value} {cx : CtxR} {F H F' H' F1 H1 H0 : Hp} {σ σ' σ1 : L2.St} {Γ Γ' Γ1 Γ2 Γ3 Γ4 ΓL : En} {v : V} {d x : D} {ds xs : List D} {Q : VK} {X : Cx} {i j l : Nat} {pos p2 tpos : Pos} {D0 : Ends} {pe tg pa pb pc iter elt : Expr} {ifs : List Expr} {body : List Stmt} {kk : Nat} {elts : List Expr} {ls : Option Nat} {sl vs : List Nat} {t : T}

/-! ### targets -/
mutual
theorem asgT_out : ∀ {t : T} {r : R} {Γ Γ' : En}, asgT t r Γ = some Γ' → Γ'.length = Γ.length ∧ ∀ j, j ∉ t.slots → Γ'[j]? = Γ[j]?
  | .var i, r, Γ, Γ', e => by
    obtain ⟨hi, rfl, _⟩ := setV_ok (by unfold asgT at e; exact e)
    exact ⟨by simp, fun j hj => List.getElem?_set_ne fun z => hj (by simp [T.slots, z])⟩
  | .tup ts, r, Γ, Γ', e => by
    unfold asgT at e
    split at e
    · obtain ⟨h1, h2⟩ := asgTs_out e
      exact ⟨h1, fun j hj => h2 j (by unfold T.slots at hj; exact hj)⟩
    · cases e
theorem asgTs_out : ∀ {ts : List T} {rs : List R} {Γ Γ' : En}, asgTs ts rs Γ = some Γ' → Γ'.length = Γ.length ∧ ∀ j, j ∉ T.slotss ts → Γ'[j]? = Γ[j]?
  | [], [], Γ, Γ', e => by cases e; exact ⟨rfl, fun _ _ => rfl⟩
  | t :: ts, r :: rs, Γ, Γ', e => by
    unfold asgTs at e
    obtain ⟨Γ1, e1, e2⟩ := Option.bind_eq_some_iff.mp e
    obtain ⟨h1, h2⟩ := asgT_out e1
    obtain ⟨h3, h4⟩ := asgTs_out e2
    refine ⟨h3.trans h1, fun j hj => ?_⟩
    unfold T.slotss at hj
    simp only [List.mem_append, not_or] at hj
    rw [h4 j hj.2, h2 j hj.1]
  | [], _ :: _, _, _, e => by unfold asgTs at e; cases e
  | _ :: _, [], _, _, e => by unfold asgTs at e; cases e
end
mutual
theorem asgT_fr : ∀ {t : T} {x : D} {Γ Γ' : En}, asgT t (.d x) Γ = some Γ' → ∀ (j : Nat) (s : Sl), Γ'[j]? = some (some s) → Γ[j]? = some (some s) ∨ ∃ d : D, s = Sl.fr d
  | .var i, x, Γ, Γ', e, j, s, h => by
    obtain ⟨hi, rfl, _⟩ := setV_ok (by unfold asgT at e; exact e)
    by_cases hj : i = j
    · subst hj
      rw [List.getElem?_set_self hi] at h
      cases h
      exact .inr ⟨_, rfl⟩
    · rw [List.getElem?_set_ne hj] at h; exact .inl h
  | .tup ts, x, Γ, Γ', e, j, s, h => by
    unfold asgT at e
    split at e
    · exact asgTs_fr e j s h
    · cases e
theorem asgTs_fr : ∀ {ts : List T} {xs : List D} {Γ Γ' : En}, asgTs ts (xs.map R.d) Γ = some Γ' → ∀ (j : Nat) (s : Sl), Γ'[j]? = some (some s) → Γ[j]? = some (some s) ∨ ∃ d : D, s = Sl.fr d
  | [], [], Γ, Γ', e, j, s, h => by cases e; exact .inl h
  | t :: ts, x :: xs, Γ, Γ', e, j, s, h => by
    rw [List.map_cons] at e
    unfold asgTs at e
    obtain ⟨Γ1, e1, e2⟩ := Option.bind_eq_some_iff.mp e
    rcases asgTs_fr e2 j s h with h | h
    · exact asgT_fr e1 j s h
    · exact .inr h
  | [], _ :: _, _, _, e, _, _, _ => by rw [List.map_cons] at e; unfold asgTs at e; cases e
  | _ :: _, [], _, _, e, _, _, _ => by rw [List.map_nil] at e; unfold asgTs at e; cases e
end
/-! ### a block's own slots -/
theorem wipe_in {σ : L2.St} {j : Nat} : ∀ {vs : List Nat}, j ∈ vs → (wipe σ vs)[j]? = (σ[j]?).map fun _ => none
  | v :: vs, h => by
    unfold wipe
    by_cases hj : v = j
    · subst hj
      by_cases hl : v < (wipe σ vs).length
      · rw [List.getElem?_set_self hl]
        rw [wipe_length] at hl
        rw [List.getElem?_eq_getElem hl]; rfl
      · rw [List.getElem?_eq_none (by simpa using hl)]
        rw [wipe_length] at hl
        rw [List.getElem?_eq_none (by omega)]; rfl
    · rw [List.getElem?_set_ne hj]
      exact wipe_in (by
        rcases List.mem_cons.mp h with z | z
        · exact absurd z.symm hj
        · exact z)
theorem wipeE_len : ∀ {vs : List Nat}, (wipeE Γ vs).length = Γ.length
  | [] => rfl
  | v :: vs => by unfold wipeE; rw [List.length_set, wipeE_len]
theorem wipeE_out : ∀ {vs : List Nat}, j ∉ vs → (wipeE Γ vs)[j]? = Γ[j]?
  | [], _ => rfl
  | v :: vs, h => by
    simp only [List.mem_cons, not_or] at h
    unfold wipeE
    rw [List.getElem?_set_ne (Ne.symm h.1), wipeE_out h.2]
theorem wipeE_in : ∀ {vs : List Nat}, j ∈ vs → (wipeE Γ vs)[j]? = (Γ[j]?).map fun _ => none
  | v :: vs, h => by
    unfold wipeE
    by_cases hj : v = j
    · subst hj
      by_cases hl : v < (wipeE Γ vs).length
      · rw [List.getElem?_set_self hl]
        rw [wipeE_len] at hl
        rw [List.getElem?_eq_getElem hl]; rfl
      · rw [List.getElem?_eq_none (by simpa using hl)]
        rw [wipeE_len] at hl
        rw [List.getElem?_eq_none (by omega)]; rfl
    · rw [List.getElem?_set_ne hj]
      exact wipeE_in (by
        rcases List.mem_cons.mp h with z | z
        · exact absurd z.symm hj
        · exact z)
theorem wipeE_some {s : Sl} (h : (wipeE Γ vs)[j]? = some (some s)) : Γ[j]? = some (some s) ∧ j ∉ vs := by
  by_cases hj : j ∈ vs
  · rw [wipeE_in hj] at h
    obtain ⟨_, _, z⟩ := Option.map_eq_some_iff.mp h
    cases z
  · rw [wipeE_out hj] at h; exact ⟨h, hj⟩
theorem At.wipeE (A : At K F H σ Γ) : At K F H σ (wipeE Γ vs) := A.kin wipeE_len fun j s' e => ⟨s', (wipeE_some e).1, .inl rfl⟩
theorem At.wipe (A : At K F H σ Γ) : At K F H (wipe σ vs) (Rf.wipeE Γ vs) := by
  have h : ∀ {j : Nat} {s : Sl}, (Rf.wipeE Γ vs)[j]? = some (some s) → Γ[j]? = some (some s) ∧ (L2.wipe σ vs)[j]? = σ[j]? := fun e => ⟨(wipeE_some e).1, wipe_out (wipeE_some e).2⟩
  refine ⟨A.sub, by rw [wipeE_len, wipe_length]; exact A.len, fun j d e => ?_, fun j s m e c => ?_, fun j k s t m n a hjk e1 c1 e2 c2 z1 z2 => ?_, A.tab, A.f0⟩
  · obtain ⟨h1, h2⟩ := h e; rw [h2]; exact A.fr j d h1
  · obtain ⟨h1, h2⟩ := h e; rw [h2]; exact A.ob j s m h1 c
  · obtain ⟨h1, h2⟩ := h e1
    obtain ⟨h3, h4⟩ := h e2
    rw [h2] at z1; rw [h4] at z2
    exact A.sep j k s t m n a hjk h1 c1 h3 c2 z1 z2
theorem backE_len {Γ0 : En} : ∀ {vs : List Nat}, (backE Γ0 vs Γ).length = Γ.length
  | [] => rfl
  | v :: vs => by unfold backE; rw [List.length_set, backE_len]
theorem backE_out {Γ0 : En} : ∀ {vs : List Nat}, j ∉ vs → (backE Γ0 vs Γ)[j]? = Γ[j]?
  | [], _ => rfl
  | v :: vs, h => by
    simp only [List.mem_cons, not_or] at h
    unfold backE
    rw [List.getElem?_set_ne (Ne.symm h.1), backE_out h.2]
theorem backE_in {Γ0 : En} (hl : Γ0.length = Γ.length) : ∀ {vs : List Nat}, j ∈ vs → (backE Γ0 vs Γ)[j]? = Γ0[j]?
  | v :: vs, h => by
    unfold backE
    by_cases hj : v = j
    · subst hj
      by_cases hv : v < (backE Γ0 vs Γ).length
      · rw [List.getElem?_set_self hv]
        rw [backE_len, ← hl] at hv
        rw [List.getElem?_eq_getElem hv, List.getD_eq_getElem?_getD, List.getElem?_eq_getElem hv]; rfl
      · rw [List.getElem?_eq_none (by simpa using hv)]
        rw [backE_len, ← hl] at hv
        rw [List.getElem?_eq_none (by omega)]
    · rw [List.getElem?_set_ne hj]
      exact backE_in hl (by
        rcases List.mem_cons.mp h with z | z
        · exact absurd z.symm hj
        · exact z)
theorem bare_at (h : bareE Γ vs = true) (hj : j ∈ vs) {s : Sl} (e : Γ[j]? = some (some s)) : ∃ d, s = .fr d := by
  have := List.all_eq_true.mp h j hj
  rw [e] at this
  cases s with
  | fr d => exact ⟨d, rfl⟩
  | mu m => cases this
  | bo m => cases this
  | lk m => cases this
theorem At.back (A : At K F1 H1 σ ΓL) (st : Same F1 F') (hb : bareE ΓL vs = true) (B : At K F' H' (L2.wipe σ vs) Γ') (hl : ΓL.length = Γ'.length) : At K F' H' σ (backE ΓL vs Γ') := by
  have out : ∀ {j : Nat} {s : Sl}, (backE ΓL vs Γ')[j]? = some (some s) → (j ∈ vs ∧ ΓL[j]? = some (some s) ∧ ∃ d, s = .fr d) ∨ (j ∉ vs ∧ Γ'[j]? = some (some s)) := fun {j s} e => by
    by_cases hj : j ∈ vs
    · rw [backE_in hl hj] at e; exact .inl ⟨hj, e, bare_at hb hj e⟩
    · rw [backE_out hj] at e; exact .inr ⟨hj, e⟩
  refine ⟨B.sub, by rw [backE_len, B.len, wipe_length], fun j d e => ?_, fun j s m e c => ?_, fun j k s t m n a hjk e1 c1 e2 c2 z1 z2 => ?_, B.tab, B.f0⟩
  · rcases out e with ⟨_, h, _⟩ | ⟨hj, h⟩
    · obtain ⟨v, h1, h2⟩ := A.fr j d h
      exact ⟨v, h1, h2.up st⟩
    · obtain ⟨v, h1, h2⟩ := B.fr j d h
      exact ⟨v, by rw [← wipe_out hj]; exact h1, h2⟩
  · rcases out e with ⟨_, _, d, rfl⟩ | ⟨hj, h⟩
    · cases c
    · obtain ⟨a, h1, h2⟩ := B.ob j s m h c
      exact ⟨a, by rw [← wipe_out hj]; exact h1, h2⟩
  · rcases out e1 with ⟨_, _, d, rfl⟩ | ⟨hj, h⟩
    · cases c1
    · rcases out e2 with ⟨_, _, d, rfl⟩ | ⟨hk, h'⟩
      · cases c2
      · exact B.sep j k s t m n a hjk h c1 h' c2 (by rw [wipe_out hj]; exact z1) (by rw [wipe_out hk]; exact z2)
theorem ES.backS (g : ES (Rf.wipeE ΓL vs) Γ') (hb : bareE ΓL vs = true) : ES ΓL (backE ΓL vs Γ') := by
  have hl : ΓL.length = Γ'.length := by rw [g.1, wipeE_len]
  refine ⟨by rw [backE_len, hl], fun j s e => ?_⟩
  by_cases hj : j ∈ vs
  · exact ⟨s, by rw [backE_in hl hj]; exact e, SlGo.refl s⟩
  · rw [backE_out hj]
    exact g.2 j s (by rw [wipeE_out hj]; exact e)
theorem ES.unlock (g : ES (lockO ls Γ1) Γ2) : ES Γ1 (freeO ls Γ1 Γ2) := by
  refine ⟨by rw [free_len, g.1, lock_len], fun j s e => ?_⟩
  obtain ⟨s', h1, h2⟩ := lock_to (ls := ls) e
  obtain ⟨t, h3, h4⟩ := g.2 j s' h1
  obtain ⟨t', h5, h6⟩ := free_to (ls := ls) (Γ0 := Γ1) h3
  refine ⟨t', h5, ?_⟩
  rcases h2 with rfl | ⟨m, rfl, rfl, rfl⟩
  · rcases h6 with rfl | ⟨m, n, rfl, rfl, _, z⟩
    · exact h4
    · rw [e] at z; cases z
      rcases h4 with ⟨_, z⟩ | ⟨_, z⟩ <;> cases z
  · cases h4
    have h7 : (freeO (some j) Γ1 Γ2)[j]? = some (some (.mu m)) := by
      show (freeE j Γ1 Γ2)[j]? = _
      unfold freeE
      rw [e, h3]
      exact List.getElem?_set_self (List.getElem?_eq_some_iff.mp h3).1
    rw [h5] at h7; cases h7
    exact SlGo.refl _
theorem step_own {o : HO} {a : Addr} (s : Same F H) (hf : F a = none) : Step F H (fun b => b = a) F (upd H a o) := by
  refine ⟨Same.refl F, fun b u e n _ => by rw [upd_ne n]; exact e, fun b n e => rfl, fun b h => ?_⟩
  by_cases hb : b = a
  · subst hb; rw [upd_same]; simp
  · rw [upd_ne hb]; exact h
theorem same_own {o : HO} {a : Addr} (s : Same F H) (hf : F a = none) : Same F (upd H a o) := fun b u e => by
  rw [upd_ne (ne_of_none e hf)]; exact s _ _ e

/-! ### list comprehensions -/
theorem rd_comp {mi : EM (Option Nat × List D)} {mc : EM Bool} {me : EM D} (hsl : ∀ j ∈ sl, j ∈ vs) (hts : ∀ j ∈ t.slots, j ∈ vs) (q : rE X.K (mComp t vs mi mc me) σ H Q) : tLc (rI X.K mi) (rG X.K sl (asgT t)) (rT X.K mc) (rD X.K me) vs σ H Q := by
  obtain ⟨F, Γ, r, Γ', A, e, k⟩ := q
  unfold mComp at e
  cases e1 : mi Γ with
  | no => rw [e1] at e; cases e
  | ok p Γ1 =>
    obtain ⟨ls, xs⟩ := p
    rw [e1] at e
    dsimp only at e
    split at e
    case isFalse => cases e
    rename_i hb
    cases e2 : compL t mc me vs xs [] (wipeE (lockO ls Γ1) vs) with
    | no => rw [e2] at e; cases e
    | ok ds Γ2 =>
      rw [e2] at e
      cases e
      refine ⟨F, Γ, ls, xs, Γ1, A, e1, fun J F1 H1 s1 A1 g1 it D hD => ?_⟩
      have mul : ∀ x, Mu σ (lockO ls Γ1) x → Mu σ Γ x := fun x h => g1.mu h.lock
      have AL := A1.lock (ls := ls)
      have fin : ∀ F' H' accV Γ5, At X.K F' H' (wipe σ vs) Γ5 → Step F1 H1 (Mu σ (lockO ls Γ1)) F' H' → ES (wipeE (lockO ls Γ1) vs) Γ5 → H' D = some (.lst accV) → F' D = none → Reps X.K F' accV ds → Γ5 = Γ2 → Q (.ref D) H' := by
        intro F' H' accV Γ5 A5 s5 g5 hD5 hF5 r5 ez
        subst ez
        refine k (.ref D) F' H' (s1.trans s5 fun x h => .inl (mul x h)) ?_ ?_ ⟨D, rfl, dom_none s1 D hD, hF5, accV, hD5, r5⟩
        · exact (AL.back s5.fs hb A5 (by rw [g5.1, wipeE_len])).unlock
        · exact g1.trans (g5.backS hb).unlock
      generalize lockO ls Γ1 = ΓL at it AL mul hb e2 fin
      have hFD : F1 D = none := A1.sub.free hD
      have dmu : ¬ Mu σ ΓL D := fun h => (Mu.there AL h).1 hD
      refine ⟨fun i m H' => m = xs.length - i ∧ i ≤ xs.length ∧ ∃ F' Γ' accV acc, At X.K F' H' (wipe σ vs) Γ' ∧ Step F1 H1 (Mu σ ΓL) F' H' ∧ ES (wipeE ΓL vs) Γ' ∧ H' D = some (.lst accV) ∧ F' D = none ∧ Reps X.K F' accV acc ∧ compL t mc me vs (xs.drop i) acc Γ' = .ok ds Γ2,
        ⟨xs.length, by simp, Nat.zero_le _, F1, wipeE ΓL vs, [], [], AL.wipe.newH hD _, (Step.refl ..).new hD, ES.refl _, upd_same, hFD, .nil, e2⟩, ?_⟩
      rintro i m H2 ⟨rfl, hi, F2, Γ3, accV, acc, A2, s2, g2, hD2, hF2, r2, e3⟩
      by_cases hlt : i < xs.length
      · rw [List.drop_eq_getElem_cons hlt] at e3
        unfold compL at e3
        refine .inr ⟨it.go F2 H2 s2 A2.sub i hlt, fun H' => ∃ F' Γ' accV acc, At X.K F' H' (wipe σ vs) Γ' ∧ Step F1 H1 (Mu σ ΓL) F' H' ∧ ES (wipeE ΓL vs) Γ' ∧ H' D = some (.lst accV) ∧ F' D = none ∧ Reps X.K F' accV acc ∧ compL t mc me vs (xs.drop (i + 1)) acc Γ' = .ok ds Γ2, fun H' h => ⟨xs.length - (i + 1), by omega, rfl, hlt, h⟩, fun v H3 y => ?_⟩
        cases e4 : asgT t (.d xs[i]) (wipeE Γ3 vs) with
        | none => rw [e4] at e3; cases e3
        | some Γ4 =>
          rw [e4] at e3
          dsimp only at e3
          obtain ⟨len4, out4⟩ := asgT_out e4
          have key : ∀ F3, At X.K F3 H3 (wipe σ vs) Γ3 → Step F2 H2 (Mu (wipe σ vs) Γ3) F3 H3 → Rep X.K F3 v xs[i] → H3 D = some (.lst accV) → F3 D = none → rG X.K sl (asgT t) v (wipe σ vs) H3 fun σ2 H2 => wipe σ2 vs = wipe σ vs ∧ rT X.K mc σ2 H2 fun b H3 =>
              if b = true then rD X.K me σ2 H3 fun y H4 => ∃ acc, H4 D = some (.lst acc) ∧ acc.length < sizeLine ∧ (fun H' => ∃ F' Γ' accV acc, At X.K F' H' (wipe σ vs) Γ' ∧ Step F1 H1 (Mu σ ΓL) F' H' ∧ ES (wipeE ΓL vs) Γ' ∧ H' D = some (.lst accV) ∧ F' D = none ∧ Reps X.K F' accV acc ∧ compL t mc me vs (xs.drop (i + 1)) acc Γ' = .ok ds Γ2) (upd H4 D (.lst (acc ++ [y]))) else (fun H' => ∃ F' Γ' accV acc, At X.K F' H' (wipe σ vs) Γ' ∧ Step F1 H1 (Mu σ ΓL) F' H' ∧ ES (wipeE ΓL vs) Γ' ∧ H' D = some (.lst accV) ∧ F' D = none ∧ Reps X.K F' accV acc ∧ compL t mc me vs (xs.drop (i + 1)) acc Γ' = .ok ds Γ2) H3 := by
            intro F3 A3 s3 r3 hD3 hF3
            refine ⟨F3, wipeE Γ3 vs, .d xs[i], Γ4, H3, A3.wipeE, r3, fun a h => h.elim, e4, fun σ4 A4 ss4 _ o4 => ⟨?_, ?_⟩⟩
            · refine List.ext_getElem? fun j => ?_
              by_cases hj : j ∈ vs
              · have hl : σ4.length = σ.length := by rw [ss4.len, wipe_length]
                rw [wipe_in hj, wipe_in hj]
                by_cases hlj : j < σ.length
                · rw [List.getElem?_eq_getElem hlj, List.getElem?_eq_getElem (by omega)]; rfl
                · rw [List.getElem?_eq_none (by omega), List.getElem?_eq_none (by omega)]
              · rw [wipe_out hj]; exact o4 j fun z => hj (hsl j z)
            have weq : wipe σ4 vs = wipe σ vs := by
              refine List.ext_getElem? fun j => ?_
              by_cases hj : j ∈ vs
              · have hl : σ4.length = σ.length := by rw [ss4.len, wipe_length]
                rw [wipe_in hj, wipe_in hj]
                by_cases hlj : j < σ.length
                · rw [List.getElem?_eq_getElem hlj, List.getElem?_eq_getElem (by omega)]; rfl
                · rw [List.getElem?_eq_none (by omega), List.getElem?_eq_none (by omega)]
              · rw [wipe_out hj]; exact o4 j fun z => hj (hsl j z)
            have muT : ∀ x, Mu σ4 Γ4 x → Mu σ ΓL x := by
              rintro x ⟨j, s, m, h1, h2, h3⟩
              rcases asgT_fr e4 j s h1 with h | ⟨d, rfl⟩
              · obtain ⟨h4, hj⟩ := wipeE_some h
                have h5 : Mu (wipe σ vs) Γ3 x := ⟨j, s, m, h4, h2, by rw [← o4 j fun z => hj (hsl j z)]; exact h3⟩
                obtain ⟨j', s', m', q1, q2, q3⟩ := g2.mu h5
                exact ⟨j', s', m', (wipeE_some q1).1, q2, (wipe_some q3).1⟩
              · cases h2
            have mu3 : ∀ x, Mu (wipe σ vs) Γ3 x → Mu σ ΓL x := fun x h => by
              obtain ⟨j', s', m', q1, q2, q3⟩ := g2.mu h
              exact ⟨j', s', m', (wipeE_some q1).1, q2, (wipe_some q3).1⟩
            have esT : ∀ Γ5, ES Γ4 Γ5 → ES (wipeE ΓL vs) (wipeE Γ5 vs) := fun Γ5 g => by
              refine ⟨by rw [wipeE_len, wipeE_len, g.1, len4, wipeE_len, g2.1, wipeE_len], fun j s hs => ?_⟩
              by_cases hj : j ∈ vs
              · rw [wipeE_in hj] at hs
                obtain ⟨s0, hs0, rfl⟩ := Option.map_eq_some_iff.mp hs
                have hl : j < Γ5.length := by
                  rw [g.1, len4, wipeE_len, g2.1, wipeE_len]
                  exact (List.getElem?_eq_some_iff.mp hs0).1
                exact ⟨none, by rw [wipeE_in hj, List.getElem?_eq_getElem hl]; rfl, rfl⟩
              · obtain ⟨t1, h1, h2⟩ := g2.2 j s hs
                obtain ⟨t2, h3, h4⟩ := g.2 j t1 (by rw [out4 j fun z => hj (hts j z), wipeE_out hj]; exact h1)
                exact ⟨t2, by rw [wipeE_out hj]; exact h3, h2.trans h4⟩
            have s13 : Step F1 H1 (Mu σ ΓL) F3 H3 := s2.trans s3 fun x h => .inl (mu3 x h)
            cases e5 : mc Γ4 with
            | no => rw [e5] at e3; cases e3
            | ok b Γ5 =>
              rw [e5] at e3
              refine ⟨F3, Γ4, b, Γ5, A4, e5, fun F5 H5 s5 A5 g5 => ?_⟩
              have nD : ¬ Mu σ4 Γ4 D := fun h => dmu (muT D h)
              have hD5 := s5.hs D _ hD3 nD fun _ z => (nomatch z)
              have hF5 : F5 D = none := by rw [s5.fn D nD (by rw [hD3]; simp)]; exact hF3
              have s15 : Step F1 H1 (Mu σ ΓL) F5 H5 := s13.trans s5 fun x h => .inl (muT x h)
              cases b with
              | false =>
                dsimp only at e3
                exact iteF ⟨F5, wipeE Γ5 vs, accV, acc, by have := A5.wipe (vs := vs); rw [weq] at this; exact this, s15, esT Γ5 g5, hD5, hF5, (r2.up s3.fs).up s5.fs, e3⟩
              | true =>
                dsimp only at e3
                refine iteT ?_
                cases e6 : me Γ5 with
                | no => rw [e6] at e3; cases e3
                | ok d Γ6 =>
                  rw [e6] at e3
                  dsimp only at e3
                  split at e3
                  · rename_i hacc
                    refine ⟨F5, Γ5, d, Γ6, A5, e6, fun y F6 H6 s6 A6 g6 r6 => ?_⟩
                    have nD6 : ¬ Mu σ4 Γ5 D := fun h => nD (g5.mu h)
                    have hD6 := s6.hs D _ hD5 nD6 fun _ z => (nomatch z)
                    have hF6 : F6 D = none := by rw [s6.fn D nD6 (by rw [hD5]; simp)]; exact hF5
                    have s16 : Step F1 H1 (Mu σ ΓL) F6 H6 := s15.trans s6 fun x h => .inl (muT x (g5.mu h))
                    refine ⟨accV, hD6, ?_, F6, wipeE Γ6 vs, accV ++ [y], acc ++ [d], ?_, s16.trans (step_own A6.sub hF6) fun x h => .inr (h ▸ hD), esT Γ6 (g5.trans g6), upd_same, hF6, (((r2.up s3.fs).up s5.fs).up s6.fs).app (.cons r6 .nil), e3⟩
                    · rw [r2.len]; exact Nat.lt_of_lt_of_le hacc (by decide)
                    · have := A6.wipe (vs := vs)
                      rw [weq] at this
                      refine this.step (step_own A6.sub hF6) (tabs_chg A6.tab hD6 NoTC.lst fun b hb => upd_ne hb) (same_own A6.sub hF6) fun a ha hz => ?_
                      subst hz
                      obtain ⟨j, s, m, h1, h2, h3⟩ := ha
                      -- D was not there at the start: no slot holds it
                      have h1' := (wipeE_some h1).2
                      have h3' := (wipe_some h3).1
                      obtain ⟨h8, _⟩ := wipeE_some h1
                      have : ∃ s0 m0, ΓL[j]? = some (some s0) ∧ s0.cont = some m0 := by
                        have gg := esT Γ6 (g5.trans g6)
                        rcases gg.back h1 with ⟨m1, n1, z, y⟩ | ⟨m1, n1, z, y⟩ | ⟨m1, z, y⟩ | ⟨d1, z⟩
                        · exact ⟨_, _, (wipeE_some y).1, rfl⟩
                        · exact ⟨_, _, (wipeE_some y).1, rfl⟩
                        · exact ⟨_, _, (wipeE_some y).1, rfl⟩
                        · subst z; cases h2
                      obtain ⟨s0, m0, z1, z2⟩ := this
                      obtain ⟨a', z3, z4, z5⟩ := AL.ob j s0 m0 z1 z2
                      rw [h3'] at z3; cases z3
                      obtain ⟨o, ho, _⟩ := z5.ex
                      rw [hD] at ho; cases ho
                  · cases e3
          rcases it.yld F2 H2 s2 A2.sub i xs[i] v H3 (List.getElem?_eq_getElem hlt) y with ⟨rfl, r⟩ | ⟨T, o, hT, no, rfl, r⟩
          · exact key F2 A2 (Step.refl ..) r hD2 hF2
          · have hTD : D ≠ T := ne_of_none hD2 hT
            exact key (upd F2 T o) (A2.newF hT o no) (VS.newF A2.sub hT o no).step r (by rw [upd_ne hTD]; exact hD2) (by rw [upd_ne hTD]; exact hF2)
      · have ei : i = xs.length := by omega
        subst ei
        rw [List.drop_length] at e3
        unfold compL at e3
        cases e3
        exact .inl ⟨it.stop F2 H2 s2 A2.sub _ (Nat.le_refl _), fin F2 H2 accV _ A2 s2 g2 hD2 hF2 r2 rfl⟩
end
end Rf

set_option Elab.async false
set_option linter.all false
set_option maxRecDepth 100000
set_option maxHeartbeats 4000000
namespace Rf
open PySem PySem.Spec PyProof.Rows L2
/-! ### an error's __init__: each field from its parameter -/
/-- self.f = p, for each field -/
def tIni (K : PySem.W.Frag) : List (Str × Nat) → TS
  | [] => tNext
  | r :: rs => tSeq (tOst K r.1 (tVar 0) (tVar r.2)) (tIni K rs)
/-- the text is that -/
def iniB (N : List Str) (vis : Str → Bool) : List (Str × Nat) → List Stmt → Bool
  | [], [] => true
  | r :: rs, .Assign [.Attribute (.Name x _) f _] (.Name y _) _ :: sts => decide (f = r.1) && decide (N[0]? = some x) && decide (N[r.2]? = some y) && vis x && vis y && !(x == ("__debug__" : Str)) && !(x == ("__classdict__" : Str)) && !(y == ("__debug__" : Str)) && !(y == ("__classdict__" : Str)) && iniB N vis rs sts
  | _, _ => false
theorem ini_pss {X : Cx} {vis : Str → Bool} (hv : ∀ x, vis x = true → Vis X.env.scope x) : ∀ (rs : List (Str × Nat)) (sts : List Stmt), iniB X.N vis rs sts = true → PSs X sts (tIni X.K rs)
  | [], [], _ => pss_nil
  | [], _ :: _, h => by cases h
  | _ :: _, [], h => by cases h
  | r :: rs, st :: sts, h => by
    unfold iniB at h
    split at h
    · rename_i h1 _; cases h1
    · rename_i q x f y h1 h2
      cases h1
      cases h2
      simp only [Bool.and_eq_true, decide_eq_true_eq, Bool.not_eq_true'] at h
      obtain ⟨⟨⟨⟨⟨⟨⟨⟨⟨rfl, n0⟩, n1⟩, v0⟩, v1⟩, d0⟩, c0⟩, d1⟩, c1⟩, hr⟩ := h
      exact pss_cons (ps_ost (pe_var n0 (hv _ v0) d0 c0) (pe_var n1 (hv _ v1) d1 c1)) (ini_pss hv rs sts hr)
    · cases h
/-- what the stores leave -/
theorem ini_old {K : PySem.W.Frag} {C a d : Addr} {σ : L2.St} {D : Ends} (T : OexC K C) (w : Nat → V) (h0 : σ[0]? = some (some (.ref a))) : ∀ (rs : List (Str × Nat)) (fs : List (Str × V)) (H : Hp), (∀ r ∈ rs, PySem.W.findIn K (.ref C) r.1 = some none) → (∀ r ∈ rs, σ[r.2]? = some (some (w r.2))) → fs.length + rs.length ≤ 900 → d ≠ a → H a = some (exo a C (some d)) → H d = some (exd d fs) →
    (∀ H', H' a = some (exo a C (some d)) → H' d = some (exd d ((rs.map fun r => (r.1, w r.2)).reverse ++ fs)) → (∀ b, b ≠ d → H' b = H b) → D.nx σ H') → tIni K rs D σ H
  | [], fs, H, _, _, _, _, ea, ed, k => k H ea ed fun _ _ => rfl
  | r :: rs, fs, H, hn, hw, hl, hda, ea, ed, k => by
    rw [List.length_cons] at hl
    refine ⟨w r.2, hw r (by simp), .ref a, h0, a, C, rfl, T, hn r (by simp), .inr ⟨d, fs, ea, ed, by omega, ?_⟩⟩
    refine ini_old T w h0 rs ((r.1, w r.2) :: fs) _ (fun x hx => hn x (List.mem_cons_of_mem _ hx)) (fun x hx => hw x (List.mem_cons_of_mem _ hx)) (by simp; omega) hda ?_ upd_same fun H' e1 e2 e3 => k H' e1 ?_ fun b hb => ?_
    · rw [upd_ne (Ne.symm hda)]; exact ea
    · rw [e2]; simp
    · rw [e3 b hb, upd_ne hb]
theorem ini_new {K : PySem.W.Frag} {C a : Addr} {σ : L2.St} {D : Ends} {H : Hp} (T : OexC K C) (w : Nat → V) (h0 : σ[0]? = some (some (.ref a))) (rs : List (Str × Nat)) (h1 : rs ≠ []) (hn : ∀ r ∈ rs, PySem.W.findIn K (.ref C) r.1 = some none) (hw : ∀ r ∈ rs, σ[r.2]? = some (some (w r.2))) (hl : rs.length ≤ 900) (ea : H a = some (exo a C none))
    (k : ∀ d H', H d = none → d ≠ a → H' a = some (exo a C (some d)) → H' d = some (exd d (rs.map fun r => (r.1, w r.2)).reverse) → (∀ b, b ≠ d → b ≠ a → H' b = H b) → D.nx σ H') : tIni K rs D σ H := by
  cases rs with
  | nil => exact absurd rfl h1
  | cons r rs =>
    rw [List.length_cons] at hl
    refine ⟨w r.2, hw r (by simp), .ref a, h0, a, C, rfl, T, hn r (by simp), .inl ⟨ea, fun d nd nda => ?_⟩⟩
    refine ini_old (d := d) T w h0 rs [(r.1, w r.2)] _ (fun x hx => hn x (List.mem_cons_of_mem _ hx)) (fun x hx => hw x (List.mem_cons_of_mem _ hx)) (by simp; omega) nda upd_same ?_ fun H' e1 e2 e3 => k d H' nd nda e1 ?_ fun b hb hb2 => ?_
    · rw [upd_ne nda, upd_same]
    · rw [e2]; simp
    · rw [e3 b hb, upd_ne hb2, upd_ne hb]
/-- the promise of such an __init__ -/
def spI (K : PySem.W.Frag) (C : Addr) (ns : List Str) : Sp := fun vs H Q _ => ∃ a ws, vs = .ref a :: ws ∧ ws.length = ns.length ∧ H a = some (exo a C none) ∧
  ∀ d H', H d = none → d ≠ a → H' a = some (exo a C (some d)) → H' d = some (exd d (ns.zip ws).reverse) → (∀ b, b ≠ d → b ≠ a → H' b = H b) → Q .non H'
theorem ini_ok {P : Program} {w : World} {K : PySem.W.Frag} {mg : Str → Option Value} {base : Heap} {x qual : Str} {params : Arguments} {body : List Stmt} {scope : Scope} {f C : Addr} {fd : FuncData} {N ps : List Str} {ns : List Str} {vis : Str → Bool} (F : FunD K x qual params body scope [] [] f fd) (S : FnScope N ps scope)
    (T : OexC K C) (hN : N = ps) (hp : ps.length = ns.length + 1) (h1 : ns ≠ []) (hl : ns.length ≤ 900) (hf : ∀ g ∈ ns, PySem.W.findIn K (.ref C) g = some none) (hv : ∀ x, vis x = true → Vis scope x)
    (hb : iniB N vis (ns.zipIdx 1) body = true) : FnOk P w K mg base C8.CX0 1 f fd ps (spI K C ns) := by
  refine F.ok S (fun vs H Q E ⟨a, ws, e, l, _⟩ => by rw [e, List.length_cons, l, hp]) fun cdv A outer s H vs Q E _ h => ?_
  obtain ⟨a, ws, rfl, l, ea, k⟩ := h
  refine ⟨tIni K (ns.zipIdx 1), ini_pss (X := cxOf C8.CX0 P w K mg base N qual scope f cdv A outer s H E) (vis := vis) hv (ns.zipIdx 1) body hb, ?_⟩
  have hst : L2.start N (.ref a :: ws) = (V.ref a :: ws).map some := by
    unfold L2.start
    rw [hN, hp, List.length_cons, l, Nat.sub_self, List.replicate_zero, List.append_nil]
  have hw : ∀ r ∈ ns.zipIdx 1, (L2.start N (.ref a :: ws))[r.2]? = some (some ((V.ref a :: ws).getD r.2 .non)) := fun r hr => by
    have := List.snd_lt_of_mem_zipIdx hr
    rw [hst, List.getElem?_map, List.getD_eq_getElem?_getD, List.getElem?_eq_getElem (by rw [List.length_cons]; omega)]
    rfl
  refine ini_new T (fun i => (V.ref a :: ws).getD i .non) (by rw [hst]; rfl) (ns.zipIdx 1) (by cases ns with | nil => exact absurd rfl h1 | cons _ _ => simp) (fun r hr => hf _ (List.fst_mem_of_mem_zipIdx hr)) hw (by simpa using hl) ea fun d H' nd nda e1 e2 e3 => k d H' nd nda e1 ?_ e3
  have : ((ns.zipIdx 1).map fun r => (r.1, (V.ref a :: ws).getD r.2 .non)) = ns.zip ws := by
    apply List.ext_getElem
    · simp [l]
    · intro i h1 h2
      simp only [List.getElem_map, List.getElem_zipIdx, List.getElem_zip]
      congr 1
      rw [List.getD_eq_getElem?_getD, Nat.add_comm, List.getElem?_cons_succ]
      simp at h1
      rw [List.getElem?_eq_getElem (by omega)]
      rfl
  rw [← this]
  exact e2
/-- what the making of an error asks and gives -/
def tErr (C : Addr) (ns : List Str) (ta : TA) : L2.St → Hp → XK → Prop := fun σ H Q => ta σ H fun vs H1 => vs.length = ns.length ∧ vs.length ≤ 900 ∧ ∀ d, H1 d = none → Q (.ref C) (some d) (upd H1 d (.xd (ns.zip vs).reverse))
theorem pmkN {X : Cx} {x : Str} {C fI : Addr} {fd : FuncData} {ps ns : List Str} {p q : Pos} {pa : Expr} {es : List Expr} {ta : TA} (T : OexC X.K C) (iC : PySem.W.findIn X.K (.ref C) "__init__" = some (some (.ref fI))) (tI : PySem.W.typeIn X.K (.ref fI) = some (.type "function"))
    (o : FnOk X.prog X.w X.K X.mg X.base C8.CX0 1 fI fd ps (spI X.K C ns)) (room : Room 2 X.A) (b : Binds X.K fd ps []) (gl : Gl X x) (hm : X.mg x = some (.ref C)) (ha : PA X (pa :: es) ta) (hd : (x == ("__debug__" : Str)) = false)
    (st : starEach (pa :: es) X.env = (false, eval pa X.env) :: starEach es X.env) (pl : (backTo q (starEach es X.env)).any (·.1) = false) : L2N.PMk X (.Call (.Name x p) (pa :: es) [] q) (tErr C ns ta) := by
  intro pins s σ H Q I h
  obtain ⟨_, _, _, _, bm, _, _, _, _, _, _, _, _, _, _, lC, ve⟩ := T.cls
  refine wpAny_Call_Name_kw (ld_glob I gl hm (PySem.W.callWith_K (h₀ := X.base) I.ok.mod.kin T.kC (thn (ha.run q pins s σ H _ I h) fun us s1 hh => ?_) st pl) hd)
  obtain ⟨vs, H1, J, r, hl, h9, k⟩ := hh
  refine ⟨J.kIn, ?_⟩
  obtain ⟨hp, g, dr, tk, os⟩ := s1
  generalize ea : hp.objs.size + 1 = a
  have above : hp.objs.size ≤ a := ea ▸ Nat.le_succ _
  have na : H1 a = none := J.hok.fresh above
  have keep : ∀ c o, hp.get? c = some o → ((hp.push (PySem.W.kdv_tup us)).push (PySem.HandSPX.excO C hp.objs.size)).get? c = some o := fun c o e => Heap.get?_push_of_some _ (Heap.get?_push_of_some _ e)
  have there : ((hp.push (PySem.W.kdv_tup us)).push (PySem.HandSPX.excO C hp.objs.size)).get? a = some (PySem.HandSPX.excO C hp.objs.size) := by
    subst ea
    heap_get
  have J2 : Inv X pins σ (upd H1 a (exo a C none)) ⟨(hp.push (PySem.W.kdv_tup us)).push (PySem.HandSPX.excO C hp.objs.size), g, dr, tk, os⟩ := J.laid (t' := tk) (a := a) (o := exo a C none) keep above (exo_ok there)
  have rr : Vals (V.ref a :: vs) (Value.ref a :: us) := .cons rfl r
  -- what __init__ is to leave
  have want : spI X.K C ns (.ref a :: vs) (upd H1 a (exo a C none)) (fun v H2 => v = .non ∧ ∃ d, H2 a = some (exo a C (some d)) ∧ H2 d = some (exd d (ns.zip vs).reverse) ∧ H1 d = none ∧ d ≠ a ∧ ∀ c, c ≠ d → c ≠ a → H2 c = H1 c) noE :=
    ⟨a, vs, rfl, hl, upd_same, fun d H' nd nda e1 e2 e3 => ⟨rfl, d, e1, e2, by rwa [upd_ne nda] at nd, nda, fun c h1 h2 => by rw [e3 c h1 h2, upd_ne h2]⟩⟩
  have len2 : ((Value.ref a :: us) ++ []).length = ps.length := by rw [List.append_nil, ← o.len _ _ _ _ want]; exact rr.length.symm
  have hb := b _ (Value.ref a :: us) J2.kIn len2
  rw [List.append_nil] at hb
  have few : us.length ≤ sizeLine := by
    have := Paired.length r
    rw [sizeLine_eq]
    omega
  subst ea
  refine wpAny_call (PySem.HandSPX.call_own F.excBase_ValueError (fun Y => PySem.HandSPX.refsVE_contains Y bm ve) (J.kIn _ _ lC) (PySem.W.looks_findIn J.kIn iC) (fun self => PySem.W.bind_fn J.kIn self tI) few
    (codeAny_mono (o.run _ X.stack _ _ _ _ _ _ noE (room.make C us []) (J2.env0.make C us []) hb rr want) fun res t ht => ?_))
  match res, ht with
  | .error _, ht => exact (show False from ht).elim
  | .ok .next, ht => exact (show False from ht).elim
  | .ok .brk, ht => exact (show False from ht).elim
  | .ok .cont, ht => exact (show False from ht).elim
  | .ok (.ret u), ht =>
    obtain ⟨v, H2, os2, bare2, un2, hok2, rv, ev, d, e1, e2, nd, nda, e3⟩ := ht
    subst ev
    obtain ⟨h2, g2, d2, t2, os'⟩ := t
    obtain ⟨t0, G, J3, kG, ge, hoe, na3⟩ := mk_end0 (d2 := d2) (t2 := t2) J above keep un2 hok2 os2 bare2 e1 e2 nd
    have eH : upd (del H2 (hp.objs.size + 1)) d (.xd (ns.zip vs).reverse) = upd H1 d (.xd (ns.zip vs).reverse) := by
      funext c
      by_cases h1 : c = d
      · rw [h1, upd_same, upd_same]
      · rw [upd_ne h1, upd_ne h1]
        by_cases h2 : c = hp.objs.size + 1
        · rw [h2, del_same]; exact na.symm
        · rw [del_ne h2, e3 c h1 h2]
    rw [eH] at J3 na3
    exact ⟨rv, _, _, _, ⟨G, g2, d2, t2, os'⟩, _, .ref C, some d, rfl, J3, kG, ge, hoe, ⟨rfl, rfl, fun ws e => by cases e; rfl⟩, rfl, rfl, na3, rfl, bare2, raises_own T.exC T.tyC, k d nd⟩
/-! ### raise -/
/-- what a raise needs of its class -/
structure ExF (P : Program) (w : World) (K : PySem.W.Frag) (mg : Str → Option Value) (base : Heap) (c : Str) (ns : List Str) : Prop where
  few : ns.length ≤ 900
  own : OexC K (He.ga K c)
  glo : mg c = some (.ref (He.ga K c))
  ini : ∃ fI fd ps, PySem.W.findIn K (.ref (He.ga K c)) "__init__" = some (some (.ref fI)) ∧ PySem.W.typeIn K (.ref fI) = some (.type "function") ∧ FnOk P w K mg base C8.CX0 1 fI fd ps (spI K (He.ga K c) ns) ∧ Binds K fd ps []
section
variable [Tb] [Wi]
theorem i_raise {X : Cx} {cx : CtxR} {C : Str} {ns : List Str} {ms : EM (List D)} {p q pos : Pos} {pa : Expr} {es : List Expr} (calm : X.calm = true) (tk : L2N.Takes X fun c d _ H => Wi.E c d H) (hl : cx.exc.lookup C = some ns) (f : ExF X.prog X.w X.K X.mg X.base C ns) (room : Room 2 X.A)
    (gl : Gl X C) (hd : (C == ("__debug__" : Str)) = false) (ha : PA X (pa :: es) (rA X.K ms)) (hs : (pa :: es).all notStar = true) : PS X (.Raise (some (.Call (.Name C p) (pa :: es) [] q)) none pos) (rS X.K (mRaise cx C ms)) := by
  rw [List.all_cons, Bool.and_eq_true] at hs
  obtain ⟨fI, fd, ps, i1, i2, i3, i4⟩ := f.ini
  refine PS.weak (L2N.ps_raise calm tk (pmkN f.own i1 i2 i3 room i4 gl f.glo ha hd (star_cons hs.1) (star_plain hs.2))) fun D σ H h => ?_
  obtain ⟨F, Γ, A, k⟩ := h
  unfold mRaise at k
  split at k
  · rename_i ds Γ1 e1
    rw [hl] at k
    dsimp only at k
    split at k
    · rename_i hn
      refine ⟨F, Γ, ds, Γ1, A, e1, fun vs F1 H1 s1 A1 g1 r1 => ?_⟩
      have hv : vs.length = ns.length := by rw [hn, r1.len]
      refine ⟨hv, by rw [hv]; exact f.few, fun d nd => ?_⟩
      refine k _ _ F1 _ (s1.new (dom_none s1 d nd)) (A1.sub.trans (same_upd nd)) (tabs_new A1.tab nd) ⟨rfl, d, vs, rfl, dom_none s1 d nd, A1.sub.free nd, upd_same, hv.symm, r1⟩
    · exact k.elim
  · exact k.elim
end
end Rf

set_option Elab.async false
set_option linter.all false
set_option maxRecDepth 100000
set_option maxHeartbeats 1000000
namespace Rf
open PySem PySem.Spec PyProof.Rows L2
variable [Tb] [Wi]
section
variable {K : PySem.W.Frag} {mg : Str → Option Value} {cx : CtxR} {F H F' H' F1 H1 H0 : Hp} {σ σ' σ1 : L2.St} {Γ Γ' Γ1 Γ2 Γ3 Γ4 ΓL : En} {v : V} {d x : D} {ds xs : List D} {Q : VK} {X : Cx} {i j l : Nat} {pos p2 p3 tpos : Pos} {D0 : Ends} {pe tg pa pb pc iter elt : Expr} {ifs : List Expr} {body : List Stmt} {kk : Nat} {elts : List Expr} {ls : Option Nat} {sl vs : List Nat} {t : T}

theorem c_none : PTs X [] (rT X.K (EM.ret true)) := ⟨fun pins s σ H Q I q => pts_nil.run pins s σ H Q I (by
  obtain ⟨F, Γ, r, Γ', A, e, k⟩ := q
  obtain ⟨rfl, rfl⟩ := ret_ok e
  exact k F H (Step.refl ..) A (ES.refl _))⟩
theorem s_comp {scope : Scope} {own : List (Str × Nat)} {mi : EM (Option Nat × List D)} {mc : EM Bool} {me : EM D} (hc : X.calm = true) (hN : X.N.Nodup) (hi : PI X tg iter (rI X.K mi)) (ok : BlkOk X.N X.env.scope scope own)
    (hg : ∀ (s : Shared) (H : Hp) (C : Addr) (cl : List (Str × Addr)) (fp : List Addr), PG (X.blk s H scope (compEnvC scope cl C X.env) fp) tg (rG X.K sl (asgT t))) (ht : ∀ (s : Shared) (H : Hp) (C : Addr) (cl : List (Str × Addr)) (fp : List Addr), PTs (X.blk s H scope (compEnvC scope cl C X.env) fp) ifs (rT X.K mc))
    (he : ∀ (s : Shared) (H : Hp) (C : Addr) (cl : List (Str × Addr)) (fp : List Addr), PE (X.blk s H scope (compEnvC scope cl C X.env) fp) elt (rD X.K me)) (hs : notSet iter = true) (hsl : ∀ j ∈ sl, j ∈ own.map (·.2)) (hts : ∀ j ∈ t.slots, j ∈ own.map (·.2)) :
    PE X (.ListComp elt [⟨tg, iter, ifs, 0⟩] scope pos) (rE X.K (mComp t (own.map (·.2)) mi mc me)) :=
  PE.weak (pe_lc hc hN hi ok hg ht he fun x => fold_plain hs x) fun σ H Q q => rd_comp hsl hts q
theorem i_comp {scope : Scope} {own : List (Str × Nat)} {mi : EM (Option Nat × List D)} {mc : EM Bool} {me : EM D} {y : Str} {py spos : Pos} (hc : X.calm = true) (hN : X.N.Nodup) (hy : X.N[i]? = some y) (hyl : X.env.scope.names.lookup y = some .local)
    (hsw : swapsWith (.ListComp elt [⟨tg, iter, ifs, 0⟩] scope pos) (some (.Name y py)) spos.line X.env = pure true) (hi : PI X tg iter (rI X.K mi)) (ok : BlkOk X.N X.env.scope scope own)
    (hg : ∀ (s : Shared) (H : Hp) (C : Addr) (cl : List (Str × Addr)) (fp : List Addr), PG (X.blk s H scope (compEnvC scope cl C X.env) fp) tg (rG X.K sl (asgT t))) (ht : ∀ (s : Shared) (H : Hp) (C : Addr) (cl : List (Str × Addr)) (fp : List Addr), PTs (X.blk s H scope (compEnvC scope cl C X.env) fp) ifs (rT X.K mc))
    (he : ∀ (s : Shared) (H : Hp) (C : Addr) (cl : List (Str × Addr)) (fp : List Addr), PE (X.blk s H scope (compEnvC scope cl C X.env) fp) elt (rD X.K me)) (hs : notSet iter = true) (hsl : ∀ j ∈ sl, j ∈ own.map (·.2)) (hts : ∀ j ∈ t.slots, j ∈ own.map (·.2)) :
    PS X (.Assign [.Name y py] (.ListComp elt [⟨tg, iter, ifs, 0⟩] scope pos) spos) (rS X.K fun Γ => match mComp t (own.map (·.2)) mi mc me Γ with
    | .no => .no
    | .ok r Γ1 => match setV i r Γ1 with
      | some Γ2 => .nx Γ2
      | none => .no) := PS.weak (ps_setLc hc hN hy hyl hsw hi ok hg ht he fun x => fold_plain hs x) fun D σ H q => by
  obtain ⟨F, Γ, A, q⟩ := q
  dsimp only at q
  refine rd_comp hsl hts ?_
  cases e : mComp t (own.map (·.2)) mi mc me Γ with
  | no => rw [e] at q; exact q.elim
  | ok r Γ1 =>
    rw [e] at q
    dsimp only at q
    cases e2 : setV i r Γ1 with
    | none => rw [e2] at q; exact q.elim
    | some Γ2 =>
      rw [e2] at q
      refine ⟨F, Γ, r, Γ1, A, e, fun v F1 H1 s1 A1 g1 r1 => ?_⟩
      obtain ⟨A2, ss, _⟩ := A1.store e2 r1 (fresh_free A g1 r1)
      exact q _ F1 H1 s1 A2 (SS.trans g1.ss ss fun _ h => h)

theorem i_asgG {me : EM R} {xf : En → Option Xc} {m : R → En → Option En} (he : PE X pe (rE X.K me)) (hx : PE X pe (rX X.K xf)) (hg : PG X tg (rG X.K sl m)) (hs : swapsWithSole [tg] pe pos.line X.env = pure false) (hw : swappedStores [tg] pe X.env = pure none) (ht : notStar tg = true) : PS X (.Assign [tg] pe pos) (rS X.K fun Γ => match me Γ with
    | .no => xrf xf Γ
    | .ok r Γ1 => match m r Γ1 with
      | some Γ2 => .nx Γ2
      | none => .no) := PS.weak (ps_asg (PE.or he hx) hg hs hw (asg1 ht)) fun D σ H q => by
  obtain ⟨F, Γ, A, q⟩ := q
  dsimp only at q
  cases e : me Γ with
  | no => rw [e] at q; exact .inr (FlQ.x A q).any
  | ok r Γ1 =>
    rw [e] at q
    dsimp only at q
    cases e2 : m r Γ1 with
    | none => rw [e2] at q; exact q.elim
    | some Γ2 =>
      rw [e2] at q
      exact .inl ⟨F, Γ, r, Γ1, A, e, fun v F1 H1 s1 A1 g1 r1 => ⟨F1, Γ1, r, Γ2, H, A1, r1, fresh_free A g1 r1, e2, fun σ' A' ss _ _ => q σ' F1 H1 s1 A' (g1.ss.trans ss fun _ h => h)⟩⟩
/-- name = [..]: whether the store happens within the block -/
def inBlk (sc scope : Scope) (y : Str) (py pos : Pos) : Bool := decide (sc.names.lookup y = some .local) && (py.line == pos.line) && !(scope.names.any fun (n, k) => n == y && (k == .local || k == .cell))
theorem inBlk_no {sc scope : Scope} {env : PySem.Env} {y : Str} {py cpos : Pos} {gs : List Comprehension} {l : Nat} (hs : env.scope = sc) (hk : sc.kind = .function) (h : inBlk sc scope y py cpos = false) : swapsWith (.ListComp elt gs scope cpos) (some (.Name y py)) l env = pure false := by
  have hb : env.blockKind = .function := by unfold Env.blockKind; rw [hs, hk]; rfl
  unfold inBlk at h
  unfold swapsWith
  simp only [hb, Env.kindOf, hs, Expr.pos]
  refine congrArg pure ?_
  rw [← h]
  cases sc.names.lookup y with
  | none => rfl
  | some k => cases k <;> rfl
theorem inBlk_yes {sc scope : Scope} {env : PySem.Env} {y : Str} {py cpos : Pos} {gs : List Comprehension} {l : Nat} (hs : env.scope = sc) (hk : sc.kind = .function) (h : inBlk sc scope y py cpos = true) : sc.names.lookup y = some .local ∧ swapsWith (.ListComp elt gs scope cpos) (some (.Name y py)) l env = pure true := by
  unfold inBlk at h
  simp only [Bool.and_eq_true, decide_eq_true_eq, Bool.not_eq_true'] at h
  obtain ⟨⟨h1, h2⟩, h3⟩ := h
  exact ⟨h1, sw_true (by rw [hs]; exact hk) (by rw [hs]; exact h1) h2 h3⟩

/-! ### dict displays -/
def DctOk (X : Cx) (pos : Pos) (keys : List (Option Expr)) (values : List Expr) (ks : List Str) (ms : EM (List D)) : Prop :=
  ∃ trs, PPs X pos keys values trs ∧ ∀ σ H Q, rA X.K ms σ H (fun vs H1 => Q ((ks.map V.str).zip vs) H1) → tPairs trs σ H Q
theorem d_nil : DctOk X pos [] [] [] (EM.ret []) := ⟨[], pps_nil, fun σ H Q q => by
  obtain ⟨F, Γ, r, Γ', A, e, k⟩ := q
  obtain ⟨rfl, rfl⟩ := ret_ok e
  exact k [] F H (Step.refl ..) A (ES.refl _) .nil⟩
theorem d_cons {k : Str} {j : Nat} {keys : List (Option Expr)} {values : List Expr} {ks : List Str} {ma : EM D} {ms : EM (List D)} (ha : PE X pa (rD X.K ma)) (h : DctOk X pos keys values ks ms) :
    DctOk X pos (some (.Constant (.str k) j p2) :: keys) (pa :: values) (k :: ks) (ma.bind fun x => ms.bind fun xs => EM.ret (x :: xs)) := by
  obtain ⟨trs, h1, h2⟩ := h
  refine ⟨_, pps_cons (pe_str (x := k)) ha h1, fun σ H Q q => ?_⟩
  obtain ⟨F, Γ, r, Γ', A, e, k⟩ := q
  obtain ⟨x, Γ1, e1, e⟩ := bind_ok e
  obtain ⟨xs, Γ2, e2, e⟩ := bind_ok e
  obtain ⟨rfl, rfl⟩ := ret_ok e
  refine ⟨F, Γ, x, Γ1, A, e1, fun v F1 H1 s1 A1 g1 r1 => h2 _ _ _ ⟨F1, Γ1, xs, _, A1, e2, fun vs F2 H2 s2 A2 g2 r2 => ?_⟩⟩
  exact k (v :: vs) F2 H2 (s1.trans s2 fun z q => .inl (g1.mu q)) A2 (g1.trans g2) (.cons (r1.up s2.fs) r2)
theorem merge_new : ∀ (l acc : List (Key × V)), ((acc ++ l).map (·.1)).Nodup → mergeK acc l = acc ++ l
  | [], acc, _ => by unfold mergeK; simp
  | p :: l, acc, h => by
    have h1 : valV acc p.1 = none := by
      unfold valV
      rw [List.find?_eq_none.mpr fun q hq z => ?_]
      · rfl
      · rw [List.map_append, List.nodup_append] at h
        exact h.2.2 q.1 (List.mem_map_of_mem hq) p.1 (by simp) (by simpa using z)
    have ih := merge_new l (acc ++ [p]) (by rw [List.append_assoc]; exact h)
    rw [List.append_assoc] at ih
    show mergeK (putK acc p.1 p.2) l = _
    rw [putK_new _ h1]
    exact ih
theorem zip_keys : ∀ (ks : List Str) (vs : List V), (ks.map V.str).zip vs = ((ks.map (Sum.inr : Str → Key)).zip vs).map fun kv => (kV kv.1, kv.2)
  | [], vs => rfl
  | k :: ks, [] => rfl
  | k :: ks, v :: vs => by
    have ih := zip_keys ks vs
    rw [List.map_cons, List.map_cons, List.zip_cons_cons, List.zip_cons_cons, List.map_cons, ih]
    rfl
theorem s_dct {keys : List (Option Expr)} {values : List Expr} {ks : List Str} {ms : EM (List D)} (h : DctOk X pos keys values ks ms) (hall : keys.all (·.isSome) = true) (hl : keys.length = values.length) (h0 : keys ≠ []) (h15 : keys.length ≤ 15) :
    PE X (.Dict keys values pos) (rE X.K (ms.bind fun ds => EM.opt (if ds.length = ks.length && decide (ks.length ≤ 15) && decide ks.Nodup then some (.m (.dct (ks.map Sum.inr) ds)) else none))) := by
  obtain ⟨trs, h1, h2⟩ := h
  refine PE.weak (pe_disp h1 hall hl h0 h15) fun σ H Q q p hp => ?_
  obtain ⟨F, Γ, r, Γ', A, e, k⟩ := q
  obtain ⟨xs, Γ1, e1, e⟩ := bind_ok e
  obtain ⟨e2, rfl⟩ := opt_ok e
  split at e2
  case isFalse => cases e2
  rename_i hh
  cases e2
  simp only [Bool.and_eq_true, decide_eq_true_eq] at hh
  obtain ⟨⟨hn, hk⟩, hd⟩ := hh
  have nmu : ¬ Mu σ Γ p := fun h => (Mu.there A h).1 hp
  refine h2 _ _ _ ⟨F, Γ, xs, Γ', A.newH hp _, e1, fun vs F1 H1 s1 A1 g1 r1 => ?_⟩
  have hp1 : H1 p = some (.dK []) := s1.hs p _ upd_same nmu fun _ z => (nomatch z)
  have fp : F1 p = none := by rw [s1.fn p nmu (by rw [upd_same]; simp)]; exact A.sub.free hp
  have lens : (ks.map (Sum.inr : Str → Key)).length = vs.length := by rw [List.length_map, r1.len, hn]
  refine ⟨hp1, (ks.map (Sum.inr : Str → Key)).zip vs, zip_keys ks vs, ?_, ?_⟩
  · rw [List.length_zip, List.length_map]; omega
  · have em : mergeK [] ((ks.map (Sum.inr : Str → Key)).zip vs) = (ks.map (Sum.inr : Str → Key)).zip vs := by
      refine (merge_new _ [] ?_).trans (List.nil_append _)
      rw [List.nil_append, List.map_fst_zip (Nat.le_of_eq lens)]
      exact List.Pairwise.map _ (fun a b h z => h (Sum.inr.inj z)) hd
    rw [em]
    have s0 : Step F H (Mu σ Γ) F1 H1 := ((Step.refl F H (Mu σ Γ)).new hp).trans s1 fun x h => .inl h
    have nh : ∀ a, Held σ Γ' a → ¬ a = p := fun a ha hz => by
      subst hz
      obtain ⟨i, s, m, z1, z2, z3⟩ := ha
      exact A.hold g1 hp i s m z1 z2 z3
    exact k (.ref p) F1 _ (s0.trans (step_own A1.sub fp) fun x h => .inr (h ▸ hp)) (A1.step (step_own A1.sub fp) (tabs_chg A1.tab hp1 NoTC.dK fun b hb => upd_ne hb) (same_own A1.sub fp) nh) g1 ⟨p, rfl, hp, fp, vs, upd_same, lens, r1⟩
theorem s_dct0 : PE X (.Dict [] [] pos) (rE X.K ((lS []).bind fun ds => EM.opt (if ds.length = ([] : List Str).length && decide (([] : List Str).length ≤ 15) && decide ([] : List Str).Nodup then some (.m (.dct (([] : List Str).map Sum.inr) ds)) else none))) := by
  refine PE.weak pe_dnewK fun σ H Q q p hp => ?_
  obtain ⟨F, Γ, r, Γ', A, e, k⟩ := q
  obtain ⟨xs, Γ1, e1, e⟩ := bind_ok e
  obtain ⟨e2, rfl⟩ := opt_ok e
  obtain ⟨rfl, rfl⟩ := ret_ok e1
  cases e2
  have nmu : ¬ Mu σ Γ' p := fun h => (Mu.there A h).1 hp
  have fp : F p = none := A.sub.free hp
  exact k (.ref p) F _ ((Step.refl F H (Mu σ Γ')).new hp) (A.newH hp _) (ES.refl _) ⟨p, rfl, hp, fp, [], upd_same, rfl, .nil⟩
/-! ### list(range(n)) -/
def mLr (ma : EM D) : EM R := (ma.bind fun x => EM.ret [x]).bind fun ds => EM.opt (bltD .lrange ds)
theorem s_lrange {ma : EM D} (hc : X.calm = true) (hg : Gl X "list") (hm : X.mg "list" = none) (hg2 : Gl X "range") (hm2 : X.mg "range" = none) (ha : PE X pa (rP X.K ma)) (hn : notStar pa = true) :
    PE X (.Call (.Name "list" p2) [.Call (.Name "range" p3) [pa] [] tpos] [] pos) (rE X.K (mLr ma)) :=
  PE.weak (pe_listRg hc hg hm (prg_1 hg2 hm2 ha (star_cons hn))) fun σ H Q q => by
    obtain ⟨F, Γ, r, Γ', A, e, k⟩ := q
    obtain ⟨xs, Γ1, e1, e⟩ := bind_ok e
    obtain ⟨x, Γ2, e1, e0⟩ := bind_ok e1
    obtain ⟨rfl, rfl⟩ := ret_ok e0
    obtain ⟨e2, rfl⟩ := opt_ok e
    have e2 : bLrange [x] = some r := e2
    refine ⟨F, Γ, x, _, A, e1, fun v F1 H1 s1 A1 g1 r1 => ?_⟩
    cases x with
    | int n =>
      unfold bLrange at e2
      dsimp only at e2
      split at e2
      · rename_i hh
        cases e2
        cases r1.int
        simp only [Bool.and_eq_true, decide_eq_true_eq] at hh
        refine ⟨n, rfl, ⟨by omega, by omega, by omega, by omega, by omega⟩, fun q hq => ?_⟩
        have fq := A1.sub.free hq
        refine k (.ref q) F1 _ (s1.new (dom_none s1 q hq)) (A1.newH hq _) g1 ⟨q, rfl, dom_none s1 q hq, fq, _, upd_same, ?_⟩
        have e3 : rgV 0 n = ((List.range n.toNat).map fun (k : Nat) => (k : Int)).map V.int := by
          unfold rgV
          simp
        have e4 : ((List.range n.toNat).map fun (k : Nat) => D.int (k : Int)) = ((List.range n.toNat).map fun (k : Nat) => (k : Int)).map D.int := by simp
        rw [e3, e4]
        exact Reps.intsF F1 _
      · cases e2
    | _ => cases e2
end
end Rf

set_option Elab.async false
set_option linter.all false
set_option maxRecDepth 100000
set_option maxHeartbeats 4000000
namespace Rf
open PySem PySem.Spec PyProof.Rows L2
variable [Tb] [Wi]

/-! ### sorted(set(..)) of a list of ints -/
abbrev nSet (w : World) : Obj := { cls := .type "set", dict := none, data := .set #[] 0 (.fresh 0 0 (!w.params.followText "set-order")) }
section
variable {P : Program} {w : World} {A : Around} {E : Value → Shared → Prop} {s : Shared}
/-- the set's __init__ over a list of ints -/
def SetDone (w : World) (s : Shared) (ns : List Int) (s2 : Shared) : Prop := ∃ h' tk c, s2 = { s with heap := h', toks := tk } ∧ SetR w h' s.heap.objs.size (fun j => decide (j ∈ ns)) c ∧ c ≤ ns.length ∧ ∀ b o, s.heap.get? b = some o → h'.get? b = some o
theorem set_of_list {l : Addr} {items : Array Value} (ns : List Int) {Q : Value → Shared → Prop} (hh : A.handled = none) (hl : s.heap.IsList l items) (hit : IntsAre items.toList ns) (hb : ns.length + 1 < scanBound)
    (h : ∀ s2, SetDone w s ns s2 → Q (.ref s.heap.objs.size) s2) : wpAny (model P w) A (call (.type "set") [.ref l]) Q E s := by
  have size : items.size = ns.length := by have q := IntsAre.length hit; rw [Array.length_toList] at q; exact q
  obtain ⟨c0, tl0, mro⟩ := F.called_set.mro
  have made := F.called_set.made; have sub := F.called_set.sub
  refine wpAny_call (codeAny_of_tree ?_)
  show wpAny _ _ (callAny (.type "set") _) _ _ _; refine wpAny_pure ⟨Code.quiet_builtin _ (by decide +kernel), codeAny_builtin F.entry_type_call ?_⟩
  rw [Around.under_plain (weight_type_call_type "set" [.ref l] []) rfl]
  have c1 := F.called_set.notType; have c2 := F.called_set.canCreate; have c3 := F.typeCall_set_1 (.ref l)
  repeat (any_goals (first | assumption | wp_step))
  refine codeAny_mono (code_set_led1 (.ref l) (E := E) (Q₁ := fun v s1 => v = .ref s.heap.objs.size ∧ s1 = { s with heap := s.heap.push (nSet w) }) ⟨rfl, rfl⟩) fun res s1 hres => ?_
  rcases res with er | fl
  · exact hres
  cases fl with
  | ret v =>
    obtain ⟨rfl, rfl⟩ := hres
    have at0 : (s.heap.push (nSet w)).get? s.heap.objs.size = some (nSet w) := Heap.get?_push_size _ rfl
    have ty0 : Shared.TypeIs { s with heap := s.heap.push (nSet w) } (.ref s.heap.objs.size) "set" := ⟨_, at0, rfl⟩
    have i1 := F.called_set.init.lookup; have i2 := F.called_set.init.bind (.ref s.heap.objs.size)
    repeat (any_goals (first | assumption | wp_step))
    refine codeAny_mono (codeAny_call_builtin (R := wants (fun r s2 => r = .none ∧ SetDone w s ns s2) E) F.called_set.init.plain F.entry_set_init (check_set_init_1 ty0 ?_)) fun res2 s2 hres2 => ?_
    · obtain ⟨⟨oc, od, dt, sl⟩, ho, e1, nl, e2⟩ := hl
      simp only at e1 e2; subst e1; subst e2
      have ho' : (s.heap.push (nSet w)).get? l = some ⟨.type "list", od, .seq items nl, sl⟩ := Heap.get?_push_of_some _ ho
      have n1 := F.sub_list_set; have n2 := F.sub_list_frozenset
      have n3 : (Value.type "list" == Value.type "dict") = false := by decide
      have il : (s.heap.push (nSet w)).IsList l items := ⟨_, ho', rfl, nl, rfl⟩
      unfold Builtin.«set.__init__» noKeywords Builtin.Frozenset.updateFrom; generalize hpi : pyIter = PI; wp_walk; subst hpi
      refine wpAny_pyIter_list il (wpAny_bind (wpAny_runValue ?_))
      have ll : l < s.heap.objs.size := Heap.lt_size ho
      have h3 : A.in1.in1.in1.handled = none := by simp [hh]
      have sz : (s.heap.push (nSet w)).objs.size = s.heap.objs.size + 1 := Heap.size_push ..
      have nI : l ≠ (s.heap.push (nSet w)).objs.size := by rw [sz]; exact Nat.ne_of_lt (Nat.lt_of_lt_of_le ll (Nat.le_succ _))
      have nF : s.heap.objs.size ∉ [(s.heap.push (nSet w)).objs.size, l] := by rw [sz]; simp only [List.mem_cons, List.not_mem_nil, or_false, not_or]; exact ⟨Nat.ne_of_lt (Nat.le_refl _), (Nat.ne_of_lt ll).symm⟩
      have val : ∀ (i : Nat) (v : Value), items[i]? = some v → ∃ k t, ns[i]? = some k ∧ v = .int k t := fun i v hv => by
        have hi : i < ns.length := by rw [← size]; exact (Array.getElem?_eq_some_iff.mp hv).1
        obtain ⟨t, e⟩ := PyProof.Rows.IntsAre.int_at hit i v (by rw [Array.getElem?_toList]; exact hv)
        exact ⟨ns[i], t, List.getElem?_eq_getElem hi, by rw [e, List.getD_eq_getElem?_getD, List.getElem?_eq_getElem hi] <;> rfl⟩
      refine set_update_ints ((Walks.list h3 _ l nI items).toS) s.heap.objs.size nF ns size hb val (items.size - 0) 0 _ (by omega) (Nat.zero_le _) ⟨⟨_, Heap.get?_push_size _ rfl, rfl, rfl⟩, (il.push _)⟩ ?g1 ?g2
      case g1 => exact ⟨0, Nat.le_refl 0, setR_new_at (Heap.get?_push_of_some _ at0)⟩
      case g2 =>
        intro s3 c hm hc hS
        obtain ⟨h', g2, d2, tk, os2⟩ := s3
        cases (show g2 = s.gens from hm.gens); cases (show d2 = s.drawn from hm.drawn); cases (show os2 = s.os from hm.os)
        show wpAny _ _ _ _ _ _; refine wpAny_pure ?_
        show wpAny _ _ (ret Value.none) _ _ _
        refine wpAny_pure ⟨rfl, h', tk, c, rfl, hS, by omega, fun b o e => ?_⟩
        have lt := Heap.lt_size e
        refine hm.heap b o ?_ (Heap.get?_push_of_some _ (Heap.get?_push_of_some _ e))
        simp only [List.mem_cons, List.mem_singleton, List.not_mem_nil, or_false, not_or]
        exact ⟨Nat.ne_of_lt lt, by rw [sz]; exact Nat.ne_of_lt (Nat.lt_of_lt_of_le lt (Nat.le_succ _))⟩
    · rcases res2 with er | fl2
      · exact hres2
      cases fl2 with
      | ret r =>
        obtain ⟨rfl, hd⟩ := hres2
        repeat (any_goals (first | assumption | wp_step))
        exact h _ hd
      | _ => exact hres2.elim
  | _ => exact hres.elim
end
section
variable {X : Cx} {pa : Expr} {p1 p2 p3 p4 : Pos} {ma : EM D}
def rSetI (K : PySem.W.Frag) (w : World) : List V → Hp → VK → Prop := fun xs H Q => ∃ (l : Addr) (ns : List Int), xs = [V.ref l] ∧ (SqL K H l (ns.map V.int) ∨ SqT K H l (ns.map V.int)) ∧ ns.length < 60 ∧ ∀ p c, H p = none → c ≤ ns.length → Q (.ref p) (upd H p (SetO w p (fun j => decide (j ∈ ns)) c))
theorem call_setI (hc : X.calm = true) : CallR X (.type "set") (rSetI X.K X.w) := by
  intro pins s σ H vs us Q I r h
  obtain ⟨l, ns, rfl, hq, hl, q⟩ := h
  rw [Vals.ref1 r]
  have hn : H s.heap.objs.size = none := I.hok.fresh (Nat.le_refl _)
  rcases hq with hq | hq
  · obtain ⟨its, rv, pl, hz⟩ := I.list hq
    refine set_of_list ns (I.ok.hd hc) pl.isList (by simpa using ints_of_vals rv) (by unfold scanBound; omega) fun s2 ⟨h', tk, c, e, hS, hcn, k⟩ => ?_
    subst e
    exact ⟨.ref s.heap.objs.size, _, I.laid k (Nat.le_refl _) (setO_new hS), rfl, q _ c hn hcn⟩
  · obtain ⟨its, rv, pl, hz⟩ := I.tuple hq
    exact call_set_tupI ns (I.ok.hd hc) (show s.heap.IsTuple l its.toArray from pl) (by simpa using ints_of_vals rv) (by unfold scanBound; omega) fun h' tk c hS hcn k => ⟨.ref s.heap.objs.size, _, I.laid k (Nat.le_refl _) (setO_new hS), rfl, q _ c hn hcn⟩
/-- len of a set of ints -/
theorem cr_lenI : CallR X (.builtin "len") (fun vs H Q => ∃ a S c, vs = [V.ref a] ∧ H a = some (SetO X.w a S c) ∧ ∀ ms : List Int, ms.Nodup → (∀ k, S k = true ↔ k ∈ ms) → Q (.int (ms.length : Nat)) H) := by
  intro pins s σ H vs us Q I r h
  obtain ⟨a, S, c, rfl, ha, q⟩ := h
  rw [Vals.ref1 r]
  obtain ⟨o, es, ep, t, ho, hex, hd, _, nd, hm, hb, hf, _⟩ := setO_get I ha
  have hl : (es.toList.map keyOf).length = es.size := by simp
  refine call_len_set ho hex hd hf (by unfold scanBound at hb; omega) ⟨.int (es.size : Nat), H, I.tok _, ⟨_, rfl⟩, ?_⟩
  have := q (es.toList.map keyOf) nd hm
  rw [hl] at this
  exact this
theorem ded_len {ns ms : List Int} (nd : ms.Nodup) (h : ∀ k, k ∈ ms ↔ k ∈ ns) : ms.length = (dedI ns).length := by
  have dm : ∀ (l : List Int) (k : Int), k ∈ dedI l ↔ k ∈ l := fun l => by
    induction l with
    | nil => intro k; rfl
    | cons x xs ih =>
      intro k
      unfold dedI
      split
      · rename_i hx
        rw [ih, List.mem_cons]
        exact ⟨.inr, fun z => z.elim (fun e => e ▸ List.contains_iff_mem.mp hx) id⟩
      · rw [List.mem_cons, List.mem_cons, ih]
  have dn : ∀ l : List Int, (dedI l).Nodup := fun l => by
    induction l with
    | nil => exact List.nodup_nil
    | cons x xs ih =>
      unfold dedI
      split
      · exact ih
      · rename_i hx
        exact List.nodup_cons.mpr ⟨fun z => hx (List.contains_iff_mem.mpr ((dm xs x).mp z)), ih⟩
  exact ((List.perm_ext_iff_of_nodup nd (dn ns)).mpr fun k => by rw [h k, dm]).length_eq
theorem sort_ded {ns ms : List Int} (p : ms.Pairwise (· < ·)) (h : ∀ k, k ∈ ms ↔ k ∈ ns) : ms = sortI (dedI ns) := by
  have dm : ∀ (l : List Int) (k : Int), k ∈ dedI l ↔ k ∈ l := by
    intro l
    induction l with
    | nil => intro k; rfl
    | cons x xs ih =>
      intro k
      unfold dedI
      split
      · rename_i hx
        rw [ih, List.mem_cons]
        exact ⟨.inr, fun z => z.elim (fun e => e ▸ List.contains_iff_mem.mp hx) id⟩
      · rw [List.mem_cons, List.mem_cons, ih]
  have dn : ∀ l : List Int, (dedI l).Nodup := by
    intro l
    induction l with
    | nil => exact List.nodup_nil
    | cons x xs ih =>
      unfold dedI
      split
      · exact ih
      · rename_i hx
        exact List.nodup_cons.mpr ⟨fun z => hx (List.contains_iff_mem.mpr ((dm xs x).mp z)), ih⟩
  refine sorted_one ?_ (p.imp fun h => Int.le_of_lt h)
  refine (List.perm_ext_iff_of_nodup (p.imp fun h z => by omega) (dn ns)).mpr fun k => ?_
  rw [h k, dm]
theorem s_sset (hc : X.calm = true) (hg : Gl X "sorted") (hm : X.mg "sorted" = none) (hg2 : Gl X "set") (hm2 : X.mg "set" = none) (ha : PE X pa (rP X.K ma)) (hn : notStar pa = true) :
    PE X (.Call (.Name "sorted" p1) [.Call (.Name "set" p2) [pa] [] p3] [] p4) (rE X.K ((ma.bind fun x => EM.ret [x]).bind fun ds => EM.opt (bltD .sset ds))) :=
  PE.weak (pe_callB (cr_sortedSet hc) hg hm PyProof.Rows.boot_sorted (pa_cons (pe_callTy (call_setI hc) hg2 hm2 PyProof.Rows.boot_set (pa_cons ha pa_nil (star_cons hn)) (by decide) (by decide) (star_cons hn) rfl) pa_nil) (by decide) (by decide)) fun σ H Q q => by
    obtain ⟨F, Γ, r, Γ', A, e, k⟩ := q
    obtain ⟨xs, Γ1, e1, e⟩ := bind_ok e
    obtain ⟨x, Γ2, e1, e0⟩ := bind_ok e1
    obtain ⟨rfl, rfl⟩ := ret_ok e0
    obtain ⟨e2, rfl⟩ := opt_ok e
    have e2 : bSset [x] = some r := e2
    refine ⟨F, Γ, x, _, A, e1, fun v F1 H1 s1 A1 g1 r1 => ?_⟩
    have key : ∀ ys, (x = .lst ys ∨ x = .tup ys) → bSset [.lst ys] = some r → rSetI X.K X.w [v] H1 fun x2 H2 => rSortedSet X.w [x2] H2 Q := by
      intro ys hx e2
      have e2 : (if ys.length < 60 then (allI ys).bind fun ns => some (R.m (.lst ((sortI (dedI ns)).map D.int))) else none) = some r := e2
      split at e2
      · rename_i hlen
        obtain ⟨ns, h1, h2⟩ := Option.bind_eq_some_iff.mp e2
        cases h2
        obtain ⟨a, vs, rfl, h3, h4⟩ : ∃ a vs, v = .ref a ∧ (SqL X.K H1 a vs ∨ SqT X.K H1 a vs) ∧ Reps X.K F1 vs ys := by
          rcases hx with rfl | rfl
          · obtain ⟨a, vs, rfl, h3, h4⟩ := r1.lst A1.sub
            exact ⟨a, vs, rfl, .inl (SqL.of h3), h4⟩
          · obtain ⟨a, vs, rfl, h3, h4⟩ := r1.tup
            exact ⟨a, vs, rfl, .inr (SqT.of (A1.sub _ _ h3)), h4⟩
        have hv := h4.ints h1
        subst hv
        refine ⟨a, ns, rfl, h3, by rw [← h4.len, List.length_map] at hlen; exact hlen, fun p c hp hcn => ?_⟩
        refine ⟨p, _, c, rfl, upd_same, Nat.lt_of_le_of_lt hcn (by rw [← h4.len, List.length_map] at hlen; omega), fun ms p2 hpw hmem hlm hp2 => ?_⟩
        have em := sort_ded (ns := ns) hpw fun k => by rw [hmem k, decide_eq_true_eq]
        have h1n := dom_none s1 p hp
        have np2 : H1 p2 = none := by
          by_cases hpp : p2 = p
          · subst hpp; rw [upd_same] at hp2; cases hp2
          · rwa [upd_ne hpp] at hp2
        refine k (.ref p2) F1 _ ((s1.new h1n).new (dom_none s1 p2 np2)) ((A1.newH hp _).newH hp2 _) g1 ⟨p2, rfl, dom_none s1 p2 np2, A1.sub.free np2, _, upd_same, ?_⟩
        rw [← em]
        exact Reps.intsF F1 ms
      · cases e2
    cases x with
    | lst ys => exact key ys (.inl rfl) e2
    | tup ys => exact key ys (.inr rfl) e2
    | _ => cases e2
theorem s_lset (hc : X.calm = true) (hg : Gl X "len") (hm : X.mg "len" = none) (hg2 : Gl X "set") (hm2 : X.mg "set" = none) (ha : PE X pa (rP X.K ma)) (hn : notStar pa = true) :
    PE X (.Call (.Name "len" p1) [.Call (.Name "set" p2) [pa] [] p3] [] p4) (rE X.K ((ma.bind fun x => EM.ret [x]).bind fun ds => EM.opt (bltD .lset ds))) :=
  PE.weak (pe_callB cr_lenI hg hm boot_len (pa_cons (pe_callTy (call_setI hc) hg2 hm2 PyProof.Rows.boot_set (pa_cons ha pa_nil (star_cons hn)) (by decide) (by decide) (star_cons hn) rfl) pa_nil) (by decide) (by decide)) fun σ H Q q => by
    obtain ⟨F, Γ, r, Γ', A, e, k⟩ := q
    obtain ⟨xs, Γ1, e1, e⟩ := bind_ok e
    obtain ⟨x, Γ2, e1, e0⟩ := bind_ok e1
    obtain ⟨rfl, rfl⟩ := ret_ok e0
    obtain ⟨e2, rfl⟩ := opt_ok e
    have e2 : bLset [x] = some r := e2
    refine ⟨F, Γ, x, _, A, e1, fun v F1 H1 s1 A1 g1 r1 => ?_⟩
    have key : ∀ ys, (x = .lst ys ∨ x = .tup ys) → bLset [.lst ys] = some r → rSetI X.K X.w [v] H1 fun x2 H2 => ∃ a S c, [x2] = [V.ref a] ∧ H2 a = some (SetO X.w a S c) ∧ ∀ ms : List Int, ms.Nodup → (∀ k, S k = true ↔ k ∈ ms) → Q (.int (ms.length : Nat)) H2 := by
      intro ys hx e2
      have e2 : (if ys.length < 60 then (allI ys).bind fun ns => some (R.d (.int ((dedI ns).length : Nat))) else none) = some r := e2
      split at e2
      · rename_i hlen
        obtain ⟨ns, h1, h2⟩ := Option.bind_eq_some_iff.mp e2
        cases h2
        obtain ⟨a, vs, rfl, h3, h4⟩ : ∃ a vs, v = .ref a ∧ (SqL X.K H1 a vs ∨ SqT X.K H1 a vs) ∧ Reps X.K F1 vs ys := by
          rcases hx with rfl | rfl
          · obtain ⟨a, vs, rfl, h3, h4⟩ := r1.lst A1.sub
            exact ⟨a, vs, rfl, .inl (SqL.of h3), h4⟩
          · obtain ⟨a, vs, rfl, h3, h4⟩ := r1.tup
            exact ⟨a, vs, rfl, .inr (SqT.of (A1.sub _ _ h3)), h4⟩
        have hv := h4.ints h1
        subst hv
        refine ⟨a, ns, rfl, h3, by rw [← h4.len, List.length_map] at hlen; exact hlen, fun p c hp hcn => ⟨p, _, c, rfl, upd_same, fun ms nd hmem => ?_⟩⟩
        have h1n := dom_none s1 p hp
        rw [ded_len (ns := ns) nd fun k => by rw [← hmem k, decide_eq_true_eq]]
        exact k _ F1 _ (s1.new h1n) (A1.newH hp _) g1 (.int _)
      · cases e2
    cases x with
    | lst ys => exact key ys (.inl rfl) e2
    | tup ys => exact key ys (.inr rfl) e2
    | _ => cases e2
end
end Rf

set_option Elab.async false
set_option linter.all false
set_option maxRecDepth 100000
set_option maxHeartbeats 1000000
namespace Rf
open PySem PySem.Spec PyProof.Rows L2
variable [Tb]
/-! ### repr(e) -/
theorem okr_lst {n : Nat} {ds : List D} : D.okr n (.lst ds) = true ↔ ∃ m, n = m + 1 ∧ D.okrs m ds = true := by
  cases n <;> simp [D.okr]
theorem okr_tup {n : Nat} {ds : List D} : D.okr n (.tup ds) = true ↔ ∃ m, n = m + 1 ∧ D.okrs m ds = true := by
  cases n <;> simp [D.okr]
theorem okr_dct {n : Nat} {ks : List Key} {ds : List D} (h : D.okr n (.dct ks ds) = true) : ks = [] ∧ ds = [] := by
  cases ks <;> cases ds <;> cases n <;> simp [D.okr] at h ⊢
mutual
theorem pr_ok : ∀ (d : D) (n : Nat), D.okr n d = true → d.pr.showable = true ∧ d.pr.depth ≤ n + 1
  | .non, n, _ => by simp [D.pr, PyData.showable, PyData.depth]
  | .bl b, n, _ => by simp [D.pr, PyData.showable, PyData.depth]
  | .int i, n, h => by
    have h : i.natAbs.log2 < 1920 := by cases n <;> simpa [D.okr] using h
    simp [D.pr, PyData.showable, PyData.depth, h]
  | .str x, n, _ => by simp [D.pr, PyData.showable, PyData.depth]
  | .lst ds, n, h => by
    obtain ⟨m, rfl, h⟩ := okr_lst.mp h
    have := prs_ok ds m h
    simp only [D.pr, PyData.showable, PyData.depth]
    exact ⟨this.1, by omega⟩
  | .tup ds, n, h => by
    obtain ⟨m, rfl, h⟩ := okr_tup.mp h
    have := prs_ok ds m h
    simp only [D.pr, PyData.showable, PyData.depth]
    exact ⟨this.1, by omega⟩
  | .dct ks ds, n, h => by simp [D.pr, PyData.showable, PyData.showableKv, PyData.depth, PyData.depthKv]
  | .ins _ _ _, n, h => by cases n <;> simp [D.okr] at h
  | .fn _, n, h => by cases n <;> simp [D.okr] at h
  | .scr _, n, h => by cases n <;> simp [D.okr] at h
  | .exc _, n, h => by cases n <;> simp [D.okr] at h
theorem prs_ok : ∀ (ds : List D) (n : Nat), D.okrs n ds = true → PyData.showableAll (D.prs ds) = true ∧ PyData.depthAll (D.prs ds) ≤ n + 1
  | [], n, _ => by simp [D.prs, PyData.showableAll, PyData.depthAll]
  | d :: ds, n, h => by
    rw [D.okrs, Bool.and_eq_true] at h
    have h1 := pr_ok d n h.1
    have h2 := prs_ok ds n h.2
    simp only [D.prs, PyData.showableAll, PyData.depthAll, Bool.and_eq_true]
    exact ⟨⟨h1.1, h2.1⟩, by omega⟩
end
section
variable {K : PySem.W.Frag} {F H : Hp} {v : V} {d : D} {X : Cx} {pins : List (Addr × Obj)} {σ : L2.St} {s : Shared}
/-- what is read is told of by H -/
def RdIn (h : Heap) (H : Hp) (u : Value) (d : PyData) : Prop := ∃ as, Reads h u d as ∧ ∀ a ∈ as, H a ≠ none
theorem rd_list {a : Addr} {vs : List V} {ds : List PyData} (I : Inv X pins σ H s) (e : H a = some (.lst vs)) (r : ∀ us, Vals vs us → ∃ as, ReadsAll s.heap us ds as ∧ ∀ a ∈ as, H a ≠ none) : RdIn s.heap H (.ref a) (.list ds) := by
  obtain ⟨its, rv, ⟨o, n, ho, hc, _, hd⟩, _⟩ := I.list (SqL.of e)
  obtain ⟨as, h1, h2⟩ := r its rv
  refine ⟨_, .list ho hc hd h1, fun b hb => ?_⟩
  rcases List.mem_cons.mp hb with rfl | hb
  · rw [e]; simp
  · exact h2 b hb
theorem rd_tuple {a : Addr} {vs : List V} {ds : List PyData} (I : Inv X pins σ H s) (e : H a = some (.tup vs)) (r : ∀ us, Vals vs us → ∃ as, ReadsAll s.heap us ds as ∧ ∀ a ∈ as, H a ≠ none) : RdIn s.heap H (.ref a) (.tuple ds) := by
  obtain ⟨its, rv, ⟨o, ho, hc, n, hd⟩, _⟩ := I.tuple (SqT.of e)
  obtain ⟨as, h1, h2⟩ := r its rv
  exact ⟨_, .tuple ho hc hd h1, h2⟩
theorem rd_none {a : Addr} (I : Inv X pins σ H s) (e : H a = some (.dK [])) : RdIn s.heap H (.ref a) (.dict []) := by
  obtain ⟨_, hd, vs, rel, o, es, ep, ho, hex, hdt, _, hp, _⟩ := dk_of I.hok e
  cases rel
  obtain ⟨es⟩ := es
  cases es with
  | cons _ _ => cases hp
  | nil => exact ⟨_, .dict (kvs := []) ho hex.1 hdt .nil .nil, fun b hb => by
      have hb : b ∈ [a] := by simpa using hb
      rw [List.mem_singleton.mp hb, e]; simp⟩
mutual
theorem rd_rep (I : Inv X pins σ H s) (b : Same F H) : ∀ {v : V} {d : D} {n : Nat} {u : Value}, Rep X.K F v d → D.okr n d = true → RelV v u → RdIn s.heap H u d.pr
  | _, _, _, u, .non, _, r => by cases (show u = .none from r); exact ⟨_, .none, fun a h => nomatch h⟩
  | _, _, _, u, .bl b, _, r => by cases (show u = .bool b from r); exact ⟨_, .bool b, fun a h => nomatch h⟩
  | _, _, _, u, .int i, _, r => by obtain ⟨t, rfl⟩ := (show ∃ t, u = .int i t from r); exact ⟨_, .int i t, fun a h => nomatch h⟩
  | _, _, _, u, .str x, _, r => by obtain ⟨t, rfl⟩ := (show ∃ t, u = .str x t from r); exact ⟨_, .str x t, fun a h => nomatch h⟩
  | _, _, n, u, .tup (a := a) h q, o, r => by
    obtain ⟨m, rfl, o⟩ := okr_tup.mp o
    cases (show u = .ref a from r)
    exact rd_tuple I (b _ _ h) fun us rv => rd_reps I b q o rv
  | _, _, n, u, .lst (a := a) h q, o, r => by
    obtain ⟨m, rfl, o⟩ := okr_lst.mp o
    cases (show u = .ref a from r)
    exact rd_list I (b _ _ h) fun us rv => rd_reps I b q o rv
  | _, _, n, u, .dct (a := a) h l q, o, r => by
    obtain ⟨rfl, rfl⟩ := okr_dct o
    cases (show u = .ref a from r)
    exact rd_none I (b _ _ h)
  | _, _, n, _, .ins _ _ _, o, _ => by cases n <;> simp [D.okr] at o
  | _, _, n, _, .fn _, o, _ => by cases n <;> simp [D.okr] at o
  | _, _, n, _, .scr _, o, _ => by cases n <;> simp [D.okr] at o
  | _, _, n, _, .exc _, o, _ => by cases n <;> simp [D.okr] at o
theorem rd_reps (I : Inv X pins σ H s) (b : Same F H) : ∀ {vs : List V} {ds : List D} {n : Nat} {us : List Value}, Reps X.K F vs ds → D.okrs n ds = true → Vals vs us → ∃ as, ReadsAll s.heap us (D.prs ds) as ∧ ∀ a ∈ as, H a ≠ none
  | _, _, _, _, .nil, _, .nil => ⟨_, .nil, fun a h => nomatch h⟩
  | _, _, n, _, .cons h q, o, .cons r1 r2 => by
    rw [D.okrs, Bool.and_eq_true] at o
    obtain ⟨as, h1, h2⟩ := rd_rep I b h o.1 r1
    obtain ⟨bs, h3, h4⟩ := rd_reps I b q o.2 r2
    exact ⟨_, .cons h1 h3, fun a ha => (List.mem_append.mp ha).elim (h2 a) (h4 a)⟩
end
/-- sys.modules stands apart -/
theorem no_sys (I : Inv X pins σ H s) {o : Obj} (h : X.K.lookup sysModules = some o) : H sysModules = none := by
  have h1 : X.base.get? sysModules = some o := I.mod.kin _ _ h
  obtain ⟨h2, h3⟩ := I.ok.bs _ _ h1
  exact I.base.free _ _ h2 h3 (I.ok.noex _ _ h1)
theorem rd_prep (I : Inv X pins σ H s) (b : Same F H) {n : Nat} {u : Value} (h : PRep X.K F H v d) (o : D.okr n d = true) (r : RelV v u) : RdIn s.heap H u d.pr := by
  cases d with
  | lst ds =>
    obtain ⟨a, vs, rfl, h1, h2⟩ := h.lst b
    obtain ⟨m, rfl, o⟩ := okr_lst.mp o
    cases (show u = .ref a from r)
    exact rd_list I h1 fun us rv => rd_reps I b h2 o rv
  | dct ks ds =>
    obtain ⟨a, vs, rfl, h1, h2, h3⟩ := h.dct b
    obtain ⟨rfl, rfl⟩ := okr_dct o
    cases (show u = .ref a from r)
    exact rd_none I h1
  | _ => exact rd_rep I b (h.scalV fun m => by cases m <;> simp [M.d] at o ⊢ <;> (cases n <;> simp [D.okr] at o)) o r
/-- what repr asks and gives -/
def rRepr (K : PySem.W.Frag) : List V → Hp → VK → Prop := fun vs H Q => ∃ F v d x, vs = [v] ∧ Same F H ∧ PRep K F H v d ∧ reprD d = some x ∧ Q (.str x) H
theorem call_repr {o : Obj} (hs : X.K.lookup sysModules = some o) (gu : X.A.guards = some []) (hu : X.A.units + 60 < cLine) : CallR X (.builtin "repr") (rRepr X.K) := by
  intro pins s σ H vs us Q I r h
  obtain ⟨F, v, d, x, rfl, b, hp, hx, q⟩ := h
  unfold reprD at hx
  split at hx
  · rename_i hc
    rw [Bool.and_eq_true, decide_eq_true_eq] at hc
    cases hx
    obtain ⟨h1, h2⟩ := pr_ok d 50 hc.1
    cases r with
    | cons r1 rr =>
      cases rr
      rename_i u
      obtain ⟨as, rd, ha⟩ := rd_prep I b hp hc.1 r1
      have hz : d.pr.shown.length ≤ sizeLine := by rw [sizeLine_eq]; omega
      have hsm : d.pr.hasDict = true → sysModules ∉ as := fun _ hm => ha _ hm (no_sys I hs)
      cases u with
      | ref a => exact PySem.repr_of_reads' rd h1 hsm gu (by omega) (fun _ _ e => e) (fun h' u tk k => ⟨.str _, H, I.kept k, ⟨_, rfl⟩, q⟩) hz
      | none =>
        cases hd : d.pr <;> rw [hd] at rd <;> cases rd
        rw [hd] at q
        exact PySem.P.repr_of_none ⟨.str _, H, I.tok _, ⟨_, rfl⟩, by simpa [PyData.shown] using q⟩
      | bool c =>
        cases hd : d.pr <;> rw [hd] at rd <;> cases rd
        rw [hd] at q
        exact PySem.P.repr_of_bool ⟨.str _, H, I.tok _, ⟨_, rfl⟩, by simpa [PyData.shown] using q⟩
      | int i t =>
        cases hd : d.pr <;> rw [hd] at rd <;> cases rd
        rw [hd] at q h1
        exact PySem.P.repr_of_int (by simpa [PyData.showable] using h1) ⟨.str _, H, I.tok _, ⟨_, rfl⟩, by simpa [PyData.shown] using q⟩
      | str y t =>
        cases hd : d.pr <;> rw [hd] at rd <;> cases rd
        rw [hd] at q hz
        exact PySem.P.repr_of_str ⟨.str _, H, I.tok _, ⟨_, rfl⟩, by simpa [PyData.shown] using q⟩ (by simpa [PyData.shown] using hz)
      | _ => cases rd
  · cases hx
theorem s_repr {o : Obj} {pa : Expr} {ma : EM D} {p1 p4 : Pos} (hs : X.K.lookup sysModules = some o) (gu : X.A.guards = some []) (hu : X.A.units + 60 < cLine) (hg : Gl X "repr") (hm : X.mg "repr" = none) (ha : PE X pa (rP X.K ma)) (hn : notStar pa = true) :
    PE X (.Call (.Name "repr" p1) [pa] [] p4) (rE X.K (ma.bind fun x => EM.opt ((reprD x).map fun s => R.d (.str s)))) :=
  PE.weak (pe_callB (call_repr hs gu hu) hg hm PyProof.Rows.boot_repr (pa_cons ha pa_nil (star_cons hn)) (by decide) (by decide) (star_cons hn) rfl) fun σ H Q q => by
    obtain ⟨F, Γ, r, Γ', A, e, k⟩ := q
    obtain ⟨x, Γ1, e1, e⟩ := bind_ok e
    obtain ⟨e2, rfl⟩ := opt_ok e
    obtain ⟨t, h1, rfl⟩ := Option.map_eq_some_iff.mp e2
    exact ⟨F, Γ, x, _, A, e1, fun v F1 H1 s1 A1 g1 r1 => ⟨F1, v, x, t, rfl, A1.sub, r1, h1, k _ F1 H1 s1 A1 g1 (.str _)⟩⟩
end
end Rf

set_option Elab.async false
set_option linter.all false
set_option maxRecDepth 100000
set_option maxHeartbeats 4000000
namespace Rf
open PySem PySem.Spec PyProof.Rows L2
variable [Tb] [Wi]

/-! ### zip(range(n), t) -/
section
variable {P : Program} {w : World} {A : Around} {E : Value → Shared → Prop} {s : Shared}
theorem nx_rng {it : Addr} {x left step : Int} {Q : Value → Shared → Prop} (hi : IsRangeIter s.heap it x left step) (hl : 0 < left)
    (hq : ∀ h', IsRangeIter h' it (x + step) (left - 1) step → Heap.SameBut it s.heap h' → Q (.int x s.toks) { s with heap := h', toks := s.toks + 1 }) :
    wpAny (model P w) A (Builtin.SmallTypes.nextOf (.ref it)) Q E s := by
  have ty : s.TypeIs (.ref it) "range_iterator" := ⟨_, hi, rfl⟩
  unfold Builtin.SmallTypes.nextOf
  refine wpAny_bind (wpAny_callSpecial?_slot (name := Str.ofString "__next__") ty F.slot_range_iterator_next (call_meets F.slot_range_iterator_next ty F.entry_range_iterator_next (F.args_range_iterator_next_1 _) (AutoRange.range_iterator___next___range_iterator_1 it x left step (by omega)) ⟨hi, ?_⟩))
  exact wpAny_pure (hq _ (Heap.get?_update_self _ (Heap.get?_update_self _ hi rfl) rfl) ((Heap.SameBut.update ..).trans (Heap.SameBut.update ..)))
theorem nx_rng_end {it : Addr} {x left step : Int} {Q : Value → Shared → Prop} (hh : A.handled = none) (hi : IsRangeIter s.heap it x left step) (hl : left ≤ 0)
    (hq : ∀ h' e, Heap.ExtBut it s.heap h' → (∃ o, h'.get? e = some o ∧ o.cls = .type "StopIteration") → E (.ref e) { s with heap := h' }) :
    wpAny (model P w) A (Builtin.SmallTypes.nextOf (.ref it)) Q E s := by
  have ty : s.TypeIs (.ref it) "range_iterator" := ⟨_, hi, rfl⟩
  unfold Builtin.SmallTypes.nextOf
  refine wpAny_bind (wpAny_callSpecial?_slot (name := Str.ofString "__next__") ty F.slot_range_iterator_next (wpAny_call_entry F.slot_range_iterator_next ty F.entry_range_iterator_next ?_ (F.args_range_iterator_next_1 _)))
  show wpAny _ _ (field (.ref it) 0 >>= _) _ _ s; refine wpAny_bind (wpAny_field hi rfl (x := rawInt x) rfl ?_)
  show wpAny _ _ (field (.ref it) 1 >>= _) _ _ s; refine wpAny_bind (wpAny_field hi rfl (x := rawInt left) rfl ?_)
  show wpAny _ _ (field (.ref it) 2 >>= _) _ _ s; refine wpAny_bind (wpAny_field hi rfl (x := rawInt step) rfl ?_)
  show wpAny _ _ (if left ≤ 0 then _ else _) _ _ s; rw [if_pos hl]; refine wpAny_bind (wpAny_rule (wpAny_bind ?_))
  show wpAny _ _ (newExc (.type "StopIteration") [] >>= _) _ _ _; refine wpAny_bind ?_
  simp only [newExc, newTuple]; refine wpAny_bind (wpAny_newObj_type ?_ (by size_fits))
  refine wpAny_bind (m := firstArgMember _ _) (wpAny_of_eq (a := Value.none) (by first | rfl | (simp only [firstArgMember]; rfl)) ?_); refine wpAny_newObj_type ?_ (by size_fits)
  simp only [raiseNew]; refine wpAny_bind (wpAny_handled ?_)
  first | rw [show A.in1.handled = none from hh] | rw [hh]
  refine wpAny_bind (wpAny_pure (wpAny_throw (hq _ _ (((Heap.ExtBut.refl it s.heap).push _).push _) ⟨_, Heap.get?_push_size _ rfl, rfl⟩)))

abbrev HUp (h h' : Heap) (z TO i1 i2 : Addr) : Prop := ∀ c o, c ≠ z → c ≠ TO → c ≠ i1 → c ≠ i2 → h.get? c = some o → h'.get? c = some o
theorem nx_zr {z TI TO i1 i2 l2 : Addr} {k2 : Nat} {ys : Array Value} {x left : Int} {y a b : Value} {Q : Value → Shared → Prop} (D : ZipApart z TI TO i1 i2 l2 l2)
    (hz : IsZip s.heap z TI TO .none) (hTI : IsPair s.heap TI (.ref i1) (.ref i2)) (hTO : IsPair s.heap TO a b) (h1 : IsRangeIter s.heap i1 x left 1) (h2 : s.heap.IsTupleIter i2 l2 k2) (hl2 : s.heap.IsTuple l2 ys) (hx : 0 < left) (hy : ys[k2]? = some y)
    (hQ : ∀ h', IsZip h' z TI TO (rawInt s.heap.objs.size) → IsPair h' TO (.int x s.toks) y → IsRangeIter h' i1 (x + 1) (left - 1) 1 → h'.IsTupleIter i2 l2 (k2 + 1) → IsPair h' s.heap.objs.size (.int x s.toks) y → h'.objs.size = s.heap.objs.size + 1 → HUp s.heap h' z TO i1 i2 → Q (.ref s.heap.objs.size) { s with heap := h', toks := s.toks + 1 }) :
    wpAny (model P w) A (Builtin.«zip.__next__» ⟨[.ref z], []⟩) (fun fin s' => ∃ v, fin = .done (.ret v) ∧ Q v s') E s := by
  show wpAny _ _ (field (.ref z) 2 >>= _) _ _ _; refine wpAny_bind (wpAny_field hz rfl (x := .bool false) rfl ?_)
  show wpAny _ _ (field (.ref z) 3 >>= _) _ _ _; refine wpAny_bind (wpAny_field hz rfl (x := .ref TI) rfl (wpAny_bind (wpAny_seqItems hTI rfl ?_)))
  show wpAny _ _ (Builtin.SmallTypes.ownedTupleIsFree (.ref z) >>= _) _ _ _; refine wpAny_bind ?_
  unfold Builtin.SmallTypes.ownedTupleIsFree; refine wpAny_bind (wpAny_field hz rfl (x := .none) rfl (wpAny_pure ?_))
  simp only [if_true]; refine wpAny_bind (wpAny_rule (wpAny_bind (wpAny_field hz rfl (x := .ref TO) rfl (wpAny_bind (wpAny_setField_rec hz (by simp) fun h₁ hz₁ hs₁ => ?_)))))
  replace hz₁ : IsZip h₁ z TI TO .ellipsis := hz₁; refine wpAny_bind ?_
  simp only [List.zipIdx_cons, List.zipIdx_nil, List.forIn_cons, List.forIn_nil]; refine wpAny_bind (wpAny_bind (wpAny_onRaise ?_))
  show wpAny _ _ (Builtin.SmallTypes.nextOf (.ref i1) >>= _) _ _ _
  refine wpAny_bind (nx_rng (s := { s with heap := h₁ }) (hs₁.extBut _ _ D.i1z h1) hx fun h₂ h1₂ hs₂ => wpAny_pure ?_)
  have hTO₂ : IsPair h₂ TO a b := hs₂.extBut _ _ D.TOi1 (hs₁.extBut _ _ D.TOz hTO)
  refine wpAny_bind (wpAny_seqItems hTO₂ rfl (wpAny_bind (wpAny_updateSeq_pair hTO₂ fun h₃ hTO₃ hs₃ => ?_)))
  replace hTO₃ : IsPair h₃ TO (.int x s.toks) b := hTO₃; refine wpAny_bind (wpAny_letGo (wpAny_pure ?_)); refine wpAny_bind (wpAny_bind (wpAny_onRaise ?_))
  show wpAny _ _ (Builtin.SmallTypes.nextOf (.ref i2) >>= _) _ _ _
  refine wpAny_bind (RZ.nextOf_tuple_item (((h2.extBut hs₁.extBut D.i2z).extBut hs₂.extBut D.i12.symm).extBut hs₃.extBut D.TOi2.symm) (((hl2.extBut hs₁.extBut D.l2z).extBut hs₂.extBut D.l2i1).extBut hs₃.extBut D.l2TO) hy fun h₄ h2₄ hs₄ => wpAny_pure ?_)
  have hTO₄ : IsPair h₄ TO (.int x s.toks) b := hs₄.extBut _ _ D.TOi2 hTO₃
  refine wpAny_bind (wpAny_seqItems hTO₄ rfl (wpAny_bind (wpAny_updateSeq_pair hTO₄ fun h₅ hTO₅ hs₅ => ?_)))
  replace hTO₅ : IsPair h₅ TO (.int x s.toks) y := hTO₅; refine wpAny_bind (wpAny_letGo (wpAny_pure (wpAny_pure ?_))); refine wpAny_bind (wpAny_seqItems hTO₅ rfl (wpAny_bind (wpAny_newTuple ?_)))
  have sz : h₅.objs.size = s.heap.objs.size := by rw [hs₅.1, hs₄.1, hs₃.1, hs₂.1, hs₁.1]
  have hz₅ : IsZip h₅ z TI TO .ellipsis := hs₅.extBut _ _ D.TOz.symm (hs₄.extBut _ _ D.i2z.symm (hs₃.extBut _ _ D.TOz.symm (hs₂.extBut _ _ D.i1z.symm hz₁)))
  have k5 : HUp s.heap h₅ z TO i1 i2 := fun c o c1 c2 c3 c4 e => hs₅.extBut _ _ c2 (hs₄.extBut _ _ c4 (hs₃.extBut _ _ c2 (hs₂.extBut _ _ c3 (hs₁.extBut _ _ c1 e))))
  have r1 : IsRangeIter h₅ i1 (x + 1) (left - 1) 1 := hs₅.extBut _ _ D.TOi1.symm (hs₄.extBut _ _ D.i12 (hs₃.extBut _ _ D.TOi1.symm h1₂))
  have r2 : h₅.IsTupleIter i2 l2 (k2 + 1) := h2₄.extBut hs₅.extBut D.TOi2.symm
  have lz : z < h₅.objs.size := Heap.lt_size hz₅
  show wpAny _ _ (Builtin.SmallTypes.ownedTupleHandOut (.ref z) (.ref h₅.objs.size) >>= _) _ _ _; refine wpAny_bind ?_
  unfold Builtin.SmallTypes.ownedTupleHandOut
  have hz₆ : IsZip (h₅.push { cls := .type "tuple", data := .seq #[.int x s.toks, y] }) z TI TO .ellipsis := Heap.get?_push_of_some _ hz₅
  refine wpAny_bind (wpAny_setField_rec hz₆ (by simp) fun h₇ hz₇ hs₇ => ?_); replace hz₇ : IsZip h₇ z TI TO (rawInt h₅.objs.size) := hz₇
  refine wpAny_setField_rec hz₇ (by simp) fun h₈ hz₈ hs₈ => ?_; replace hz₈ : IsZip h₈ z TI TO (rawInt h₅.objs.size) := hz₈
  have up : ∀ c o, c ≠ z → h₅.get? c = some o → h₈.get? c = some o := fun c o c1 e => hs₈.extBut _ _ c1 (hs₇.extBut _ _ c1 (Heap.get?_push_of_some _ e))
  have t8 : IsPair h₈ h₅.objs.size (.int x s.toks) y := hs₈.extBut _ _ (Nat.ne_of_gt lz) (hs₇.extBut _ _ (Nat.ne_of_gt lz) (Heap.get?_push_size _ rfl))
  have z8 : h₈.objs.size = h₅.objs.size + 1 := by rw [hs₈.1, hs₇.1, Heap.size_push]
  rw [sz] at hz₈ t8 z8
  refine wpAny_pure ⟨_, rfl, ?_⟩; show Q (.ref h₅.objs.size) _; rw [sz]
  exact hQ h₈ hz₈ (up _ _ D.TOz hTO₅) (up _ _ D.i1z r1) (r2.at fun o e => up _ o D.i2z e) t8 z8 fun c o c1 c2 c3 c4 e => up c o c1 (k5 c o c1 c2 c3 c4 e)
theorem nx_zr_end {z TI TO i1 i2 l2 : Addr} {k2 : Nat} {ys : Array Value} {x left : Int} {a b : Value} {Q : Fin → Shared → Prop} (hh : A.handled = none) (D : ZipApart z TI TO i1 i2 l2 l2)
    (hz : IsZip s.heap z TI TO .none) (hTI : IsPair s.heap TI (.ref i1) (.ref i2)) (hTO : IsPair s.heap TO a b) (h1 : IsRangeIter s.heap i1 x left 1) (h2 : s.heap.IsTupleIter i2 l2 k2) (hl2 : s.heap.IsTuple l2 ys) (hx : left ≤ 0)
    (hE : ∀ h' e, HUp s.heap h' z TO i1 i2 → (∃ o, h'.get? e = some o ∧ o.cls = .type "StopIteration") → E (.ref e) { s with heap := h' }) :
    wpAny (model P w) A (Builtin.«zip.__next__» ⟨[.ref z], []⟩) Q E s := by
  show wpAny _ _ (field (.ref z) 2 >>= _) _ _ _; refine wpAny_bind (wpAny_field hz rfl (x := .bool false) rfl ?_)
  show wpAny _ _ (field (.ref z) 3 >>= _) _ _ _; refine wpAny_bind (wpAny_field hz rfl (x := .ref TI) rfl (wpAny_bind (wpAny_seqItems hTI rfl ?_)))
  show wpAny _ _ (Builtin.SmallTypes.ownedTupleIsFree (.ref z) >>= _) _ _ _; refine wpAny_bind ?_
  unfold Builtin.SmallTypes.ownedTupleIsFree; refine wpAny_bind (wpAny_field hz rfl (x := .none) rfl (wpAny_pure ?_))
  simp only [if_true]; refine wpAny_bind (wpAny_rule (wpAny_bind (wpAny_field hz rfl (x := .ref TO) rfl (wpAny_bind (wpAny_setField_rec hz (by simp) fun h₁ hz₁ hs₁ => ?_)))))
  replace hz₁ : IsZip h₁ z TI TO .ellipsis := hz₁; refine wpAny_bind ?_
  simp only [List.zipIdx_cons, List.zipIdx_nil, List.forIn_cons, List.forIn_nil]; refine wpAny_bind (wpAny_bind (wpAny_onRaise ?_))
  show wpAny _ _ (Builtin.SmallTypes.nextOf (.ref i1) >>= _) _ _ _
  refine wpAny_bind (nx_rng_end (s := { s with heap := h₁ }) hh (hs₁.extBut _ _ D.i1z h1) hx fun h₂ e hs₂ ⟨oe, hoe, hce⟩ => ?_)
  have hz₂ : IsZip h₂ z TI TO .ellipsis := hs₂ _ _ D.i1z.symm hz₁
  have hez : e ≠ z := fun x => by subst x; rw [hz₂] at hoe; cases hoe; simp at hce
  refine wpAny_setField_rec hz₂ (by simp) fun h₃ _ hs₃ => hE h₃ e (fun c o c1 _ c3 _ x => hs₃.extBut _ _ c1 (hs₂ _ _ c3 (hs₁.extBut _ _ c1 x))) ⟨oe, hs₃.extBut _ _ hez hoe, hce⟩

theorem py_zr {z TI TO i1 i2 l2 : Addr} {k2 : Nat} {ys : Array Value} {x left : Int} {y a b : Value} {Q : Option Value → Shared → Prop} (D : ZipApart z TI TO i1 i2 l2 l2)
    (hz : IsZip s.heap z TI TO .none) (hTI : IsPair s.heap TI (.ref i1) (.ref i2)) (hTO : IsPair s.heap TO a b) (h1 : IsRangeIter s.heap i1 x left 1) (h2 : s.heap.IsTupleIter i2 l2 k2) (hl2 : s.heap.IsTuple l2 ys) (hx : 0 < left) (hy : ys[k2]? = some y)
    (hQ : ∀ h', IsZip h' z TI TO (rawInt s.heap.objs.size) → IsPair h' TO (.int x s.toks) y → IsRangeIter h' i1 (x + 1) (left - 1) 1 → h'.IsTupleIter i2 l2 (k2 + 1) → IsPair h' s.heap.objs.size (.int x s.toks) y → h'.objs.size = s.heap.objs.size + 1 → HUp s.heap h' z TO i1 i2 → Q (some (.ref s.heap.objs.size)) { s with heap := h', toks := s.toks + 1 }) :
    wpAny (model P w) A (pyNext (.ref z)) Q E s := by
  have ty : s.TypeIs (.ref z) "zip" := ⟨_, hz, rfl⟩
  unfold pyNext
  exact wpAny_bind (wpAny_attempt (wpAny_callSpecial?_slot (name := Str.ofString "__next__") ty F.slot_zip_next (wpAny_call_entry F.slot_zip_next ty F.entry_zip_next
    (nx_zr D hz hTI hTO h1 h2 hl2 hx hy fun h' a1 a2 a3 a4 a5 a6 a7 => wpAny_pure (hQ h' a1 a2 a3 a4 a5 a6 a7)) (F.args_zip_next_1 _))))
theorem py_zr_end {z TI TO i1 i2 l2 : Addr} {k2 : Nat} {ys : Array Value} {x left : Int} {a b : Value} {Q : Option Value → Shared → Prop} (hh : A.handled = none) (D : ZipApart z TI TO i1 i2 l2 l2)
    (hz : IsZip s.heap z TI TO .none) (hTI : IsPair s.heap TI (.ref i1) (.ref i2)) (hTO : IsPair s.heap TO a b) (h1 : IsRangeIter s.heap i1 x left 1) (h2 : s.heap.IsTupleIter i2 l2 k2) (hl2 : s.heap.IsTuple l2 ys) (hx : left ≤ 0)
    (hQ : ∀ h', HUp s.heap h' z TO i1 i2 → Q none { s with heap := h' }) : wpAny (model P w) A (pyNext (.ref z)) Q E s := by
  have ty : s.TypeIs (.ref z) "zip" := ⟨_, hz, rfl⟩
  unfold pyNext
  refine wpAny_bind (wpAny_attempt (wpAny_callSpecial?_slot (name := Str.ofString "__next__") ty F.slot_zip_next (wpAny_call_entry F.slot_zip_next ty F.entry_zip_next
    (nx_zr_end hh D hz hTI hTO h1 h2 hl2 hx fun h' e hk ⟨o, ho, hc⟩ => ?_) (F.args_zip_next_1 _))))
  exact wpAny_bind (wpAny_isInstance (T := "StopIteration") (b := true) ⟨o, ho, hc⟩ isSubtype_stop (wpAny_pure (hQ _ hk)))
abbrev zr1 (h : Heap) (n : Int) : Heap := h.push { cls := .type "range_iterator", data := .fields #[rawInt 0, rawInt (Builtin.Range.rangeSize 0 n 1), rawInt 1] }
abbrev zr2 (h : Heap) (n : Int) (l2 : Addr) : Heap := (zr1 h n).push { cls := .type "tuple_iterator", data := .fields #[.ref l2, .int 0 0] }
abbrev zr3 (h : Heap) (n : Int) (l2 : Addr) : Heap := (zr2 h n l2).push { cls := .type "tuple", data := .seq #[.ref h.objs.size, .ref (zr1 h n).objs.size] }
abbrev zr4 (h : Heap) (n : Int) (l2 : Addr) : Heap := (zr3 h n l2).push { cls := .type "tuple", data := .seq #[.none, .none] }
abbrev zr5 (h : Heap) (n : Int) (l2 : Addr) : Heap := (zr4 h n l2).push { cls := .type "zip", data := .fields #[.none, .bool false, .bool false, .ref (zr2 h n l2).objs.size, .ref (zr3 h n l2).objs.size] }
theorem mk_zr (r l2 : Addr) (n : Int) (t u v : Tok) (ys : Array Value) (hs : Builtin.Range.small 0 n 1 = true) :
    Meets (Builtin.«zip.__new__» ⟨[.type "zip", .ref r, .ref l2], []⟩) (fun _ R s => IsRange s.heap r 0 n 1 t u v ∧ s.heap.IsTuple l2 ys ∧ R (.ok (.ret (.ref (zr4 s.heap n l2).objs.size))) { s with heap := zr5 s.heap n l2 }) :=
  .of_wp fun P w A R s h => by
    obtain ⟨hp, g, d, tk, os⟩ := s; obtain ⟨hr, hl2, h⟩ := h
    have hsub := sub_zip
    have hR : IsRange (Shared.heap ⟨hp, g, d, tk, os⟩) r 0 n 1 t u v := hr
    have hL : Heap.IsTuple (Shared.heap ⟨hp.push { cls := .type "range_iterator", data := .fields #[rawInt 0, rawInt (Builtin.Range.rangeSize 0 n 1), rawInt 1] }, g, d, tk, os⟩) l2 ys := Heap.IsTuple.push hl2 _
    wp_walk using (wpAny_pyIter_range hR hs), wpAny_pyIter_tuple hL
    exact ⟨_, rfl, h⟩
theorem call_zr {r l2 : Addr} {n : Int} {t u v : Tok} {ys : Array Value} {Q : Value → Shared → Prop} (hs : Builtin.Range.small 0 n 1 = true) (hr : IsRange s.heap r 0 n 1 t u v) (hl2 : s.heap.IsTuple l2 ys)
    (h : ∀ h', IsZip h' (s.heap.objs.size + 4) (s.heap.objs.size + 2) (s.heap.objs.size + 3) .none → IsPair h' (s.heap.objs.size + 2) (.ref s.heap.objs.size) (.ref (s.heap.objs.size + 1)) →
      IsPair h' (s.heap.objs.size + 3) .none .none → IsRangeIter h' s.heap.objs.size 0 (Builtin.Range.rangeSize 0 n 1) 1 → h'.IsTupleIter (s.heap.objs.size + 1) l2 0 → h'.objs.size = s.heap.objs.size + 5 →
      (∀ c o, s.heap.get? c = some o → h'.get? c = some o) → Q (.ref (s.heap.objs.size + 4)) { s with heap := h' }) :
    wpAny (model P w) A (call (.type "zip") [.ref r, .ref l2]) Q E s := by
  refine callType_new F.called_zip (by decide) (F.typeCall_zip_2 _ _) (F.newCall_zip_2 _ _) (fun obj => F.args_object_init_3 obj _ _) F.entry_zip_new (mk_zr r l2 n t u v ys hs) ⟨hr, hl2, ?_⟩
  have z1 : (zr1 s.heap n).objs.size = s.heap.objs.size + 1 := Heap.size_push ..
  have z2 : (zr2 s.heap n l2).objs.size = s.heap.objs.size + 2 := by rw [Heap.size_push, z1]
  have z3 : (zr3 s.heap n l2).objs.size = s.heap.objs.size + 3 := by rw [Heap.size_push, z2]
  have z4 : (zr4 s.heap n l2).objs.size = s.heap.objs.size + 4 := by rw [Heap.size_push, z3]
  have z5 : (zr5 s.heap n l2).objs.size = s.heap.objs.size + 5 := by rw [Heap.size_push, z4]
  have g5 : (zr5 s.heap n l2).get? (zr4 s.heap n l2).objs.size = some _ := Heap.get?_push_size _ rfl
  have g4 : (zr5 s.heap n l2).get? (zr3 s.heap n l2).objs.size = some _ := Heap.get?_push_of_some _ (Heap.get?_push_size _ rfl)
  have g3 : (zr5 s.heap n l2).get? (zr2 s.heap n l2).objs.size = some _ := Heap.get?_push_of_some _ (Heap.get?_push_of_some _ (Heap.get?_push_size _ rfl))
  have g2 : (zr5 s.heap n l2).get? (zr1 s.heap n).objs.size = some _ := Heap.get?_push_of_some _ (Heap.get?_push_of_some _ (Heap.get?_push_of_some _ (Heap.get?_push_size _ rfl)))
  have g1 : (zr5 s.heap n l2).get? s.heap.objs.size = some _ := Heap.get?_push_of_some _ (Heap.get?_push_of_some _ (Heap.get?_push_of_some _ (Heap.get?_push_of_some _ (Heap.get?_push_size _ rfl))))
  show _ ∧ _
  rw [z2, z3, z4] at g5; rw [z1, z2] at g3; rw [z3] at g4; rw [z1] at g2; rw [z4]
  exact ⟨⟨_, g5, rfl⟩, h _ g5 g3 g4 g1 ⟨_, g2, rfl, rfl⟩ z5 fun c o x => Heap.get?_push_of_some _ (Heap.get?_push_of_some _ (Heap.get?_push_of_some _ (Heap.get?_push_of_some _ (Heap.get?_push_of_some _ x))))⟩
end

/-- a range of n from 0 and the tuple at b, the items in new pairs -/
def Itzr (K : PySem.W.Frag) (n : Nat) (b : Addr) : L2.It :=
  ⟨fun i H => ∃ (ys : List V) (y : V), SqT K H b ys ∧ i < n ∧ ys[i]? = some y,
    fun i H v H' => ∃ T y, v = .ref T ∧ H T = none ∧ H' = upd H T (.tup [.int (i : Nat), y]) ∧ ∀ ys, SqT K H b ys → ys[i]? = some y,
    fun i H => (∃ ys, SqT K H b ys) ∧ n ≤ i⟩
abbrev zrSt (n : Nat) (z TI TO i1 i2 b : Addr) (i : Nat) (h : Heap) : Prop := IsZip h z TI TO .none ∧ IsPair h TI (.ref i1) (.ref i2) ∧ (∃ x y, IsPair h TO x y) ∧ IsRangeIter h i1 (i : Nat) ((n : Int) - (i : Nat)) 1 ∧ h.IsTupleIter i2 b i
theorem turn_zr {P : Program} {w : World} {K : PySem.W.Frag} {elts : List Expr} {kk n : Nat} {tpos : Pos} {b z TI TO i1 i2 : Addr} (D : ZipApart z TI TO i1 i2 b b) :
    Turn P w K (.Tuple elts kk tpos) (Itzr K n b) [z, TI, TO, i1, i2] z (zrSt n z TI TO i1 i2 b) where
  mem := by simp
  obj := fun i h st c hc => by
    obtain ⟨hz, hTI, ⟨x, y, hTO⟩, h1, ⟨o2, e2, _, d2⟩⟩ := st
    have e' : c = z ∨ c = TI ∨ c = TO ∨ c = i1 ∨ c = i2 := by simpa using hc
    rcases e' with q | q | q | q | q <;> rw [q] <;> first | exact ⟨_, hz, fun v q => nomatch q⟩ | exact ⟨_, hTI, fun v q => nomatch q⟩ | exact ⟨_, hTO, fun v q => nomatch q⟩ | exact ⟨_, h1, fun v q => nomatch q⟩ | exact ⟨o2, e2, fun v q => by rw [d2] at q; cases q⟩
  keep := fun i h h' st k => by
    obtain ⟨hz, hTI, ⟨x, y, hTO⟩, h1, h2⟩ := st
    exact ⟨k z (by simp) _ hz, k TI (by simp) _ hTI, ⟨x, y, k TO (by simp) _ hTO⟩, k i1 (by simp) _ h1, h2.at fun o q => k i2 (by simp) o q⟩
  item := by
    intro X hP hw hK hc i pins s σ H E I hf st hg
    subst hP hw hK
    obtain ⟨hz, hTI, ⟨x0, y0, hTO⟩, h1, h2⟩ := st
    obtain ⟨ys, y, hqy, hin, hy⟩ := hg
    obtain ⟨its2, rv2, p2, _⟩ := I.tuple hqy
    obtain ⟨u2, hu2, ru2⟩ := rv2.get hy
    have hzl : z < s.heap.objs.size := Heap.lt_size hz
    refine py_zr D hz hTI hTO h1 h2 p2 (by omega) (y := u2) (by simpa using hu2) fun h' z' TO' h1' h2' hT hsz hk => ⟨_, rfl, wpAny_letOwnedTupleGo_zip (s := { s with heap := h', toks := s.toks + 1 }) z' fun h'' z'' sb => ?_⟩
    have hT2 : h''.get? s.heap.objs.size = some { cls := .type "tuple", data := .seq #[.int (i : Nat) s.toks, u2] } := (sb.2 _ (Nat.ne_of_gt hzl)).trans hT
    have nw : ObjOk X.prog X.w (upd H s.heap.objs.size (.tup [.int (i : Nat), y])) h'' s.heap.objs.size (.tup [.int (i : Nat), y]) := ⟨by show 2 ≤ sizeLine; decide, [.int (i : Nat) s.toks, u2], .cons ⟨_, rfl⟩ (.cons ru2 .nil), ⟨_, hT2, rfl, _, rfl⟩⟩
    have I1 : Inv X pins σ (upd H s.heap.objs.size (.tup [.int (i : Nat), y])) { s with heap := h'', toks := s.toks + 1 } :=
      I.turnedNew (t' := s.toks + 1) (ch := [z, TI, TO, i1, i2]) (fun c o hb q => (sb.2 c (fun q' => hb (by simp [q']))).trans (hk c o (fun q' => hb (by simp [q'])) (fun q' => hb (by simp [q'])) (fun q' => hb (by simp [q'])) (fun q' => hb (by simp [q'])) q)) hf (Nat.le_refl _) nw
    refine ⟨.ref s.heap.objs.size, _, I1, rfl, ⟨_, y, rfl, I.hok.fresh (Nat.le_refl _), rfl, fun l hl => by rw [I.tuple_inj hl hqy]; exact hy⟩, ⟨z'', (sb.2 _ D.TIz).trans (hk _ _ D.TIz D.TITO D.TIi1 D.TIi2 hTI), ⟨_, u2, (sb.2 _ D.TOz).trans TO'⟩, ?_, h2'.at fun o q => (sb.2 _ D.i2z).trans q⟩, fun c hcm => ?_⟩
    · have e1 : ((i + 1 : Nat) : Int) = (i : Int) + 1 := by omega
      have e2 : (n : Int) - ((i + 1 : Nat) : Int) = (n : Int) - (i : Int) - 1 := by omega
      show IsRangeIter h'' i1 _ _ 1
      rw [e2, e1]
      exact (sb.2 _ D.i1z).trans h1'
    · have hlt : c < s.heap.objs.size := by
        have e' : c = z ∨ c = TI ∨ c = TO ∨ c = i1 ∨ c = i2 := by simpa using hcm
        rcases e' with q | q | q | q | q <;> rw [q] <;> first | exact hzl | exact Heap.lt_size hTI | exact Heap.lt_size hTO | exact Heap.lt_size h1 | (obtain ⟨_, e2, _⟩ := h2; exact Heap.lt_size e2)
      rw [upd_ne (Nat.ne_of_lt hlt)]; exact (hf c hcm).1
  done := by
    intro X hP hw hK hc i pins s σ H E I hf st hg
    subst hP hw hK
    obtain ⟨hz, hTI, ⟨x0, y0, hTO⟩, h1, h2⟩ := st
    obtain ⟨⟨ys, hqy⟩, hend⟩ := hg
    obtain ⟨its2, rv2, p2, _⟩ := I.tuple hqy
    exact py_zr_end (I.ok.hd hc) D hz hTI hTO h1 h2 p2 (by omega) fun h' hk => ⟨rfl, I.turnedL (t' := s.toks) (ch := [z, TI, TO, i1, i2]) (fun c o hb q => hk c o (fun q' => hb (by simp [q'])) (fun q' => hb (by simp [q'])) (fun q' => hb (by simp [q'])) (fun q' => hb (by simp [q'])) q) hf⟩
  self := fun A i s Q E st h => wpAny_pyIter_zip st.1 h
theorem cr_rng1 {X : Cx} : CallR X (.type "range") (fun vs H Q => ∃ j, vs = [V.int j] ∧ ∀ p, H p = none → Q (.ref p) (upd H p (.rng 0 j))) := by
  intro pins s σ H vs us Q I r h
  obtain ⟨j, rfl, q⟩ := h
  cases r with
  | cons rj rr =>
    cases rr
    obtain ⟨t, rfl⟩ := rj
    refine call_range_1 ⟨.ref s.heap.objs.size, upd H s.heap.objs.size (.rng 0 j), I.laid (t' := s.toks + 1 + 1) (fun b o e => Heap.get?_push_of_some _ e) (Nat.le_refl _) ?_, rfl, q _ (I.hok.fresh (Nat.le_refl _))⟩
    exact ⟨s.toks, t, s.toks + 1, Heap.get?_push_size _ rfl⟩
/-- vs: a range from 0 and a tuple -/
def iZr (K : PySem.W.Frag) (ta : TA) : TI := fun σ H R => ta σ H fun vs H1 => ∃ a b ys, ∃ n : Nat, vs = [.ref a, .ref b] ∧ H1 a = some (.rng 0 (n : Int)) ∧ (n : Int) < 2 ^ 60 ∧ SqT K H1 b ys ∧ R (Itzr K n b) H1
theorem pi_zr {X : Cx} {e e2 : Expr} {ta : TA} {p pos tpos : Pos} {elts : List Expr} {kk : Nat} (hg : Gl X "zip") (hm : X.mg "zip" = none) (ha : PA X [e, e2] ta)
    (hs : starEach [e, e2] X.env = (false, eval e X.env) :: starEach [e2] X.env := by rfl) (hpl : (backTo pos (starEach [e2] X.env)).any (·.1) = false := by rfl) :
    PI X (.Tuple elts kk tpos) (.Call (.Name "zip" p) [e, e2] [] pos) (iZr X.K ta) := by
  refine ⟨fun pins s σ H R I h => Call_ (ld_blt I hg hm PyProof.Rows.boot_zip (PyProof.Rows.callWith_type1 (thn (ha.run pos pins s σ H _ I h) fun us s1 ⟨vs, H1, I1, r1, q1⟩ => ?_) hs hpl))⟩
  obtain ⟨a, b, ys, n, ex, hra, hn, hqy, q⟩ := q1
  subst ex
  cases r1 with
  | cons r rr =>
    cases rr with
    | cons r' rr =>
      cases rr; cases r; cases r'
      have fr : ∀ c, c ∈ [s1.heap.objs.size + 4, s1.heap.objs.size + 2, s1.heap.objs.size + 3, s1.heap.objs.size, s1.heap.objs.size + 1] → FpOk X pins H1 c := fun c hcm => by
        have hle : s1.heap.objs.size ≤ c := by
          simp only [List.mem_cons, List.not_mem_nil, or_false] at hcm
          rcases hcm with z | z | z | z | z <;> rw [z] <;> omega
        exact I1.fpOk hle (I1.hok.fresh hle)
      obtain ⟨its2, rv2, p2, _⟩ := I1.tuple hqy
      obtain ⟨o2, ho2, _⟩ := id p2
      obtain ⟨t, u, v, hr⟩ : ∃ t u v, s1.heap.get? a = some { cls := .type "range", data := .fields #[.int 0 t, .int (n : Int) u, .int 1 v] } := I1.hok a _ hra
      have sm : Builtin.Range.small 0 (n : Int) 1 = true := small_one (by omega) (by omega) (by omega) (by omega)
      refine call_zr sm hr (show s1.heap.IsTuple b its2.toArray from p2) fun h' hz hTI hTO h1 h2 hsz hk => wpAny_pyIter_zip hz ?_
      have I2 : Inv X pins σ H1 { s1 with heap := h' } := I1.kept (t' := s1.toks) hk
      have e2 : Builtin.Range.rangeSize 0 (n : Int) 1 = (n : Int) - ((0 : Nat) : Int) := by rw [rangeSize_one]; split <;> omega
      rw [e2] at h1
      exact ⟨s1.heap.objs.size + 4, [s1.heap.objs.size + 4, s1.heap.objs.size + 2, s1.heap.objs.size + 3, s1.heap.objs.size, s1.heap.objs.size + 1], _, _, H1, rfl, I2, turn_zr (PySem.W.ktu_apart s1.heap.objs.size b b (Heap.lt_size ho2) (Heap.lt_size ho2)), ⟨hz, hTI, ⟨_, _, hTO⟩, h1, h2⟩, fr, q⟩
section
variable {F F1 H1 : Hp} {X : Cx} {pos p2 p3 p4 tpos : Pos} {pa pb : Expr} {kk : Nat} {elts : List Expr}
theorem it_zr {K : PySem.W.Frag} {S : Addr → Prop} {b : Addr} {n : Nat} {vs : List V} {es : List D} (h1 : F1 b = some (.tup vs)) (r : Reps K F1 vs es) (hn : n ≤ es.length) :
    ItOk K S F1 H1 (Itzr K n b) ((((List.range n).map fun k => D.int (k : Nat)).zip es).map fun p => D.tup [p.1, p.2]) := by
  have hl : ∀ F H, Step F1 H1 S F H → Same F H → SqT K H b vs := fun F H st s => SqT.of (s _ _ (st.fs _ _ h1))
  have len : ((((List.range n).map fun k => D.int (k : Nat)).zip es).map fun p => D.tup [p.1, p.2]).length = n := by
    rw [List.length_map, List.length_zip, List.length_map, List.length_range]; omega
  refine ⟨fun F H st s i hi => ?_, fun F H st s i x v H' hx y => ?_, fun F H st s i hi => ⟨⟨vs, hl F H st s⟩, by rw [len] at hi; exact hi⟩⟩
  · rw [len] at hi
    obtain ⟨v, z1, z2⟩ := r.get (i := i) (List.getElem?_eq_getElem (by omega))
    exact ⟨vs, v, hl F H st s, hi, z1⟩
  · obtain ⟨T, u, rfl, hT, rfl, y⟩ := y
    rw [List.getElem?_map] at hx
    obtain ⟨⟨p, q⟩, h2, rfl⟩ := Option.map_eq_some_iff.mp hx
    rw [List.getElem?_zip_eq_some, List.getElem?_map] at h2
    obtain ⟨m, h3, h4⟩ := Option.map_eq_some_iff.mp h2.1
    obtain ⟨h5, h6⟩ := List.getElem?_eq_some_iff.mp h3
    rw [List.getElem_range] at h6
    subst h6; subst h4
    obtain ⟨v', z1, z2⟩ := r.get h2.2
    have := y vs (hl F H st s)
    rw [z1] at this; cases this
    exact .inr ⟨T, HO.tup _, hT, (fun _ z => (nomatch z)), rfl, upd_rep s hT (.cons (.int _) (.cons (z2.up st.fs) .nil))⟩
theorem pi_zpr {ma mb : EM D} (hg : Gl X "zip") (hm : X.mg "zip" = none) (hg2 : Gl X "range") (hm2 : X.mg "range" = none) (ha : PE X pa (rD X.K ma)) (hb : PE X pb (rD X.K mb)) (hn : notStar pa = true) (hn2 : notStar pb = true) :
    PI X (.Tuple elts kk tpos) (.Call (.Name "zip" p2) [.Call (.Name "range" p3) [pa] [] p4, pb] [] pos) (rI X.K (mZipr ma mb)) :=
  PI.weak (pi_zr hg hm (pa_cons (pe_callTy cr_rng1 hg2 hm2 boot_range (pa_cons ha pa_nil (star_cons hn)) (by decide) (by decide) (star_cons hn) rfl) (pa_cons hb pa_nil (star_cons hn2))) rfl (star_plain (by simp [hn2]))) fun σ H R q => by
    obtain ⟨F, Γ, ls, xs, Γ', A, e, k⟩ := q
    obtain ⟨x, Γ1, e1, ea⟩ := bind_ok e
    obtain ⟨n, Γ2, e3, eb⟩ := bind_ok ea
    obtain ⟨e3, ez⟩ := opt_ok e3
    subst ez
    obtain ⟨y, Γ3, e4, ec⟩ := bind_ok eb
    obtain ⟨e5, ez⟩ := opt_ok ec
    subst ez
    obtain ⟨ys, e6, e7⟩ := Option.map_eq_some_iff.mp e5
    cases e7
    cases x with
    | int j =>
      cases y with
      | tup es =>
        have e6 : (if decide (0 ≤ j) && decide (j.toNat ≤ es.length) && decide (j < 2 ^ 60) then some ((((List.range j.toNat).map fun k => D.int (k : Nat)).zip es).map fun p => D.tup [p.1, p.2]) else none) = some xs := e6
        split at e6
        · rename_i hh
          cases e6
          simp only [Bool.and_eq_true, decide_eq_true_eq] at hh
          refine ⟨F, Γ, _, _, A, e1, fun v F1 H1 s1 A1 g1 r1 => ?_⟩
          cases r1
          refine ⟨j, rfl, fun p hp => ⟨F1, _, _, _, A1.newH hp _, e4, fun w F2 H2 s2 A2 g2 r2 => ?_⟩⟩
          cases r2 with
          | tup z1 z2 =>
            have ej : ((j.toNat : Nat) : Int) = j := Int.toNat_of_nonneg hh.1.1
            refine ⟨p, _, _, j.toNat, rfl, ?_, by omega, SqT.of (A2.sub _ _ z1), k _ F2 H2 ((s1.new (dom_none s1 p hp)).trans s2 fun z q => .inl (g1.mu q)) A2 (g1.trans g2) (it_zr z1 z2 hh.1.2)⟩
            rw [ej]
            exact s2.hs p _ upd_same (fun z => (Mu.there A1 z).1 hp) fun _ z => (nomatch z)
        · cases e6
      | _ => cases e6
    | _ => cases e3
end
end Rf

set_option Elab.async false
set_option linter.all false
set_option maxRecDepth 100000
set_option maxHeartbeats 4000000
namespace Rf
open PySem PySem.Spec PyProof.Rows L2
variable [Tb] [Wi]

/-! ### zip(list, tuple) -/
section
variable {P : Program} {w : World} {A : Around} {E : Value → Shared → Prop} {s : Shared}
theorem nx_zm {z TI TO i1 i2 l1 l2 : Addr} {k1 k2 : Nat} {xs ys : Array Value} {x y a b : Value} {Q : Value → Shared → Prop} (D : ZipApart z TI TO i1 i2 l1 l2)
    (hz : IsZip s.heap z TI TO .none) (hTI : IsPair s.heap TI (.ref i1) (.ref i2)) (hTO : IsPair s.heap TO a b) (h1 : s.heap.IsListIter i1 l1 k1) (h2 : s.heap.IsTupleIter i2 l2 k2) (hl1 : s.heap.IsList l1 xs) (hl2 : s.heap.IsTuple l2 ys) (hx : xs[k1]? = some x) (hy : ys[k2]? = some y)
    (hQ : ∀ h', IsZip h' z TI TO (rawInt s.heap.objs.size) → IsPair h' TO x y → h'.IsListIter i1 l1 (k1 + 1) → h'.IsTupleIter i2 l2 (k2 + 1) → IsPair h' s.heap.objs.size x y → h'.objs.size = s.heap.objs.size + 1 → HUp s.heap h' z TO i1 i2 → Q (.ref s.heap.objs.size) { s with heap := h' }) :
    wpAny (model P w) A (Builtin.«zip.__next__» ⟨[.ref z], []⟩) (fun fin s' => ∃ v, fin = .done (.ret v) ∧ Q v s') E s := by
  show wpAny _ _ (field (.ref z) 2 >>= _) _ _ _; refine wpAny_bind (wpAny_field hz rfl (x := .bool false) rfl ?_)
  show wpAny _ _ (field (.ref z) 3 >>= _) _ _ _; refine wpAny_bind (wpAny_field hz rfl (x := .ref TI) rfl (wpAny_bind (wpAny_seqItems hTI rfl ?_)))
  show wpAny _ _ (Builtin.SmallTypes.ownedTupleIsFree (.ref z) >>= _) _ _ _; refine wpAny_bind ?_
  unfold Builtin.SmallTypes.ownedTupleIsFree; refine wpAny_bind (wpAny_field hz rfl (x := .none) rfl (wpAny_pure ?_))
  simp only [if_true]; refine wpAny_bind (wpAny_rule (wpAny_bind (wpAny_field hz rfl (x := .ref TO) rfl (wpAny_bind (wpAny_setField_rec hz (by simp) fun h₁ hz₁ hs₁ => ?_)))))
  replace hz₁ : IsZip h₁ z TI TO .ellipsis := hz₁; refine wpAny_bind ?_
  simp only [List.zipIdx_cons, List.zipIdx_nil, List.forIn_cons, List.forIn_nil]; refine wpAny_bind (wpAny_bind (wpAny_onRaise ?_))
  show wpAny _ _ (Builtin.SmallTypes.nextOf (.ref i1) >>= _) _ _ _
  refine wpAny_bind (wpAny_nextOf_list_item (s := { s with heap := h₁ }) (h1.extBut hs₁.extBut D.i1z) (hl1.extBut hs₁.extBut D.l1z) hx fun h₂ h1₂ hs₂ => wpAny_pure ?_)
  have hTO₂ : IsPair h₂ TO a b := hs₂.extBut _ _ D.TOi1 (hs₁.extBut _ _ D.TOz hTO)
  refine wpAny_bind (wpAny_seqItems hTO₂ rfl (wpAny_bind (wpAny_updateSeq_pair hTO₂ fun h₃ hTO₃ hs₃ => ?_)))
  replace hTO₃ : IsPair h₃ TO x b := hTO₃; refine wpAny_bind (wpAny_letGo (wpAny_pure ?_)); refine wpAny_bind (wpAny_bind (wpAny_onRaise ?_))
  show wpAny _ _ (Builtin.SmallTypes.nextOf (.ref i2) >>= _) _ _ _
  refine wpAny_bind (RZ.nextOf_tuple_item (((h2.extBut hs₁.extBut D.i2z).extBut hs₂.extBut D.i12.symm).extBut hs₃.extBut D.TOi2.symm) (((hl2.extBut hs₁.extBut D.l2z).extBut hs₂.extBut D.l2i1).extBut hs₃.extBut D.l2TO) hy fun h₄ h2₄ hs₄ => wpAny_pure ?_)
  have hTO₄ : IsPair h₄ TO x b := hs₄.extBut _ _ D.TOi2 hTO₃
  refine wpAny_bind (wpAny_seqItems hTO₄ rfl (wpAny_bind (wpAny_updateSeq_pair hTO₄ fun h₅ hTO₅ hs₅ => ?_)))
  replace hTO₅ : IsPair h₅ TO x y := hTO₅; refine wpAny_bind (wpAny_letGo (wpAny_pure (wpAny_pure ?_))); refine wpAny_bind (wpAny_seqItems hTO₅ rfl (wpAny_bind (wpAny_newTuple ?_)))
  have sz : h₅.objs.size = s.heap.objs.size := by rw [hs₅.1, hs₄.1, hs₃.1, hs₂.1, hs₁.1]
  have hz₅ : IsZip h₅ z TI TO .ellipsis := hs₅.extBut _ _ D.TOz.symm (hs₄.extBut _ _ D.i2z.symm (hs₃.extBut _ _ D.TOz.symm (hs₂.extBut _ _ D.i1z.symm hz₁)))
  have k5 : HUp s.heap h₅ z TO i1 i2 := fun c o c1 c2 c3 c4 e => hs₅.extBut _ _ c2 (hs₄.extBut _ _ c4 (hs₃.extBut _ _ c2 (hs₂.extBut _ _ c3 (hs₁.extBut _ _ c1 e))))
  have r1 : h₅.IsListIter i1 l1 (k1 + 1) := ((h1₂.extBut hs₃.extBut D.TOi1.symm).extBut hs₄.extBut D.i12).extBut hs₅.extBut D.TOi1.symm
  have r2 : h₅.IsTupleIter i2 l2 (k2 + 1) := h2₄.extBut hs₅.extBut D.TOi2.symm
  have lz : z < h₅.objs.size := Heap.lt_size hz₅
  show wpAny _ _ (Builtin.SmallTypes.ownedTupleHandOut (.ref z) (.ref h₅.objs.size) >>= _) _ _ _; refine wpAny_bind ?_
  unfold Builtin.SmallTypes.ownedTupleHandOut
  have hz₆ : IsZip (h₅.push { cls := .type "tuple", data := .seq #[x, y] }) z TI TO .ellipsis := Heap.get?_push_of_some _ hz₅
  refine wpAny_bind (wpAny_setField_rec hz₆ (by simp) fun h₇ hz₇ hs₇ => ?_); replace hz₇ : IsZip h₇ z TI TO (rawInt h₅.objs.size) := hz₇
  refine wpAny_setField_rec hz₇ (by simp) fun h₈ hz₈ hs₈ => ?_; replace hz₈ : IsZip h₈ z TI TO (rawInt h₅.objs.size) := hz₈
  have up : ∀ c o, c ≠ z → h₅.get? c = some o → h₈.get? c = some o := fun c o c1 e => hs₈.extBut _ _ c1 (hs₇.extBut _ _ c1 (Heap.get?_push_of_some _ e))
  have t8 : IsPair h₈ h₅.objs.size x y := hs₈.extBut _ _ (Nat.ne_of_gt lz) (hs₇.extBut _ _ (Nat.ne_of_gt lz) (Heap.get?_push_size _ rfl))
  have z8 : h₈.objs.size = h₅.objs.size + 1 := by rw [hs₈.1, hs₇.1, Heap.size_push]
  rw [sz] at hz₈ t8 z8
  refine wpAny_pure ⟨_, rfl, ?_⟩; show Q (.ref h₅.objs.size) _; rw [sz]
  exact hQ h₈ hz₈ (up _ _ D.TOz hTO₅) (r1.at fun o e => up _ o D.i1z e) (r2.at fun o e => up _ o D.i2z e) t8 z8 fun c o c1 c2 c3 c4 e => up c o c1 (k5 c o c1 c2 c3 c4 e)
theorem nx_zm_end {z TI TO i1 i2 l1 l2 : Addr} {k1 k2 : Nat} {xs : Array Value} {a b : Value} {Q : Fin → Shared → Prop} (hh : A.handled = none) (D : ZipApart z TI TO i1 i2 l1 l2)
    (hz : IsZip s.heap z TI TO .none) (hTI : IsPair s.heap TI (.ref i1) (.ref i2)) (hTO : IsPair s.heap TO a b) (h1 : s.heap.IsListIter i1 l1 k1) (hl1 : s.heap.IsList l1 xs) (hx : xs[k1]? = none)
    (hE : ∀ h' e, HUp s.heap h' z TO i1 i2 → (∃ o, h'.get? e = some o ∧ o.cls = .type "StopIteration") → E (.ref e) { s with heap := h' }) :
    wpAny (model P w) A (Builtin.«zip.__next__» ⟨[.ref z], []⟩) Q E s := by
  show wpAny _ _ (field (.ref z) 2 >>= _) _ _ _; refine wpAny_bind (wpAny_field hz rfl (x := .bool false) rfl ?_)
  show wpAny _ _ (field (.ref z) 3 >>= _) _ _ _; refine wpAny_bind (wpAny_field hz rfl (x := .ref TI) rfl (wpAny_bind (wpAny_seqItems hTI rfl ?_)))
  show wpAny _ _ (Builtin.SmallTypes.ownedTupleIsFree (.ref z) >>= _) _ _ _; refine wpAny_bind ?_
  unfold Builtin.SmallTypes.ownedTupleIsFree; refine wpAny_bind (wpAny_field hz rfl (x := .none) rfl (wpAny_pure ?_))
  simp only [if_true]; refine wpAny_bind (wpAny_rule (wpAny_bind (wpAny_field hz rfl (x := .ref TO) rfl (wpAny_bind (wpAny_setField_rec hz (by simp) fun h₁ hz₁ hs₁ => ?_)))))
  replace hz₁ : IsZip h₁ z TI TO .ellipsis := hz₁; refine wpAny_bind ?_
  simp only [List.zipIdx_cons, List.zipIdx_nil, List.forIn_cons, List.forIn_nil]; refine wpAny_bind (wpAny_bind (wpAny_onRaise ?_))
  show wpAny _ _ (Builtin.SmallTypes.nextOf (.ref i1) >>= _) _ _ _
  refine wpAny_bind (wpAny_nextOf_list_end (s := { s with heap := h₁ }) hh (h1.extBut hs₁.extBut D.i1z) (hl1.extBut hs₁.extBut D.l1z) hx fun h₂ e hs₂ ⟨oe, hoe, hce⟩ => ?_)
  have hz₂ : IsZip h₂ z TI TO .ellipsis := hs₂ _ _ D.i1z.symm hz₁
  have hez : e ≠ z := fun x => by subst x; rw [hz₂] at hoe; cases hoe; simp at hce
  refine wpAny_setField_rec hz₂ (by simp) fun h₃ _ hs₃ => hE h₃ e (fun c o c1 _ c3 _ x => hs₃.extBut _ _ c1 (hs₂ _ _ c3 (hs₁.extBut _ _ c1 x))) ⟨oe, hs₃.extBut _ _ hez hoe, hce⟩

theorem py_zm {z TI TO i1 i2 l1 l2 : Addr} {k1 k2 : Nat} {xs ys : Array Value} {x y a b : Value} {Q : Option Value → Shared → Prop} (D : ZipApart z TI TO i1 i2 l1 l2)
    (hz : IsZip s.heap z TI TO .none) (hTI : IsPair s.heap TI (.ref i1) (.ref i2)) (hTO : IsPair s.heap TO a b) (h1 : s.heap.IsListIter i1 l1 k1) (h2 : s.heap.IsTupleIter i2 l2 k2) (hl1 : s.heap.IsList l1 xs) (hl2 : s.heap.IsTuple l2 ys) (hx : xs[k1]? = some x) (hy : ys[k2]? = some y)
    (hQ : ∀ h', IsZip h' z TI TO (rawInt s.heap.objs.size) → IsPair h' TO x y → h'.IsListIter i1 l1 (k1 + 1) → h'.IsTupleIter i2 l2 (k2 + 1) → IsPair h' s.heap.objs.size x y → h'.objs.size = s.heap.objs.size + 1 → HUp s.heap h' z TO i1 i2 → Q (some (.ref s.heap.objs.size)) { s with heap := h' }) :
    wpAny (model P w) A (pyNext (.ref z)) Q E s := by
  have ty : s.TypeIs (.ref z) "zip" := ⟨_, hz, rfl⟩
  unfold pyNext
  exact wpAny_bind (wpAny_attempt (wpAny_callSpecial?_slot (name := Str.ofString "__next__") ty F.slot_zip_next (wpAny_call_entry F.slot_zip_next ty F.entry_zip_next
    (nx_zm D hz hTI hTO h1 h2 hl1 hl2 hx hy fun h' a1 a2 a3 a4 a5 a6 a7 => wpAny_pure (hQ h' a1 a2 a3 a4 a5 a6 a7)) (F.args_zip_next_1 _))))
theorem py_zm_end {z TI TO i1 i2 l1 l2 : Addr} {k1 k2 : Nat} {xs : Array Value} {a b : Value} {Q : Option Value → Shared → Prop} (hh : A.handled = none) (D : ZipApart z TI TO i1 i2 l1 l2)
    (hz : IsZip s.heap z TI TO .none) (hTI : IsPair s.heap TI (.ref i1) (.ref i2)) (hTO : IsPair s.heap TO a b) (h1 : s.heap.IsListIter i1 l1 k1) (hl1 : s.heap.IsList l1 xs) (hx : xs[k1]? = none)
    (hQ : ∀ h', HUp s.heap h' z TO i1 i2 → Q none { s with heap := h' }) : wpAny (model P w) A (pyNext (.ref z)) Q E s := by
  have ty : s.TypeIs (.ref z) "zip" := ⟨_, hz, rfl⟩
  unfold pyNext
  refine wpAny_bind (wpAny_attempt (wpAny_callSpecial?_slot (name := Str.ofString "__next__") ty F.slot_zip_next (wpAny_call_entry F.slot_zip_next ty F.entry_zip_next
    (nx_zm_end (k2 := k2) hh D hz hTI hTO h1 hl1 hx fun h' e hk ⟨o, ho, hc⟩ => ?_) (F.args_zip_next_1 _))))
  exact wpAny_bind (wpAny_isInstance (T := "StopIteration") (b := true) ⟨o, ho, hc⟩ isSubtype_stop (wpAny_pure (hQ _ hk)))
abbrev zm1 (h : Heap) (n : Addr) : Heap := h.push { cls := .type "list_iterator", data := .fields #[.ref n, .int 0 0] }
abbrev zm2 (h : Heap) (n : Addr) (l2 : Addr) : Heap := (zm1 h n).push { cls := .type "tuple_iterator", data := .fields #[.ref l2, .int 0 0] }
abbrev zm3 (h : Heap) (n : Addr) (l2 : Addr) : Heap := (zm2 h n l2).push { cls := .type "tuple", data := .seq #[.ref h.objs.size, .ref (zm1 h n).objs.size] }
abbrev zm4 (h : Heap) (n : Addr) (l2 : Addr) : Heap := (zm3 h n l2).push { cls := .type "tuple", data := .seq #[.none, .none] }
abbrev zm5 (h : Heap) (n : Addr) (l2 : Addr) : Heap := (zm4 h n l2).push { cls := .type "zip", data := .fields #[.none, .bool false, .bool false, .ref (zm2 h n l2).objs.size, .ref (zm3 h n l2).objs.size] }
theorem mk_zm (n l2 : Addr) (xs ys : Array Value) :
    Meets (Builtin.«zip.__new__» ⟨[.type "zip", .ref n, .ref l2], []⟩) (fun _ R s => s.heap.IsList n xs ∧ s.heap.IsTuple l2 ys ∧ R (.ok (.ret (.ref (zm4 s.heap n l2).objs.size))) { s with heap := zm5 s.heap n l2 }) :=
  .of_wp fun P w A R s h => by
    obtain ⟨hp, g, d, tk, os⟩ := s; obtain ⟨hr, hl2, h⟩ := h
    have hsub := sub_zip
    have hR : Heap.IsList (Shared.heap ⟨hp, g, d, tk, os⟩) n xs := hr
    have hL : Heap.IsTuple (Shared.heap ⟨hp.push { cls := .type "list_iterator", data := .fields #[.ref n, .int 0 0] }, g, d, tk, os⟩) l2 ys := Heap.IsTuple.push hl2 _
    wp_walk using (wpAny_pyIter_list hR), wpAny_pyIter_tuple hL
    exact ⟨_, rfl, h⟩
theorem call_zm {n l2 : Addr} {xs ys : Array Value} {Q : Value → Shared → Prop} (hr : s.heap.IsList n xs) (hl2 : s.heap.IsTuple l2 ys)
    (h : ∀ h', IsZip h' (s.heap.objs.size + 4) (s.heap.objs.size + 2) (s.heap.objs.size + 3) .none → IsPair h' (s.heap.objs.size + 2) (.ref s.heap.objs.size) (.ref (s.heap.objs.size + 1)) →
      IsPair h' (s.heap.objs.size + 3) .none .none → h'.IsListIter s.heap.objs.size n 0 → h'.IsTupleIter (s.heap.objs.size + 1) l2 0 → h'.objs.size = s.heap.objs.size + 5 →
      (∀ c o, s.heap.get? c = some o → h'.get? c = some o) → Q (.ref (s.heap.objs.size + 4)) { s with heap := h' }) :
    wpAny (model P w) A (call (.type "zip") [.ref n, .ref l2]) Q E s := by
  refine callType_new F.called_zip (by decide) (F.typeCall_zip_2 _ _) (F.newCall_zip_2 _ _) (fun obj => F.args_object_init_3 obj _ _) F.entry_zip_new (mk_zm n l2 xs ys) ⟨hr, hl2, ?_⟩
  have z1 : (zm1 s.heap n).objs.size = s.heap.objs.size + 1 := Heap.size_push ..
  have z2 : (zm2 s.heap n l2).objs.size = s.heap.objs.size + 2 := by rw [Heap.size_push, z1]
  have z3 : (zm3 s.heap n l2).objs.size = s.heap.objs.size + 3 := by rw [Heap.size_push, z2]
  have z4 : (zm4 s.heap n l2).objs.size = s.heap.objs.size + 4 := by rw [Heap.size_push, z3]
  have z5 : (zm5 s.heap n l2).objs.size = s.heap.objs.size + 5 := by rw [Heap.size_push, z4]
  have g5 : (zm5 s.heap n l2).get? (zm4 s.heap n l2).objs.size = some _ := Heap.get?_push_size _ rfl
  have g4 : (zm5 s.heap n l2).get? (zm3 s.heap n l2).objs.size = some _ := Heap.get?_push_of_some _ (Heap.get?_push_size _ rfl)
  have g3 : (zm5 s.heap n l2).get? (zm2 s.heap n l2).objs.size = some _ := Heap.get?_push_of_some _ (Heap.get?_push_of_some _ (Heap.get?_push_size _ rfl))
  have g2 : (zm5 s.heap n l2).get? (zm1 s.heap n).objs.size = some _ := Heap.get?_push_of_some _ (Heap.get?_push_of_some _ (Heap.get?_push_of_some _ (Heap.get?_push_size _ rfl)))
  have g1 : (zm5 s.heap n l2).get? s.heap.objs.size = some _ := Heap.get?_push_of_some _ (Heap.get?_push_of_some _ (Heap.get?_push_of_some _ (Heap.get?_push_of_some _ (Heap.get?_push_size _ rfl))))
  show _ ∧ _
  rw [z2, z3, z4] at g5; rw [z1, z2] at g3; rw [z3] at g4; rw [z1] at g2; rw [z4]
  exact ⟨⟨_, g5, rfl⟩, h _ g5 g3 g4 ⟨_, g1, rfl, rfl⟩ ⟨_, g2, rfl, rfl⟩ z5 fun c o x => Heap.get?_push_of_some _ (Heap.get?_push_of_some _ (Heap.get?_push_of_some _ (Heap.get?_push_of_some _ (Heap.get?_push_of_some _ x))))⟩
end
theorem bind_at0 {α β : Type} {x : EM α} {f : α → EM β} {y : α} {Γ Γ' : En} (h : x Γ = .ok y Γ') : EM.bind x f Γ = f y Γ' := by
  unfold EM.bind
  rw [h]
theorem opt_at0 {α : Type} {o : Option α} {y : α} {Γ : En} (h : o = some y) : EM.opt o Γ = .ok y Γ := by
  rw [h]
  rfl

/-- the list at a and the tuple at b, the items in new pairs -/
def Itzm (K : PySem.W.Frag) (a b : Addr) : L2.It :=
  ⟨fun i H => ∃ (xs ys : List V) (x y : V), SqL K H a xs ∧ SqT K H b ys ∧ xs[i]? = some x ∧ ys[i]? = some y,
    fun i H v H' => ∃ T x y, v = .ref T ∧ H T = none ∧ H' = upd H T (.tup [x, y]) ∧ (∀ xs, SqL K H a xs → xs[i]? = some x) ∧ ∀ ys, SqT K H b ys → ys[i]? = some y,
    fun i H => ∃ xs : List V, SqL K H a xs ∧ xs.length ≤ i⟩
abbrev zmSt (z TI TO i1 i2 a b : Addr) (i : Nat) (h : Heap) : Prop := IsZip h z TI TO .none ∧ IsPair h TI (.ref i1) (.ref i2) ∧ (∃ x y, IsPair h TO x y) ∧ h.IsListIter i1 a i ∧ h.IsTupleIter i2 b i
theorem turn_zm {P : Program} {w : World} {K : PySem.W.Frag} {elts : List Expr} {kk : Nat} {tpos : Pos} {a b z TI TO i1 i2 : Addr} (D : ZipApart z TI TO i1 i2 a b) :
    Turn P w K (.Tuple elts kk tpos) (Itzm K a b) [z, TI, TO, i1, i2] z (zmSt z TI TO i1 i2 a b) where
  mem := by simp
  obj := fun i h st c hc => by
    obtain ⟨hz, hTI, ⟨x, y, hTO⟩, ⟨o1, e1, _, d1⟩, ⟨o2, e2, _, d2⟩⟩ := st
    have e' : c = z ∨ c = TI ∨ c = TO ∨ c = i1 ∨ c = i2 := by simpa using hc
    rcases e' with q | q | q | q | q <;> rw [q] <;> first | exact ⟨_, hz, fun v q => nomatch q⟩ | exact ⟨_, hTI, fun v q => nomatch q⟩ | exact ⟨_, hTO, fun v q => nomatch q⟩ | exact ⟨o1, e1, fun v q => by rw [d1] at q; cases q⟩ | exact ⟨o2, e2, fun v q => by rw [d2] at q; cases q⟩
  keep := fun i h h' st k => by
    obtain ⟨hz, hTI, ⟨x, y, hTO⟩, h1, h2⟩ := st
    exact ⟨k z (by simp) _ hz, k TI (by simp) _ hTI, ⟨x, y, k TO (by simp) _ hTO⟩, (h1.at fun o q => k i1 (by simp) o q), (h2.at fun o q => k i2 (by simp) o q)⟩
  item := by
    intro X hP hw hK hc i pins s σ H E I hf st hg
    subst hP hw hK
    obtain ⟨hz, hTI, ⟨x0, y0, hTO⟩, h1, h2⟩ := st
    obtain ⟨xs, ys, x, y, hqx, hqy, hx, hy⟩ := hg
    obtain ⟨its1, rv1, p1, _⟩ := I.list hqx
    obtain ⟨u1, hu1, ru1⟩ := rv1.get hx
    obtain ⟨its2, rv2, p2, _⟩ := I.tuple hqy
    obtain ⟨u2, hu2, ru2⟩ := rv2.get hy
    have hzl : z < s.heap.objs.size := Heap.lt_size hz
    refine py_zm D hz hTI hTO h1 h2 p1.isList p2 (x := u1) (by simpa using hu1) (y := u2) (by simpa using hu2) fun h' z' TO' h1' h2' hT hsz hk => ⟨_, rfl, wpAny_letOwnedTupleGo_zip (s := { s with heap := h' }) z' fun h'' z'' sb => ?_⟩
    have hT2 : h''.get? s.heap.objs.size = some { cls := .type "tuple", data := .seq #[u1, u2] } := (sb.2 _ (Nat.ne_of_gt hzl)).trans hT
    have nw : ObjOk X.prog X.w (upd H s.heap.objs.size (.tup [x, y])) h'' s.heap.objs.size (.tup [x, y]) := ⟨by show 2 ≤ sizeLine; decide, [u1, u2], .cons ru1 (.cons ru2 .nil), ⟨_, hT2, rfl, _, rfl⟩⟩
    have I1 : Inv X pins σ (upd H s.heap.objs.size (.tup [x, y])) { s with heap := h'' } :=
      I.turnedNew (t' := s.toks) (ch := [z, TI, TO, i1, i2]) (fun c o hb q => (sb.2 c (fun q' => hb (by simp [q']))).trans (hk c o (fun q' => hb (by simp [q'])) (fun q' => hb (by simp [q'])) (fun q' => hb (by simp [q'])) (fun q' => hb (by simp [q'])) q)) hf (Nat.le_refl _) nw
    refine ⟨.ref s.heap.objs.size, _, I1, rfl, ⟨_, x, y, rfl, I.hok.fresh (Nat.le_refl _), rfl, fun l hl => by rw [I.list_inj hl hqx]; exact hx, fun l hl => by rw [I.tuple_inj hl hqy]; exact hy⟩, ⟨z'', (sb.2 _ D.TIz).trans (hk _ _ D.TIz D.TITO D.TIi1 D.TIi2 hTI), ⟨_, u2, (sb.2 _ D.TOz).trans TO'⟩, (h1'.at fun o q => (sb.2 _ D.i1z).trans q), (h2'.at fun o q => (sb.2 _ D.i2z).trans q)⟩, fun c hcm => ?_⟩
    have hlt : c < s.heap.objs.size := by
      have e' : c = z ∨ c = TI ∨ c = TO ∨ c = i1 ∨ c = i2 := by simpa using hcm
      rcases e' with q | q | q | q | q <;> rw [q] <;> first | exact hzl | exact Heap.lt_size hTI | exact Heap.lt_size hTO | (obtain ⟨_, e1, _⟩ := h1; exact Heap.lt_size e1) | (obtain ⟨_, e2, _⟩ := h2; exact Heap.lt_size e2)
    rw [upd_ne (Nat.ne_of_lt hlt)]; exact (hf c hcm).1
  done := by
    intro X hP hw hK hc i pins s σ H E I hf st hg
    subst hP hw hK
    obtain ⟨hz, hTI, ⟨x0, y0, hTO⟩, h1, h2⟩ := st
    obtain ⟨xs, hqx, hend⟩ := hg
    obtain ⟨its1, rv1, p1, _⟩ := I.list hqx
    have hl := rv1.length
    exact py_zm_end (k2 := i) (I.ok.hd hc) D hz hTI hTO h1 p1.isList (by simp; omega) fun h' hk => ⟨rfl, I.turnedL (t' := s.toks) (ch := [z, TI, TO, i1, i2]) (fun c o hb q => hk c o (fun q' => hb (by simp [q'])) (fun q' => hb (by simp [q'])) (fun q' => hb (by simp [q'])) (fun q' => hb (by simp [q'])) q) hf⟩
  self := fun A i s Q E st h => wpAny_pyIter_zip st.1 h
/-- vs: a list and a tuple -/
def iZm (K : PySem.W.Frag) (ta : TA) : TI := fun σ H R => ta σ H fun vs H1 => ∃ a b xs ys, vs = [.ref a, .ref b] ∧ SqL K H1 a xs ∧ SqT K H1 b ys ∧ R (Itzm K a b) H1
theorem pi_zm0 {X : Cx} {e e2 : Expr} {ta : TA} {p pos tpos : Pos} {elts : List Expr} {kk : Nat} (hg : Gl X "zip") (hm : X.mg "zip" = none) (ha : PA X [e, e2] ta)
    (hs : starEach [e, e2] X.env = (false, eval e X.env) :: starEach [e2] X.env := by rfl) (hpl : (backTo pos (starEach [e2] X.env)).any (·.1) = false := by rfl) :
    PI X (.Tuple elts kk tpos) (.Call (.Name "zip" p) [e, e2] [] pos) (iZm X.K ta) := by
  refine ⟨fun pins s σ H R I h => Call_ (ld_blt I hg hm PyProof.Rows.boot_zip (PyProof.Rows.callWith_type1 (thn (ha.run pos pins s σ H _ I h) fun us s1 ⟨vs, H1, I1, r1, q1⟩ => ?_) hs hpl))⟩
  obtain ⟨a, b, xs, ys, ex, hqx, hqy, q⟩ := q1
  subst ex
  cases r1 with
  | cons r rr =>
    cases rr with
    | cons r' rr =>
      cases rr; cases r; cases r'
      have fr : ∀ c, c ∈ [s1.heap.objs.size + 4, s1.heap.objs.size + 2, s1.heap.objs.size + 3, s1.heap.objs.size, s1.heap.objs.size + 1] → FpOk X pins H1 c := fun c hcm => by
        have hle : s1.heap.objs.size ≤ c := by
          simp only [List.mem_cons, List.not_mem_nil, or_false] at hcm
          rcases hcm with z | z | z | z | z <;> rw [z] <;> omega
        exact I1.fpOk hle (I1.hok.fresh hle)
      obtain ⟨its1, rv1, p1, _⟩ := I1.list hqx
      obtain ⟨its2, rv2, p2, _⟩ := I1.tuple hqy
      obtain ⟨o2, ho2, _⟩ := id p2
      refine call_zm p1.isList (show s1.heap.IsTuple b its2.toArray from p2) fun h' hz hTI hTO h1 h2 hsz hk => wpAny_pyIter_zip hz ?_
      have I2 : Inv X pins σ H1 { s1 with heap := h' } := I1.kept (t' := s1.toks) hk
      exact ⟨s1.heap.objs.size + 4, [s1.heap.objs.size + 4, s1.heap.objs.size + 2, s1.heap.objs.size + 3, s1.heap.objs.size, s1.heap.objs.size + 1], _, _, H1, rfl, I2, turn_zm (PySem.W.ktu_apart s1.heap.objs.size a b p1.lt (Heap.lt_size ho2)), ⟨hz, hTI, ⟨_, _, hTO⟩, h1, h2⟩, fr, q⟩
section
variable {K : PySem.W.Frag} {F F1 H1 : Hp} {X : Cx} {pos p2 tpos : Pos} {pa pb : Expr} {kk : Nat} {elts : List Expr} {ds : List D}
theorem it_zm {S : Addr → Prop} {a b : Addr} {vs ws : List V} {es : List D} (h1 : F1 a = some (.lst vs)) (r : Reps K F1 vs ds) (h2 : F1 b = some (.tup ws)) (r2 : Reps K F1 ws es) (hle : ds.length ≤ es.length) : ItOk K S F1 H1 (Itzm K a b) ((ds.zip es).map fun p => D.tup [p.1, p.2]) := by
  have hl : ∀ F H, Step F1 H1 S F H → Same F H → SqL K H a vs := fun F H st s => SqL.of (s _ _ (st.fs _ _ h1))
  have hl2 : ∀ F H, Step F1 H1 S F H → Same F H → SqT K H b ws := fun F H st s => SqT.of (s _ _ (st.fs _ _ h2))
  have len : ((ds.zip es).map fun p => D.tup [p.1, p.2]).length = ds.length := by rw [List.length_map, List.length_zip]; omega
  refine ⟨fun F H st s i hi => ?_, fun F H st s i x v H' hx y => ?_, fun F H st s i hi => ⟨vs, hl F H st s, by rw [r.len]; rw [len] at hi; exact hi⟩⟩
  · rw [len] at hi
    obtain ⟨v, z1, z2⟩ := r.get (i := i) (List.getElem?_eq_getElem (by omega))
    obtain ⟨w, z3, z4⟩ := r2.get (i := i) (List.getElem?_eq_getElem (by omega))
    exact ⟨vs, ws, v, w, hl F H st s, hl2 F H st s, z1, z3⟩
  · obtain ⟨T, u, w, rfl, hT, rfl, y, y2⟩ := y
    rw [List.getElem?_map] at hx
    obtain ⟨⟨p, q⟩, h2, rfl⟩ := Option.map_eq_some_iff.mp hx
    rw [List.getElem?_zip_eq_some] at h2
    obtain ⟨v', h4, h5⟩ := r.get h2.1
    obtain ⟨w', h6, h7⟩ := r2.get h2.2
    have := y vs (hl F H st s)
    rw [h4] at this; cases this
    have := y2 ws (hl2 F H st s)
    rw [h6] at this; cases this
    exact .inr ⟨T, HO.tup _, hT, (fun _ z => (nomatch z)), rfl, upd_rep s hT (.cons (h5.up st.fs) (.cons (h7.up st.fs) .nil))⟩
theorem pi_zm {ma mb : EM D} (hg : Gl X "zip") (hm : X.mg "zip" = none) (ha : PA X [pa, pb] (rA X.K (ma.bind fun x => mb.bind fun y => EM.ret [x, y]))) (hn : notStar pa = true) (hn2 : notStar pb = true) : PI X (.Tuple elts kk tpos) (.Call (.Name "zip" p2) [pa, pb] [] pos) (rI X.K (mZipM ma mb)) := PI.weak (pi_zm0 hg hm ha (star_cons hn) (star_plain (by simp [hn2]))) fun σ H R q => by
  obtain ⟨F, Γ, ls, xs, Γ', A, e, k⟩ := q
  obtain ⟨x, Γ1, e1, e⟩ := bind_ok e
  obtain ⟨y, Γ2, e1', e⟩ := bind_ok e
  obtain ⟨e2, rfl⟩ := opt_ok e
  obtain ⟨ys, e3, e4⟩ := Option.map_eq_some_iff.mp e2
  cases e4
  refine ⟨F, Γ, [x, y], _, A, by unfold EM.bind; rw [e1]; dsimp only; rw [e1']; rfl, fun vs F1 H1 s1 A1 g1 r1 => ?_⟩
  cases r1 with
  | cons r rr =>
    cases rr with
    | cons r' rr =>
      cases rr
      unfold zipMx at e3
      split at e3
      · split at e3
        · rename_i hle
          cases e3
          cases r with
          | lst z1 z2 => cases r' with
            | tup z3 z4 => exact ⟨_, _, _, _, rfl, SqL.of (A1.sub _ _ z1), SqT.of (A1.sub _ _ z3), k _ F1 H1 s1 A1 g1 (it_zm z1 z2 z3 z4 hle)⟩
        · cases e3
      · cases e3
theorem pi_zp2 {ma mb : EM D} (hg : Gl X "zip") (hm : X.mg "zip" = none) (ha : PA X [pa, pb] (rA X.K (ma.bind fun x => mb.bind fun y => EM.ret [x, y]))) (hn : notStar pa = true) (hn2 : notStar pb = true) : PI X (.Tuple elts kk tpos) (.Call (.Name "zip" p2) [pa, pb] [] pos) (rI X.K (mZip ma mb)) := PI.weak (PI.or (pi_zm hg hm ha hn hn2) (pi_zp hg hm ha hn hn2)) fun σ H R q => by
  obtain ⟨F, Γ, ls, xs, Γ', A, e, k⟩ := q
  obtain ⟨x, Γ1, e1, e⟩ := bind_ok e
  obtain ⟨y, Γ2, e1', e⟩ := bind_ok e
  obtain ⟨e2, e5⟩ := opt_ok e
  subst e5
  cases hx : zipMx x y with
  | some l =>
    have e2 : (match zipMx x y with | some l => some l | none => zipD x y).map (fun xs => ((none : Option Nat), xs)) = some (ls, xs) := e2
    rw [hx] at e2
    refine .inl ⟨F, Γ, ls, xs, _, A, (bind_at0 e1).trans ((bind_at0 e1').trans (opt_at0 ?_)), k⟩
    rw [hx]
    exact e2
  | none =>
    have e2 : (match zipMx x y with | some l => some l | none => zipD x y).map (fun xs => ((none : Option Nat), xs)) = some (ls, xs) := e2
    rw [hx] at e2
    exact .inr ⟨F, Γ, ls, xs, _, A, (bind_at0 e1).trans ((bind_at0 e1').trans (opt_at0 e2)), k⟩
end
end Rf

set_option Elab.async false
set_option linter.all false
set_option maxRecDepth 100000
set_option maxHeartbeats 4000000
namespace Rf
open PySem PySem.Spec PyProof.Rows L2
variable [Tb] [Wi]

/-! ### what a text is -/
def asName : Expr → Option Str
  | .Name x _ => some x
  | _ => none
def asConst : Expr → Option Const
  | .Constant c _ _ => some c
  | _ => none
def asBin : Expr → Option (Expr × Operator × Expr)
  | .BinOp a o b _ => some (a, o, b)
  | _ => none
def asUn : Expr → Option (UnaryOp × Expr)
  | .UnaryOp o a _ => some (o, a)
  | _ => none
def asBo : Expr → Option (BoolOp × List Expr)
  | .BoolOp o es _ => some (o, es)
  | _ => none
def asCmp : Expr → Option (Expr × List CmpOp × List Expr)
  | .Compare a os bs _ => some (a, os, bs)
  | _ => none
def asIf : Expr → Option (Expr × Expr × Expr)
  | .IfExp a b c _ => some (a, b, c)
  | _ => none
/-- x(e, ..) -/
def asCall : Expr → Option (Str × List Expr)
  | .Call (.Name x _) es [] _ => some (x, es)
  | _ => none
/-- o.f(e, ..), on one line -/
def asMeth : Expr → Option (Expr × Str × List Expr)
  | .Call (.Attribute o f p) es [] q => if p.endLine == q.line then some (o, f, es) else none
  | _ => none
def asAttr : Expr → Option (Expr × Str)
  | .Attribute o f _ => some (o, f)
  | _ => none
def asSub : Expr → Option (Expr × Expr)
  | .Subscript a b _ => some (a, b)
  | _ => none
def asCut : Expr → Option (Expr × Option Expr × Option Expr)
  | .Subscript a (.Slice lo hi none _) _ => some (a, lo, hi)
  | _ => none
def asRev : Expr → Option Expr
  | .Subscript a (.Slice none none (some (.UnaryOp .USub (.Constant (.int 1) _ _) _)) _) _ => some a
  | _ => none
def asTup : Expr → Option (List Expr)
  | .Tuple es _ _ => some es
  | _ => none
def asLst : Expr → Option (List Expr)
  | .List es _ => some es
  | _ => none
/-- raise x(e, ..) -/
def asRaise : Stmt → Option (Str × List Expr)
  | .Raise (some (.Call (.Name x _) es [] _)) none _ => some (x, es)
  | _ => none
def asDct : Expr → Option (List (Option Expr) × List Expr)
  | .Dict ks vs _ => some (ks, vs)
  | _ => none
def asComp : Expr → Option (Expr × Expr × Expr × List Expr × Scope)
  | .ListComp e [⟨t, i, c, 0⟩] sc _ => some (e, t, i, c, sc)
  | _ => none
section
variable {e a b c o : Expr} {x f : Str} {es : List Expr}
theorem asName_eq (h : asName e = some x) : ∃ p, e = .Name x p := by cases e <;> first | (cases h; exact ⟨_, rfl⟩) | cases h
theorem asConst_eq {c : Const} (h : asConst e = some c) : ∃ k p, e = .Constant c k p := by cases e <;> first | (cases h; exact ⟨_, _, rfl⟩) | cases h
theorem asBin_eq {q : Operator} (h : asBin e = some (a, q, b)) : ∃ p, e = .BinOp a q b p := by cases e <;> first | (cases h; exact ⟨_, rfl⟩) | cases h
theorem asUn_eq {q : UnaryOp} (h : asUn e = some (q, a)) : ∃ p, e = .UnaryOp q a p := by cases e <;> first | (cases h; exact ⟨_, rfl⟩) | cases h
theorem asBo_eq {q : BoolOp} (h : asBo e = some (q, es)) : ∃ p, e = .BoolOp q es p := by cases e <;> first | (cases h; exact ⟨_, rfl⟩) | cases h
theorem asCmp_eq {os : List CmpOp} (h : asCmp e = some (a, os, es)) : ∃ p, e = .Compare a os es p := by cases e <;> first | (cases h; exact ⟨_, rfl⟩) | cases h
theorem asIf_eq (h : asIf e = some (a, b, c)) : ∃ p, e = .IfExp a b c p := by cases e <;> first | (cases h; exact ⟨_, rfl⟩) | cases h
theorem asCall_eq (h : asCall e = some (x, es)) : ∃ p q, e = .Call (.Name x p) es [] q := by
  unfold asCall at h
  split at h
  · cases h; exact ⟨_, _, rfl⟩
  · cases h
theorem asRaise_eq {st : Stmt} (h : asRaise st = some (x, es)) : ∃ p q r, st = .Raise (some (.Call (.Name x p) es [] q)) none r := by
  unfold asRaise at h
  split at h
  · cases h; exact ⟨_, _, _, rfl⟩
  · cases h
theorem asMeth_eq (h : asMeth e = some (o, f, es)) : ∃ p q, e = .Call (.Attribute o f p) es [] q ∧ (p.endLine == q.line) = true := by
  unfold asMeth at h
  split at h
  · split at h
    · rename_i hl; cases h; exact ⟨_, _, rfl, hl⟩
    · cases h
  · cases h
theorem asAttr_eq (h : asAttr e = some (o, f)) : ∃ p, e = .Attribute o f p := by cases e <;> first | (cases h; exact ⟨_, rfl⟩) | cases h
theorem asSub_eq (h : asSub e = some (a, b)) : ∃ p, e = .Subscript a b p := by cases e <;> first | (cases h; exact ⟨_, rfl⟩) | cases h
theorem asCut_eq {lo hi : Option Expr} (h : asCut e = some (a, lo, hi)) : ∃ p q, e = .Subscript a (.Slice lo hi none p) q := by
  unfold asCut at h
  split at h
  · cases h; exact ⟨_, _, rfl⟩
  · cases h
theorem asRev_eq (h : asRev e = some a) : ∃ k p1 p2 p3 p4, e = .Subscript a (.Slice none none (some (.UnaryOp .USub (.Constant (.int 1) k p1) p2)) p3) p4 := by
  unfold asRev at h
  split at h
  · cases h; exact ⟨_, _, _, _, _, rfl⟩
  · cases h
theorem asTup_eq (h : asTup e = some es) : ∃ k p, e = .Tuple es k p := by cases e <;> first | (cases h; exact ⟨_, _, rfl⟩) | cases h
theorem asLst_eq (h : asLst e = some es) : ∃ p, e = .List es p := by cases e <;> first | (cases h; exact ⟨_, rfl⟩) | cases h
theorem asDct_eq {ks : List (Option Expr)} (h : asDct e = some (ks, es)) : ∃ p, e = .Dict ks es p := by cases e <;> first | (cases h; exact ⟨_, rfl⟩) | cases h
theorem asComp_eq {sc : Scope} (h : asComp e = some (a, b, c, es, sc)) : ∃ p, e = .ListComp a [⟨b, c, es, 0⟩] sc p := by
  unfold asComp at h
  split at h
  · cases h; exact ⟨_, rfl⟩
  · cases h
end

def nmB (x : Str) : Bool := !(x == ("__debug__" : Str)) && !(x == ("__classdict__" : Str)) && !(x == ("__name__" : Str))
section
variable {x : Str}
theorem nm_ok (h : nmB x = true) : (x == ("__debug__" : Str)) = false ∧ (x == ("__classdict__" : Str)) = false ∧ x ≠ "__name__" := by
  unfold nmB at h
  simp only [Bool.and_eq_true, Bool.not_eq_true'] at h
  exact ⟨h.1.1, h.1.2, fun z => by rw [z] at h; exact absurd h.2 (by decide)⟩
end
end Rf

set_option Elab.async false
set_option linter.all false
set_option maxRecDepth 100000
set_option maxHeartbeats 1000000
namespace Rf
open PySem PySem.Spec PyProof.Rows L2
/-! ### a caught error: its class, its fields -/
/-- the context knows the caught error: its class C, its dict at dx -/
structure Caught (X : Cx) (p : Addr × Obj) (C dx : Addr) : Prop where
  mem : p ∈ X.pn
  z : L2N.Zn (.ref C) (some dx) p.2
  fl : ∃ vs, p.2.data = .fields vs
/-- what the class says -/
structure CauC (K : PySem.W.Frag) (C : Addr) : Prop where
  is : ExcC K C
  cl : (PySem.W.clsIn K C).isSome = true
section
variable {X : Cx} {p : Addr × Obj} {C dx : Addr} {fs : List (Str × V)}
theorem Caught.inst {pins : List (Addr × Obj)} {σ : L2.St} {H : Hp} {s : Shared} (c : Caught X p C dx) (I : Inv X pins σ H s) (e : H dx = some (.xd fs)) : ∃ od, PySem.W.InstAt s.heap p.1 p.2 C (some od) ∧ ∃ mA : Str → Option Value, (∀ f, RelO (fs.lookup f) (mA f)) ∧ ∀ f, PySem.W.lookIn f od = some (mA f) := by
  obtain ⟨hget, _⟩ := I.pin p (List.mem_append_left _ c.mem)
  obtain ⟨vs, hd⟩ := c.fl
  have hx : ObjOk X.prog X.w H s.heap dx (.xd fs) := I.hok dx _ e
  obtain ⟨mA, hns, hr⟩ := hx
  obtain ⟨od, ho, hl⟩ := lookIn_ns hns
  refine ⟨od, ⟨hget, c.z.1, ?_, ?_⟩, mA, hr, hl⟩
  · unfold PySem.W.notCls
    rw [hd] <;> rfl
  · rw [c.z.2.1]; exact ho
/-- isinstance(e, c) -/
def rCau (K : PySem.W.Frag) (C dx a : Addr) (fs : List (Str × V)) : List V → Hp → VK → Prop := fun xs H Q => ∃ (c : V) (cv : Value) (b : Bool), xs = [.ref a, c] ∧ (∀ u, RelV c u → u = cv) ∧ PySem.W.kitOne K (.ref C) cv = some b ∧ H dx = some (.xd fs) ∧ Q (.bl b) H
theorem call_cau (k : CauC X.K C) (c : Caught X p C dx) : CallR X (.builtin "isinstance") (rCau X.K C dx p.1 fs) := by
  intro pins s σ H xs us Q I r h
  obtain ⟨v, cv, b, rfl, hcv, e, hd, q⟩ := h
  cases r with
  | cons rx rr =>
    cases rr with
    | cons rt rr =>
      cases rr
      cases rx
      cases hcv _ rt
      obtain ⟨od, J, _⟩ := c.inst I hd
      exact PySem.W.kia_one (PySem.W.kitx_exc k.cl k.is.hg k.is.hk k.is.hs k.is.ha k.is.hn k.is.ht k.is.hm) I.kIn J e (fun z => nomatch z) fun tk => ⟨.bl b, H, I.kept (t' := tk) fun _ _ z => z, rfl, q⟩
variable [Tb]
/-- the name that holds it -/
def excAt (i : Nat) (a : Addr) (r : Option R) : EM R := fun Γ => match Γ[i]? with
  | some (some (.fr (.exc b))) => if b = a then (match r with
    | some r => .ok r Γ
    | none => .no) else .no
  | _ => .no
theorem excAt_ok {i : Nat} {a : Addr} {r : Option R} {Γ Γ' : En} {y : R} (e : excAt i a r Γ = .ok y Γ') : Γ[i]? = some (some (.fr (.exc a))) ∧ r = some y ∧ Γ' = Γ := by
  unfold excAt at e
  split at e
  · rename_i b h
    split at e
    · rename_i hb
      subst hb
      cases r with
      | none => cases e
      | some r => cases e; exact ⟨h, rfl, rfl⟩
    · cases e
  · cases e
theorem excAt_v {K : PySem.W.Frag} {F H : Hp} {σ : L2.St} {Γ : En} {i : Nat} {a : Addr} (A : At K F H σ Γ) (h : Γ[i]? = some (some (.fr (.exc a)))) : σ[i]? = some (some (.ref a)) := by
  obtain ⟨v, e, r⟩ := A.fr i _ h
  cases r
  exact e
theorem q_is {i : Nat} {e c : Str} {p1 p2 p3 p4 : Pos} {D : Addr} {b : Bool} (k : CauC X.K C) (cau : Caught X p C dx) (hf : Tb.F0 dx = some (.xd fs)) (hN : X.N[i]? = some e) (hv : Vis X.env.scope e) (hd : (e == ("__debug__" : Str)) = false) (hcd : (e == ("__classdict__" : Str)) = false)
    (hg : Gl X "isinstance") (hm : X.mg "isinstance" = none) (hc : Gl X c) (hmc : X.mg c = some (.ref D)) (hdc : (c == ("__debug__" : Str)) = false) (hk : PySem.W.kitOne X.K (.ref C) (.ref D) = some b) :
    PE X (.Call (.Name "isinstance" p1) [.Name e p2, .Name c p3] [] p4) (rE X.K (excAt i p.1 (some (.d (.bl b))))) :=
  PE.weak (pe_callB (call_cau (fs := fs) k cau) hg hm boot_isinstance (pa_cons (pe_var hN hv hd hcd) (pa_cons (pe_glob (v := .ref D) hc hmc rfl hdc) pa_nil (star_cons rfl)) (star_cons rfl)) (by decide) (by decide) (star_cons rfl) (star_plain rfl)) fun σ H Q q => by
    obtain ⟨F, Γ, r, Γ', A, e1, z⟩ := q
    obtain ⟨h1, h2, rfl⟩ := excAt_ok e1
    cases h2
    refine ⟨.ref p.1, excAt_v A h1, ?_⟩
    exact ⟨.ref D, .ref D, b, rfl, fun u ru => ru, hk, A.sub _ _ (A.f0 _ _ hf), z _ F H (Step.refl ..) A (ES.refl _) (.bl b)⟩
/-- among fields of unlike names -/
theorem lk_zip {f : Str} : ∀ {ns : List Str} {vs : List V} {ds : List D} {d : D} {K : PySem.W.Frag} {F : Hp}, lk f ns ds = some d → ns.length = vs.length → Reps K F vs ds → ∃ v, (f, v) ∈ ns.zip vs ∧ Rep K F v d
  | n :: ns, v :: vs, _, d, K, F, h, hl, .cons r rs => by
    unfold lk at h
    split at h
    · rename_i hn
      cases h
      exact ⟨v, by rw [hn]; exact List.mem_cons_self, r⟩
    · obtain ⟨w, h1, h2⟩ := lk_zip h (by simpa using hl) rs
      exact ⟨w, List.mem_cons_of_mem _ h1, h2⟩
  | [], _, _, d, _, _, h, _, _ => by cases h
theorem look_nd {f : Str} {v : V} : ∀ {l : List (Str × V)}, (l.map (·.1)).Nodup → (f, v) ∈ l → l.lookup f = some v
  | (g, w) :: l, nd, h => by
    rw [List.map_cons, List.nodup_cons] at nd
    rw [List.lookup_cons]
    rcases List.mem_cons.mp h with h | h
    · cases h
      simp
    · have hne : f ≠ g := fun z => nd.1 (by rw [← z]; exact List.mem_map_of_mem (f := (·.1)) h)
      rw [show (f == g) = false from beq_eq_false_iff_ne.mpr hne]
      exact look_nd nd.2 h
theorem q_xf {i : Nat} {e f : Str} {p1 p2 : Pos} {ns : List Str} {vs : List V} {ds : List D} (T : XfC X.K C) (hno : PySem.W.findIn X.K (.ref C) f = some none) (cau : Caught X p C dx) (hf : Tb.F0 dx = some (.xd (ns.zip vs).reverse)) (hl : ns.length = vs.length) (hr : Reps X.K Tb.F0 vs ds) (nd : ns.Nodup)
    (hN : X.N[i]? = some e) (hv : Vis X.env.scope e) (hd : (e == ("__debug__" : Str)) = false) (hcd : (e == ("__classdict__" : Str)) = false) : PE X (.Attribute (.Name e p1) f p2) (rE X.K (excAt i p.1 ((lk f ns ds).map R.d))) := by
  refine ⟨fun pins s σ H Q I h => ?_⟩
  obtain ⟨F, Γ, r, Γ', A, e1, z⟩ := h
  obtain ⟨h1, h2, rfl⟩ := excAt_ok e1
  obtain ⟨d, h3, rfl⟩ := Option.map_eq_some_iff.mp h2
  obtain ⟨v, hm, rv⟩ := lk_zip h3 hl hr
  have hlk : ((ns.zip vs).reverse).lookup f = some v := look_nd (by rw [List.map_reverse, List.map_fst_zip (by omega)]; exact (List.reverse_perm _).nodup_iff.mpr nd) (List.mem_reverse.mpr hm)
  refine attr_of (by rfl) (thn ((pe_var (pos := p1) hN hv hd hcd).run pins s σ H (fun x H1 => x = .ref p.1 ∧ H1 = H) I ⟨_, excAt_v A h1, rfl, rfl⟩) fun u s1 hh => ?_)
  obtain ⟨x, H1, I1, rx, rfl, rfl⟩ := hh
  cases (show u = Value.ref p.1 from rx)
  obtain ⟨od, J, mA, hrel, hlo⟩ := cau.inst I1 (A.sub _ _ (A.f0 _ _ hf))
  obtain ⟨u, hu, ru⟩ := RelO.some_of (v := v) (o := mA f) (by rw [← hlk]; exact hrel f)
  exact HandSPX.exc_get I1.kIn J T.ga T.gg T.exC (PySem.W.findObj_own T.hdC hno rfl (by rw [hlo f, hu])) (handed_of ru) ⟨v, H1, I1.tok _, ru, z v F H1 (Step.refl ..) A (ES.refl _) (rv.up A.f0)⟩
end
end Rf

set_option Elab.async false
set_option linter.all false
set_option maxRecDepth 100000
set_option maxHeartbeats 2000000
namespace Rf
open PySem PySem.Spec PyProof.Rows L2
variable [Tb] [Wi]
/-! ### how an error is told: `if isinstance(e, C): found.append((item, ..))` -/
def isNm (e : Str) (pe : Expr) : Bool := decide (asName pe = some e)
def isFld (e f : Str) (pe : Expr) : Bool := match asAttr pe with
  | some (o, g) => decide (g = f) && isNm e o
  | none => false
def kiB (e : Str) : Ki → Expr → Bool
  | .lit x, pe => decide (asConst pe = some (.str x))
  | .fld f, pe => isFld e f pe
  | .rep f, pe => match asCall pe with
    | some (x, [o]) => decide (x = "repr") && isFld e f o
    | _ => false
def kisB (e : Str) : List Ki → List Expr → Bool
  | [], [] => true
  | k :: ks, pe :: es => kiB e k pe && kisB e ks es
  | _, _ => false
def rowB (e fo : Str) (r : Str × List Ki) : Stmt → Bool
  | .If t [.Expr ap _] [] _ => (match asCall t with
    | some (x, [a, b]) => decide (x = "isinstance") && isNm e a && isNm r.1 b
    | _ => false) && (match asMeth ap with
    | some (o, f, [tu]) => isNm fo o && decide (f = "append") && (match asTup tu with
      | some es => kisB e r.2 es
      | none => false)
    | _ => false)
  | _ => false
/-- what the items read -/
def kiE (a : Addr) (c : Xc) : Ki → EM R
  | .lit x => EM.ret (.d (.str x))
  | .fld f => excAt 0 a ((lk f c.ns c.ds).map .d)
  | .rep f => (excAt 0 a ((lk f c.ns c.ds).map .d)).v.bind fun x => EM.opt ((reprD x).map fun s => R.d (.str s))
def kisE (a : Addr) (c : Xc) : List Ki → EM (List D)
  | [] => EM.ret []
  | k :: ks => (kiE a c k).v.bind fun x => (kisE a c ks).bind fun xs => EM.ret (x :: xs)
def rowE (a : Addr) (c : Xc) (r : Str × List Ki) : En → Fl := fun Γ => match ((excAt 0 a (some (.d (.bl (decide (r.1 = c.C)))))).v.bind fun x => EM.opt (truD x)) Γ with
  | .no => .no
  | .ok true Γ1 => (match (match mMut .append 1 (((kisE a c r.2).bind fun ds => EM.opt (if ds.length ≤ 1000 then some (R.d (.tup ds)) else none)).v.bind fun x => (EM.ret []).bind fun xs => EM.ret (x :: xs)) Γ1 with
    | .no => xrf (fun _ => none) Γ1
    | .ok _ Γ2 => .nx Γ2) with
    | .nx Γ2 => .nx Γ2
    | f => f)
  | .ok false Γ1 => .nx Γ1
def rowsE (a : Addr) (c : Xc) : List (Str × List Ki) → En → Fl
  | [], Γ => .nx Γ
  | r :: rs, Γ => match rowE a c r Γ with
    | .nx Γ1 => rowsE a c rs Γ1
    | f => f
/-- where such a text runs -/
structure KX (X : Cx) (p : Addr × Obj) (dx : Addr) (c : Xc) (vs : List V) (en fo' : Str) : Prop where
  cau : Caught X p (He.ga X.K c.C) dx
  cls : CauC X.K (He.ga X.K c.C)
  xf : XfC X.K (He.ga X.K c.C)
  nof : ∀ f ∈ c.ns, PySem.W.findIn X.K (.ref (He.ga X.K c.C)) f = some none
  nd : c.ns.Nodup
  len : c.ns.length = vs.length
  f0 : Tb.F0 dx = some (.xd (c.ns.zip vs).reverse)
  rep : Reps X.K Tb.F0 vs c.ds
  e : X.N[0]? = some en
  ve : Vis X.env.scope en
  ne : nmB en = true
  fo : X.N[1]? = some fo'
  vf : Vis X.env.scope fo'
  nf : nmB fo' = true
  gu : X.A.guards = some []
  sys : ∃ o, X.K.lookup sysModules = some o
  un : X.A.units + 65 < cLine
  gi : Gl X "isinstance"
  mi : X.mg "isinstance" = none
  gr : Gl X "repr"
  mr : X.mg "repr" = none
/-- a class that is asked for -/
structure KR (X : Cx) (c : Xc) (r : Str) : Prop where
  gl : Gl X r
  mg : X.mg r = some (.ref (He.ga X.K r))
  nm : nmB r = true
  is : PySem.W.kitOne X.K (.ref (He.ga X.K c.C)) (.ref (He.ga X.K r)) = some (decide (r = c.C))
section
variable {X : Cx} {p : Addr × Obj} {dx : Addr} {c : Xc} {vs : List V} {e fo : Str}
theorem lk_in {f : Str} {d : D} : ∀ {ns : List Str} {ds : List D}, lk f ns ds = some d → f ∈ ns
  | n :: ns, [], h => by cases h
  | n :: ns, d' :: ds, h => by
    unfold lk at h
    split at h
    · rename_i hn; rw [hn]; exact List.mem_cons_self
    · exact List.mem_cons_of_mem _ (lk_in h)
  | [], _, h => by cases h
theorem isNm_eq {x : Str} {pe : Expr} (h : isNm x pe = true) : ∃ q, pe = .Name x q := asName_eq (of_decide_eq_true h)
theorem fld_ok (k : KX X p dx c vs e fo) {f : Str} {pe : Expr} (h : isFld e f pe = true) : PE X pe (rE X.K (excAt 0 p.1 ((lk f c.ns c.ds).map .d))) := by
  unfold isFld at h
  split at h
  · rename_i o g hx
    obtain ⟨q, rfl⟩ := asAttr_eq hx
    rw [Bool.and_eq_true, decide_eq_true_eq] at h
    obtain ⟨rfl, h⟩ := h
    obtain ⟨q2, rfl⟩ := isNm_eq h
    obtain ⟨n1, n2, _⟩ := nm_ok k.ne
    by_cases hg : g ∈ c.ns
    · exact q_xf k.xf (k.nof g hg) k.cau k.f0 k.len k.rep k.nd k.e k.ve n1 n2
    · refine ⟨fun pins s σ H Q I h => ?_⟩
      obtain ⟨F, Γ, r, Γ', A, e1, _⟩ := h
      obtain ⟨_, h2, _⟩ := excAt_ok e1
      obtain ⟨d, h3, _⟩ := Option.map_eq_some_iff.mp h2
      exact absurd (lk_in h3) hg
  · cases h
theorem ki_ok (k : KX X p dx c vs e fo) : ∀ {i : Ki} {pe : Expr}, kiB e i pe = true → PE X pe (rE X.K (kiE p.1 c i)) ∧ notStar pe = true
  | .lit x, pe, h => by
    obtain ⟨u, q, rfl⟩ := asConst_eq (of_decide_eq_true h)
    exact ⟨s_const pe_str fun F => .str x, rfl⟩
  | .fld f, pe, h => by
    refine ⟨fld_ok k h, ?_⟩
    have h : isFld e f pe = true := h
    unfold isFld at h
    split at h
    · rename_i o g hx
      obtain ⟨q, rfl⟩ := asAttr_eq hx
      rfl
    · cases h
  | .rep f, pe, h0 => by
    have h : (match asCall pe with
      | some (x, [o]) => decide (x = "repr") && isFld e f o
      | _ => false) = true := h0
    clear h0
    split at h
    · rename_i x o hx
      obtain ⟨q1, q2, rfl⟩ := asCall_eq hx
      rw [Bool.and_eq_true, decide_eq_true_eq] at h
      obtain ⟨rfl, h⟩ := h
      obtain ⟨ob, hs⟩ := k.sys
      have hn : notStar o = true := by
        unfold isFld at h
        split at h
        · rename_i o2 g hx
          obtain ⟨q, rfl⟩ := asAttr_eq hx
          rfl
        · cases h
      exact ⟨s_repr hs k.gu (by have := k.un; omega) k.gr k.mr (rP_of (rD_of (fld_ok k h))) hn, rfl⟩
    · cases h
theorem kis_ok (k : KX X p dx c vs e fo) : ∀ {is : List Ki} {es : List Expr}, kisB e is es = true → PA X es (rA X.K (kisE p.1 c is))
  | [], [], _ => s_anil
  | i :: is, pe :: es, h => by
    unfold kisB at h
    rw [Bool.and_eq_true] at h
    obtain ⟨h1, h2⟩ := ki_ok k h.1
    exact s_acons (rD_of h1) (kis_ok k h.2) h2
  | [], _ :: _, h => by cases h
  | _ :: _, [], h => by cases h
theorem row_ok (k : KX X p dx c vs e fo) {r : Str × List Ki} (kr : KR X c r.1) {st : Stmt} (h : rowB e fo r st = true) : PS X st (rS X.K (rowE p.1 c r)) := by
  unfold rowB at h
  split at h
  · rename_i t ap ps ps2
    rw [Bool.and_eq_true] at h
    obtain ⟨h1, h2⟩ := h
    split at h1
    · rename_i x a b hx
      obtain ⟨q1, q2, rfl⟩ := asCall_eq hx
      simp only [Bool.and_eq_true, decide_eq_true_eq] at h1
      obtain ⟨⟨rfl, ha⟩, hb⟩ := h1
      obtain ⟨q3, rfl⟩ := isNm_eq ha
      obtain ⟨q4, rfl⟩ := isNm_eq hb
      split at h2
      · rename_i o f tu hx2
        obtain ⟨q5, q6, rfl, hl⟩ := asMeth_eq hx2
        simp only [Bool.and_eq_true, decide_eq_true_eq] at h2
        obtain ⟨⟨ho, rfl⟩, ht⟩ := h2
        obtain ⟨q7, rfl⟩ := isNm_eq ho
        split at ht
        · rename_i es hx3
          obtain ⟨q8, q9, rfl⟩ := asTup_eq hx3
          obtain ⟨n1, n2, _⟩ := nm_ok k.ne
          obtain ⟨f1, f2, _⟩ := nm_ok k.nf
          obtain ⟨c1, _, _⟩ := nm_ok kr.nm
          have t1 : typeOf (.builtin "list.append") = pure (.type "method_descriptor") := by show builtinType _ = _; rw [builtinType_eq_fast]; kernel_rfl
          have hm := s_mut (apos := q5) (pos := q6) PySem.F.slot_list_append t1 mn_append (pe_var (pos := q7) k.fo k.vf f1 f2) (s_acons (rD_of (s_tup (k0 := q8) (pos := q9) (kis_ok k ht))) s_anil rfl) rfl (by decide) rfl hl
          exact i_ite (t_val (rP_of (rD_of (q_is k.cls k.cau k.f0 k.e k.ve n1 n2 k.gi k.mi kr.gl kr.mg c1 kr.is))) rfl) (b_cons (i_exp hm px_none rfl) b_nil) b_nil
        · cases ht
      · cases h2
    · cases h1
  · cases h
def rowsB (e fo : Str) : List (Str × List Ki) → List Stmt → Bool
  | [], [] => true
  | r :: rs, st :: sts => rowB e fo r st && rowsB e fo rs sts
  | _, _ => false
theorem rows_ok (k : KX X p dx c vs e fo) : ∀ {rs : List (Str × List Ki)} {sts : List Stmt}, (∀ r ∈ rs, KR X c r.1) → rowsB e fo rs sts = true → PSs X sts (rS X.K (rowsE p.1 c rs))
  | [], [], _, _ => b_nil
  | r :: rs, st :: sts, kr, h => by
    unfold rowsB at h
    rw [Bool.and_eq_true] at h
    exact b_cons (row_ok k (kr r List.mem_cons_self) h.1) (rows_ok k (fun x hx => kr x (List.mem_cons_of_mem _ hx)) h.2)
  | [], _ :: _, _, h => by cases h
  | _ :: _, [], _, h => by cases h
end
end Rf

set_option Elab.async false
set_option linter.all false
set_option maxRecDepth 100000
set_option maxHeartbeats 2000000
namespace Rf
open PySem PySem.Spec PyProof.Rows L2
/-! ### a def that is called while an error is handled -/
theorem run_hot {CX : CXT} {P : Program} {w : World} {K : PySem.W.Frag} {mg : Str → Option Value} {base : Heap} {x qual : Str} {params : Arguments} {body : List Stmt} {scope : Scope} {f : Addr} {fd : FuncData} {N ps : List Str} {k : Nat} (F : FunD K x qual params body scope [] [] f fd) (S : FnScope N ps scope)
    {A : Around} {outer : List Env} {s : Shared} {H : Hp} {args : Args} {us : List Value} {vs : List V} {Q : VK} {E : XK} {p : Addr × Obj} (room : L2H.RoomH (k + 1) A) (pin : L2H.PinOk outer H s p) (e0 : Env0 P w K mg base A outer s H) (bt : BindsTo s fd args (ps.zip us)) (r : Vals vs us) (len : vs.length = ps.length)
    (text : ∀ cdv, L2H.RoomH k (A.deeper (envOfC qual scope s.heap.objs.size f cdv)) → ∃ t, PSs (L2H.cxH CX P w K mg base N qual scope f cdv A outer s H E p) body t ∧ t { nx := fun _ H1 => Q .non H1, rt := Q } (L2.start N vs) H) : codeAny (model P w) A (.call (.ref f) args) (CR CX outer P w H s Q E) s := by
  obtain ⟨oc, od, dV, kV, doc, pm, an, cdv, ct, osl, hfd, look, code, _, _⟩ := F.ex
  subst hfd
  have inb : ∀ b o, base.get? b = some o → s.heap.get? b = some o := fun b o e => (e0.bs b o e).1
  have KX := e0.mod.kin.keeps inb
  have nl := e0.mod.nolimit.keeps inb
  refine codeAny_call_function room.depth (KX _ _ look) rfl S.co S.gen rfl (PySem.W.codeRec_of KX code) (bt _ _ _ _ (wpAny_newFunctionEnv_cells S.kind (fun y hy => ?_) fun env he s1 entered => ?_))
  · have hm := (List.of_mem_zip (show (y.1, y.2) ∈ ps.zip us from hy)).1
    exact (S.par y.1 hm).imp id fun q => ⟨q, PySem.W.cellsFrom_some _ _ _ (.inl q)⟩
  · subst he
    obtain ⟨t, walk, start⟩ := text cdv (room.deeper _)
    have J := L2H.inv_startH (CX := CX) (qual := qual) (f := f) (cd := cdv) (E := E) S pin e0 len r entered
    refine ⟨nl.keeps entered.toInCall.keep, codeAny_func (wpAny_mono (walk.run [] s1 _ H _ J start) (fun fl s2 done => ?_) fun e s2 z => z)⟩
    match fl, done with
    | .ret u, ⟨v, σ1, H1, J1, rv, q⟩ => exact ⟨v, H1, J1.os, J1.bare, J1.base, J1.hok, rv, q⟩
    | .next, ⟨σ1, H1, J1, q⟩ => exact ⟨.non, H1, J1.os, J1.bare, J1.base, J1.hok, rfl, q⟩
    | .brk, ⟨_, _, _, q⟩ => exact q.elim
    | .cont, ⟨_, _, _, q⟩ => exact q.elim
section
variable [tb : Tb]
/-- it tells the handled error: res -/
structure FnK (P : Program) (w : World) (K : PySem.W.Frag) (mg : Str → Option Value) (base : Heap) (k : Nat) (f : Addr) (fd : FuncData) (e : Str) (c : Xc) (res : List D) : Prop where
  run : ∀ (A : Around) (outer : List Env) (s : Shared) (H F : Hp) (args : Args) (p : Addr × Obj) (dx : Addr) (vs : List V) (Q : VK), L2H.RoomH k A → A.guards = some [] → L2H.Hot1 A p → L2H.PinOk outer H s p → L2N.Zn (.ref (He.ga K c.C)) (some dx) p.2 →
    Env0 P w K mg base A outer s H → BindsTo s fd args [(e, .ref p.1)] → F dx = some (.xd (c.ns.zip vs).reverse) → c.ns.length = vs.length → Reps K F vs c.ds → Same F H → TabF tb.T F H →
    (∀ v F' H', Step F H (fun _ => False) F' H' → Same F' H' → TabF tb.T F' H' → RRep K H F' H' v (.m (.lst res)) → Q v H') → codeAny (model P w) A (.call (.ref f) args) (CR (L2N.CX P w) outer P w H s Q noE) s
variable [Wi]
section
variable {X : Cx} {p : Addr × Obj} {dx : Addr} {c : Xc} {vs : List V} {e fo : Str}
/-- g(e) -/
theorem pe_callK {k : Nat} {fa : Addr} {fd : FuncData} {g e' : Str} {res : List D} {p1 p2 q : Pos} (o : FnK X.prog X.w X.K X.mg X.base k fa fd e' c res) (x : KX X p dx c vs e fo) (room : L2H.RoomH k X.A) (hot : L2H.Hot1 X.A p) (gl : Gl X g) (hm : X.mg g = some (.ref fa)) (kp : PySem.W.keepIn X.K (.ref fa) = true) (b : Binds X.K fd [e'] []) (hd : (g == ("__debug__" : Str)) = false) :
    PE X (.Call (.Name g p1) [.Name e p2] [] q) (rE X.K (excAt 0 p.1 (some (.m (.lst res))))) := by
  obtain ⟨n1, n2, _⟩ := nm_ok x.ne
  refine ⟨fun pins s σ H Q I h => ?_⟩
  obtain ⟨F, Γ, r, Γ', A, e1, z⟩ := h
  obtain ⟨h1, h2, rfl⟩ := excAt_ok e1
  cases h2
  have ha : PA X [.Name e p2] (tCons (tVar 0) tNil) := pa_cons (pe_var x.e x.ve n1 n2) pa_nil (star_cons rfl)
  refine wpAny_Call_Name_kw (ld_glob I gl hm (PySem.W.callWith_K (h₀ := X.base) I.ok.mod.kin kp (thn (ha.run q pins s σ H (fun ws H1 => ws = [.ref p.1] ∧ H1 = H) I ⟨_, excAt_v A h1, rfl, rfl⟩) fun us s1 hh => ?_) (star_cons rfl) (star_plain rfl)) hd)
  obtain ⟨ws, H1, J, rv, rfl, rfl⟩ := hh
  refine ⟨J.kIn, ?_⟩
  rw [Vals.ref1 rv]
  have bb := b s1 [.ref p.1] J.kIn rfl
  have P1 := J.pin p (List.mem_append_left _ x.cau.mem)
  have pin : L2H.PinOk X.stack H1 s1 p := ⟨P1.1, P1.2.1, fun hm => (List.mem_cons.mp (J.stkSub p.1 hm)).elim P1.2.2.1 P1.2.2.2.1, P1.2.2.2.2⟩
  refine wpAny_call (codeAny_mono (o.run X.A X.stack s1 H1 F _ p dx vs Q room x.gu hot pin x.cau.z J.env0 bb (A.f0 _ _ x.f0) x.len (x.rep.up A.f0) A.sub A.tab fun v F2 H2 st sm tab rr => ?_) fun res t ht => match res, ht with
    | .error e, ht => passN σ pins H1 s1 e t J ht
    | .ok (.ret _), ht => J.after ht
    | .ok .next, ht => (show False from ht).elim
    | .ok .brk, ht => (show False from ht).elim
    | .ok .cont, ht => (show False from ht).elim)
  exact z v F2 H2 ((Step.refl _ _ _).trans st fun _ q => q.elim) (A.step st tab sm fun _ _ q => q) (ES.refl _) rr
end
end
end Rf

set_option Elab.async false
set_option linter.all false
set_option maxRecDepth 100000
set_option maxHeartbeats 2000000
namespace Rf
open PySem PySem.Spec PyProof.Rows L2
/-! ### the defs that tell an error: text and law -/
def headB (fo : Str) : Stmt → Bool
  | .Assign [t] (.List [] _) _ => isNm fo t
  | _ => false
def retB (fo : Str) : Stmt → Bool
  | .Return (some a) _ => isNm fo a
  | _ => false
/-- return found + g(e) -/
def retB2 (e fo g : Str) : Stmt → Bool
  | .Return (some (.BinOp a op b _)) _ => isNm fo a && decide (op = BOp.add.py) && (match asCall b with
    | some (x, [y]) => decide (x = g) && isNm e y
    | _ => false)
  | _ => false
def tailB (P : Stmt → Bool) (e fo : Str) : List (Str × List Ki) → List Stmt → Bool
  | [], [st] => P st
  | r :: rs, st :: sts => rowB e fo r st && tailB P e fo rs sts
  | _, _ => false
def bodyB (P : Stmt → Bool) (e fo : Str) (rs : List (Str × List Ki)) : List Stmt → Bool
  | st :: sts => headB fo st && tailB P e fo rs sts
  | [] => false
def headE : En → Fl := fun Γ => match ((EM.ret []).bind fun ds => EM.opt (if ds.length ≤ 1000 then some (R.m (.lst ds)) else none)) Γ with
  | .no => xrf (fun _ => none) Γ
  | .ok r Γ1 => match setV 1 r Γ1 with
    | some Γ2 => .nx Γ2
    | none => .no
def retE (Γ : En) : Fl := match Γ[(1 : Nat)]? with
  | some (some (.mu m)) => .rt (.m m) (Γ.set 1 none)
  | some (some (.fr d)) => .rt (.d d) Γ
  | _ => .no
def retE2 (a : Addr) (res : List D) : En → Fl := fun Γ => match ((rdV 1).bind fun x => (excAt 0 a (some (.m (.lst res)))).v.bind fun y => EM.opt (binD .add x y)) Γ with
  | .no => xrf (fun _ => none) Γ
  | .ok r Γ1 => .rt r Γ1
def tailE (a : Addr) (c : Xc) (m : En → Fl) : List (Str × List Ki) → En → Fl
  | [], Γ => match m Γ with
    | .nx Γ1 => .nx Γ1
    | f => f
  | r :: rs, Γ => match rowE a c r Γ with
    | .nx Γ1 => tailE a c m rs Γ1
    | f => f
def bodyE (a : Addr) (c : Xc) (m : En → Fl) (rs : List (Str × List Ki)) : En → Fl := fun Γ => match headE Γ with
  | .nx Γ1 => tailE a c m rs Γ1
  | f => f
/-! what the rows tell -/
def kindL (c : Xc) : List Ki → Option (List D)
  | [] => some []
  | k :: ks => (kindI c k).bind fun d => (kindL c ks).map (d :: ·)
theorem kindL_eq (c : Xc) : ∀ ks : List Ki, ks.mapM (kindI c) = kindL c ks
  | [] => rfl
  | k :: ks => by
    rw [List.mapM_cons, kindL, kindL_eq c ks]
    cases kindI c k <;> cases kindL c ks <;> rfl
def toldR (c : Xc) (r : Str × List Ki) : Option (List D) := if r.1 = c.C then (kindL c r.2).bind fun ds => if ds.length ≤ 1000 then some [.tup ds] else none else some []
def toldL (c : Xc) : List (Str × List Ki) → Option (List D)
  | [] => some []
  | r :: rs => (toldR c r).bind fun t => (toldL c rs).map (t ++ ·)
def GK (a : Addr) (ds : List D) : En := [some (.fr (.exc a)), some (.mu (.lst ds))]
theorem excAt_G {a : Addr} {ds : List D} {r : R} : excAt 0 a (some r) (GK a ds) = .ok r (GK a ds) := by
  show (if a = a then _ else _) = _
  rw [if_pos rfl]
theorem bind_at {α β : Type} {x : EM α} {f : α → EM β} {y : α} {Γ Γ' : En} (h : x Γ = .ok y Γ') : EM.bind x f Γ = f y Γ' := by
  unfold EM.bind
  rw [h]
theorem v_at {x : EM R} {r : R} {Γ Γ' : En} (h : x Γ = .ok r Γ') : x.v Γ = .ok r.v Γ' := by
  unfold EM.v
  rw [h]
theorem opt_at {α : Type} {o : Option α} {y : α} {Γ : En} (h : o = some y) : EM.opt o Γ = .ok y Γ := by
  rw [h]
  rfl
theorem kisE_G {a : Addr} {c : Xc} {ds : List D} : ∀ {ks : List Ki} {xs : List D}, kindL c ks = some xs → kisE a c ks (GK a ds) = .ok xs (GK a ds)
  | [], xs, h => by cases h; rfl
  | k :: ks, xs, h => by
    unfold kindL at h
    obtain ⟨d, h1, h⟩ := Option.bind_eq_some_iff.mp h
    obtain ⟨ys, h2, h3⟩ := Option.map_eq_some_iff.mp h
    subst h3
    have e1 : (kiE a c k).v (GK a ds) = .ok d (GK a ds) := by
      cases k with
      | lit x => cases h1; rfl
      | fld f =>
        have h1 : lk f c.ns c.ds = some d := h1
        show (excAt 0 a ((lk f c.ns c.ds).map .d)).v (GK a ds) = _
        rw [h1]
        exact v_at excAt_G
      | rep f =>
        have h1 : ((lk f c.ns c.ds).bind fun d => (reprD d).map .str) = some d := h1
        obtain ⟨y, h3, h4⟩ := Option.bind_eq_some_iff.mp h1
        obtain ⟨t, h5, rfl⟩ := Option.map_eq_some_iff.mp h4
        show ((excAt 0 a ((lk f c.ns c.ds).map .d)).v.bind fun x => EM.opt ((reprD x).map fun s => R.d (.str s))).v (GK a ds) = _
        rw [h3]
        refine v_at (r := .d (.str t)) ((bind_at (v_at excAt_G)).trans (opt_at ?_))
        show (reprD y).map (fun s => R.d (.str s)) = _
        rw [h5]
        rfl
    exact (bind_at e1).trans (bind_at (kisE_G h2))
theorem rowE_G {a : Addr} {c : Xc} {ds t : List D} {r : Str × List Ki} (h : toldR c r = some t) (hl : ds.length < 1000000) : rowE a c r (GK a ds) = .nx (GK a (ds ++ t)) := by
  unfold toldR at h
  unfold rowE
  have e : ((excAt 0 a (some (.d (.bl (decide (r.1 = c.C)))))).v.bind fun x => EM.opt (truD x)) (GK a ds) = .ok (decide (r.1 = c.C)) (GK a ds) := (bind_at (v_at excAt_G)).trans (opt_at rfl)
  rw [e]
  split at h
  · rename_i hc
    rw [decide_eq_true hc]
    obtain ⟨xs, h1, h2⟩ := Option.bind_eq_some_iff.mp h
    split at h2
    · rename_i hx
      cases h2
      have e2 : mMut .append 1 (((kisE a c r.2).bind fun ds => EM.opt (if ds.length ≤ 1000 then some (R.d (.tup ds)) else none)).v.bind fun x => (EM.ret []).bind fun xs => EM.ret (x :: xs)) (GK a ds) = .ok (.d .non) (GK a (ds ++ [.tup xs])) := by
        have e3 : (((kisE a c r.2).bind fun ds => EM.opt (if ds.length ≤ 1000 then some (R.d (.tup ds)) else none)).v.bind fun x => (EM.ret []).bind fun xs => EM.ret (x :: xs)) (GK a ds) = .ok [.tup xs] (GK a ds) :=
          (bind_at (v_at (r := .d (.tup xs)) ((bind_at (kisE_G h1)).trans (opt_at (if_pos hx))))).trans rfl
        have e4 : mutD .append (.lst ds) [.tup xs] = some (.d .non, .lst (ds ++ [.tup xs])) := if_pos hl
        have e5 : obV 1 (GK a ds) = some (.lst ds) := rfl
        unfold mMut
        rw [e5]
        dsimp only
        rw [e3]
        dsimp only
        rw [e5]
        dsimp only
        rw [e4]
        rfl
      dsimp only
      rw [e2]
    · cases h2
  · rename_i hc
    cases h
    rw [decide_eq_false hc, List.append_nil]
theorem tailE_G {a : Addr} {c : Xc} {m : En → Fl} : ∀ {rs : List (Str × List Ki)} {ds t : List D}, toldL c rs = some t → ds.length + t.length < 1000000 → (∀ Γ1, m (GK a (ds ++ t)) ≠ .nx Γ1) → tailE a c m rs (GK a ds) = m (GK a (ds ++ t))
  | [], ds, t, h, hl, hm => by
    cases h
    unfold tailE
    rw [List.append_nil] at hm ⊢
    cases e : m (GK a ds) with
    | nx Γ1 => exact absurd e (hm Γ1)
    | _ => rfl
  | r :: rs, ds, t, h, hl, hm => by
    unfold toldL at h
    obtain ⟨t1, h1, h⟩ := Option.bind_eq_some_iff.mp h
    obtain ⟨t2, h2, rfl⟩ := Option.map_eq_some_iff.mp h
    rw [List.length_append] at hl
    unfold tailE
    rw [rowE_G h1 (by omega)]
    have e := tailE_G (a := a) (m := m) (ds := ds ++ t1) h2 (by rw [List.length_append]; omega) (by rw [List.append_assoc]; exact hm)
    rw [List.append_assoc] at e
    exact e
theorem bodyE_G {a : Addr} {c : Xc} {m : En → Fl} {rs : List (Str × List Ki)} {t : List D} (h : toldL c rs = some t) (hl : t.length < 1000000) (hm : ∀ Γ1, m (GK a t) ≠ .nx Γ1) : bodyE a c m rs [some (.fr (.exc a)), none] = m (GK a t) := by
  have e : headE [some (.fr (.exc a)), none] = .nx (GK a []) := rfl
  unfold bodyE
  rw [e]
  exact tailE_G (ds := []) h (by simpa using hl) hm
end Rf

set_option Elab.async false
set_option linter.all false
set_option maxRecDepth 100000
set_option maxHeartbeats 2000000
namespace Rf
open PySem PySem.Spec PyProof.Rows L2
section
variable [Tb] [Wi]
variable {X : Cx} {p : Addr × Obj} {dx : Addr} {c : Xc} {vs : List V} {e fo : Str}
theorem head_ok (k : KX X p dx c vs e fo) (nd : X.N.Nodup) (lf : X.env.scope.names.lookup fo = some .local) {st : Stmt} (h : headB fo st = true) : PS X st (rS X.K headE) := by
  unfold headB at h
  split at h
  · obtain ⟨q, rfl⟩ := isNm_eq h
    exact i_asg (s_lst s_anil) px_none (g_var nd k.fo (.inl lf) (.inr lf)) rfl sw_name rfl
  · cases h
theorem retK_ok (k : KX X p dx c vs e fo) {st : Stmt} (h : retB fo st = true) : PS X st (rS X.K retE) := by
  unfold retB at h
  split at h
  · obtain ⟨q, rfl⟩ := isNm_eq h
    obtain ⟨f1, f2, _⟩ := nm_ok k.nf
    exact i_retV (pe_var k.fo k.vf f1 f2)
  · cases h
theorem ret2_ok (k : KX X p dx c vs e fo) {n : Nat} {fa : Addr} {fd : FuncData} {g e' : Str} {res : List D} (o : FnK X.prog X.w X.K X.mg X.base n fa fd e' c res) (room : L2H.RoomH n X.A) (hot : L2H.Hot1 X.A p) (gl : Gl X g) (hm : X.mg g = some (.ref fa)) (kp : PySem.W.keepIn X.K (.ref fa) = true) (b : Binds X.K fd [e'] []) (hd : (g == ("__debug__" : Str)) = false)
    {st : Stmt} (h : retB2 e fo g st = true) : PS X st (rS X.K (retE2 p.1 res)) := by
  unfold retB2 at h
  split at h
  · rename_i a op b2 q1 q2
    rw [Bool.and_eq_true, Bool.and_eq_true, decide_eq_true_eq] at h
    obtain ⟨⟨ha, rfl⟩, hc⟩ := h
    obtain ⟨q, rfl⟩ := isNm_eq ha
    obtain ⟨f1, f2, _⟩ := nm_ok k.nf
    split at hc
    · rename_i x y hx
      obtain ⟨q3, q4, rfl⟩ := asCall_eq hx
      rw [Bool.and_eq_true, decide_eq_true_eq] at hc
      obtain ⟨rfl, hy⟩ := hc
      obtain ⟨q5, rfl⟩ := isNm_eq hy
      exact i_ret (s_bin (op := .add) (s_var (pe_var k.fo k.vf f1 f2)) (rD_of (pe_callK o k room hot gl hm kp b hd))) px_none
    · cases hc
  · cases h
theorem tail_ok (k : KX X p dx c vs e fo) {P : Stmt → Bool} {m : En → Fl} (hP : ∀ st, P st = true → PS X st (rS X.K m)) : ∀ {rs : List (Str × List Ki)} {sts : List Stmt}, (∀ r ∈ rs, KR X c r.1) → tailB P e fo rs sts = true → PSs X sts (rS X.K (tailE p.1 c m rs))
  | [], [st], _, h => by
    unfold tailB at h
    exact b_cons (hP st h) b_nil
  | r :: rs, st :: sts, kr, h => by
    unfold tailB at h
    rw [Bool.and_eq_true] at h
    exact b_cons (row_ok k (kr r List.mem_cons_self) h.1) (tail_ok k hP (fun x hx => kr x (List.mem_cons_of_mem _ hx)) h.2)
  | [], [], _, h => by cases h
  | [], _ :: _ :: _, _, h => by cases h
  | _ :: _, [], _, h => by cases h
theorem body_ok (k : KX X p dx c vs e fo) (nd : X.N.Nodup) (lf : X.env.scope.names.lookup fo = some .local) {P : Stmt → Bool} {m : En → Fl} (hP : ∀ st, P st = true → PS X st (rS X.K m)) {rs : List (Str × List Ki)} {sts : List Stmt} (kr : ∀ r ∈ rs, KR X c r.1) (h : bodyB P e fo rs sts = true) : PSs X sts (rS X.K (bodyE p.1 c m rs)) := by
  cases sts with
  | nil => cases h
  | cons st sts =>
    unfold bodyB at h
    rw [Bool.and_eq_true] at h
    exact b_cons (head_ok k nd lf h.1) (tail_ok k hP kr h.2)
end
/-- what the written part says for such a def -/
structure KF (K : PySem.W.Frag) (mg : Str → Option Value) (scope : Scope) (c : Xc) (rs : List (Str × List Ki)) (e fo : Str) : Prop where
  cls : CauC K (He.ga K c.C)
  xf : XfC K (He.ga K c.C)
  nof : ∀ f ∈ c.ns, PySem.W.findIn K (.ref (He.ga K c.C)) f = some none
  nd : c.ns.Nodup
  ve : Vis scope e
  ne : nmB e = true
  lf : scope.names.lookup fo = some .local
  nf : nmB fo = true
  sys : ∃ o, K.lookup sysModules = some o
  gi : scope.names.lookup ("isinstance" : Str) = some .globalImplicit
  mi : mg "isinstance" = none
  gr : scope.names.lookup ("repr" : Str) = some .globalImplicit
  mr : mg "repr" = none
  row : ∀ r ∈ rs, scope.names.lookup r.1 = some .globalImplicit ∧ mg r.1 = some (.ref (He.ga K r.1)) ∧ nmB r.1 = true ∧ PySem.W.kitOne K (.ref (He.ga K c.C)) (.ref (He.ga K r.1)) = some (decide (r.1 = c.C))
section
variable [tb : Tb]
theorem FnK.cast {P : Program} {w : World} {K : PySem.W.Frag} {mg : Str → Option Value} {base : Heap} {k : Nat} {f : Addr} {fd : FuncData} {e : Str} {c : Xc} {res : List D} (o : FnK P w K mg base k f fd e c res) (F0 : Hp) : @FnK ⟨tb.T, F0⟩ P w K mg base k f fd e c res :=
  @FnK.mk ⟨tb.T, F0⟩ P w K mg base k f fd e c res o.run
theorem FnK.by {P : Program} {w : World} {K : PySem.W.Frag} {mg : Str → Option Value} {base : Heap} {x qual : Str} {params : Arguments} {body : List Stmt} {scope : Scope} {f : Addr} {fd : FuncData} {k : Nat} {e fo : Str} {c : Xc} {rs : List (Str × List Ki)} {res t : List D} (F : FunD K x qual params body scope [] [] f fd) (S : FnScope [e, fo] [e] scope) (kf : KF K mg scope c rs e fo)
    {B : Stmt → Bool} (text : bodyB B e fo rs body = true) (told : toldL c rs = some t) (tl : t.length < 1000000) (m : Addr → En → Fl) (hm : ∀ a, ∃ Γ1, m a (GK a t) = .rt (.m (.lst res)) Γ1)
    (hB : ∀ (cdv : Value) (A : Around) (outer : List Env) (s : Shared) (H F : Hp) (p : Addr × Obj) (dx : Addr) (vs : List V), letI : Tb := ⟨tb.T, F⟩; letI : Wi := ⟨noE⟩
      KX (L2H.cxH (L2N.CX P w) P w K mg base [e, fo] qual scope f cdv A outer s H noE p) p dx c vs e fo → L2H.RoomH k (A.deeper (envOfC qual scope s.heap.objs.size f cdv)) → L2H.Hot1 A p → ∀ st, B st = true → PS (L2H.cxH (L2N.CX P w) P w K mg base [e, fo] qual scope f cdv A outer s H noE p) st (rS K (m p.1))) :
    FnK P w K mg base (k + 1) f fd e c res := by
  refine ⟨fun A outer s H F0 args p dx vs Q room gu hot pin z e0 bt hdx hl hr sm tab kq => ?_⟩
  refine run_hot (N := [e, fo]) (ps := [e]) (us := [.ref p.1]) (vs := [.ref p.1]) F S room pin e0 bt (.cons rfl .nil) rfl fun cdv hr2 => ?_
  letI : Tb := ⟨tb.T, F0⟩
  letI : Wi := ⟨noE⟩
  have fl : ∃ ws, p.2.data = .fields ws := by
    obtain ⟨_, ws, h, _⟩ := hot
    exact ⟨ws, h⟩
  have kx : KX (L2H.cxH (L2N.CX P w) P w K mg base [e, fo] qual scope f cdv A outer s H noE p) p dx c vs e fo := {
    cau := ⟨List.mem_cons_self, z, fl⟩
    cls := kf.cls
    xf := kf.xf
    nof := kf.nof
    nd := kf.nd
    len := hl
    f0 := hdx
    rep := hr
    e := rfl
    ve := kf.ve
    ne := kf.ne
    fo := rfl
    vf := .inl kf.lf
    nf := kf.nf
    gu := gu
    sys := kf.sys
    un := by
      have q := hr2.un
      show (A.deeper (envOfC qual scope s.heap.objs.size f cdv)).units + 65 < cLine
      omega
    gi := kf.gi
    mi := kf.mi
    gr := kf.gr
    mr := kf.mr }
  refine ⟨rS K (bodyE p.1 c (m p.1) rs), body_ok kx S.nd kf.lf (hB cdv A outer s H F0 p dx vs kx hr2 hot) (fun r h => ⟨(kf.row r h).1, (kf.row r h).2.1, (kf.row r h).2.2.1, (kf.row r h).2.2.2⟩) text, ?_⟩
  have A0 : At K F0 H (L2.start [e, fo] [.ref p.1]) [some (.fr (.exc p.1)), none] := by
    have two : ∀ {i : Nat} {s : Sl}, ([some (.fr (.exc p.1)), none] : En)[i]? = some (some s) → i = 0 ∧ s = .fr (.exc p.1) := fun {i s} h => by
      match i, h with
      | 0, h => cases h; exact ⟨rfl, rfl⟩
      | 1, h => cases h
      | _ + 2, h => cases h
    refine ⟨sm, rfl, fun i d h => ?_, fun i s m h hc => ?_, fun i j s t m n a hij h hc => ?_, tab, Same.refl _⟩
    · obtain ⟨rfl, z⟩ := two h
      cases z
      exact ⟨_, rfl, .exc _⟩
    · obtain ⟨rfl, z⟩ := two h
      cases z; cases hc
    · obtain ⟨rfl, z⟩ := two h
      cases z; cases hc
  have none_mu : ∀ {i : Nat} {s : Sl} {m : M}, ([some (.fr (.exc p.1)), none] : En)[i]? = some (some s) → s.mut = some m → False := fun {i s m} h hc => by
    match i, h with
    | 0, h => cases h; cases hc
    | 1, h => cases h
    | _ + 2, h => cases h
  refine ⟨F0, _, A0, ?_⟩
  obtain ⟨Γ1, h1⟩ := hm p.1
  rw [bodyE_G told tl (fun Γ2 z => by rw [h1] at z; cases z), h1]
  intro v σ' F' H' st A1 ss rr
  refine kq v F' H' ((Step.refl F0 H _).trans st fun y ⟨i, s, m, h, hc, _⟩ => (none_mu h hc).elim) A1.sub A1.tab ?_
  obtain ⟨a, rfl, h2, h3, h4⟩ := rr
  refine ⟨a, rfl, ?_, h3, h4⟩
  rcases h2 with ⟨i, m', h, _⟩ | h2
  · exact (none_mu (s := .mu m') h rfl).elim
  · exact h2
end
end Rf

set_option Elab.async false
set_option linter.all false
set_option maxRecDepth 100000
set_option maxHeartbeats 2000000
namespace Rf
open PySem PySem.Spec PyProof.Rows L2
/-! ### a lambda of no parameter, called by the def that got it -/
abbrev lamE (X : Cx) (scope : Scope) (L f c' : Addr) : Env := LamX.lamEnv X scope L f c'
/-- what leaves the lambda's body -/
def lamXe (X : Cx) (A : Around) (outer : List Env) (s : Shared) (H : Hp) (E : XK) (scope : Scope) (f c' : Addr) : Value → Shared → Prop := fun u t =>
  wpAny (model X.prog X.w) (A.deeper (lamE X scope s.heap.objs.size f c')) (leaving (lamE X scope s.heap.objs.size f c') u) (fun _ t1 => L2N.CX X.prog X.w outer H s E u t1) (fun u1 t1 => L2N.CX X.prog X.w outer H s E u1 t1) t
/-- the body's context -/
def lamC (X : Cx) (A : Around) (outer : List Env) (s : Shared) (H : Hp) (E : XK) (scope : Scope) (f c' : Addr) : Cx := (LamX.lamCx X A outer s H noE scope f c').tr [] (lamXe X A outer s H E scope f c')
theorem lam_takes {X : Cx} {A : Around} {outer : List Env} {s : Shared} {H : Hp} {E : XK} {scope : Scope} {f c' : Addr} : L2N.Takes (lamC X A outer s H E scope f c') fun cls d _ H1 => E cls d H1 :=
  L2N.takes_of (X := lamC X A outer s H E scope f c') (E := E) rfl rfl rfl rfl
theorem lam_passes {X : Cx} {A : Around} {outer : List Env} {s : Shared} {H : Hp} {E : XK} {scope : Scope} {f c' : Addr} : PassesOwn (model X.prog X.w) (lamC X A outer s H E scope f c').A (lamC X A outer s H E scope f c').env (lamC X A outer s H E scope f c').xe :=
  L2.passes_of (X := lamC X A outer s H E scope f c') rfl
/-- the context of the def that calls it -/
abbrev gotC (X : Cx) (CXg : CXT) (Eg : XK) (Ng : List Str) (qg : Str) (sg : Scope) (g : Addr) (cdg : Value) (s : Shared) (H : Hp) : Cx := cxOf CXg X.prog X.w X.K X.mg X.base Ng qg sg g cdg X.A X.stack s H Eg
theorem pe_got {X : Cx} {pins : List (Addr × Obj)} {σ : L2.St} {H : Hp} {s : Shared} {CXg : CXT} {Eg : XK} {Ng : List Str} {qg : Str} {sg : Scope} {g f c' : Addr} {cdg pm ctv : Value} {params : Arguments} {body : Expr} {scope : Scope} {k i : Nat} {a : Str}
    {pn : List (Addr × Obj)} {xe : Value → Shared → Prop} {W : WX} {E : L2.St → XK} {tl : XK → TE} {p1 p2 : Pos} (I : Inv X pins σ H s) (L : LamX.LamS X.env.scope scope)
    (made : s.heap.get? f = some (PySem.W.kla_obj "<lambda>" (X.env.qual ++ "<lambda>") params body scope (cloFrom X.env.cells scope.names []) pm c' ctv)) (mf : H f = none) (nfr : f ∉ frs X.stack)
    (bind0 : bindArgs (PySem.W.kla_fn "<lambda>" (X.env.qual ++ "<lambda>") params body scope (cloFrom X.env.cells scope.names []) pm (.ref c') ctv) ⟨[], []⟩ = pure [])
    (tk : L2N.Takes ((gotC X CXg Eg Ng qg sg g cdg s H).tr pn xe) W) (EW : ∀ cls d σ1 H1, E σ1 cls d H1 → W cls d σ1 H1) (room : Room (k + 1) (X.A.deeper (envOfC qg sg s.heap.objs.size g cdg)))
    (text : ∀ (E : XK) (A : Around) (outer : List Env) (t : Shared) (H1 : Hp), (∃ env, A = X.A.deeper env) → PE (lamC X A outer t H1 E scope f c') body (tl E))
    (hN : Ng[i]? = some a) (hv : Vis sg a) (n1 : (a == ("__debug__" : Str)) = false) (n2 : (a == ("__classdict__" : Str)) = false) :
    PE ((gotC X CXg Eg Ng qg sg g cdg s H).tr pn xe) (.Call (.Name a p1) [] [] p2) (fun σg Hg Q => σg[i]? = some (some (.ref f)) ∧ Hg c' = some (LamX.CodeO c' (X.env.qual ++ "<lambda>")) ∧ tl (E σg) σ Hg Q) := by
  refine ⟨fun pg sg0 σg Hg Q Ig ⟨slot, code, todo⟩ => wpAny_Call_Name_kw (thn ((pe_var (pos := p1) (i := i) hN hv n1 n2).run pg sg0 σg Hg (fun v H1 => v = .ref f ∧ H1 = Hg) Ig ⟨.ref f, slot, rfl, rfl⟩) fun u t1 hh => ?_)⟩
  obtain ⟨v, H1, J, rv, ev, eH⟩ := hh
  subst eH
  subst ev
  cases (show u = Value.ref f from rv)
  have there := J.base.keep f _ made mf nfr (fun z => nomatch (show f ∈ ([] : List Addr) from z))
  refine PySem.W.callWith_F0 ⟨_, _, _, _, there⟩ (wpAny_call (codeAny_mono (R := CR (L2N.CX X.prog X.w) (envOfC qg sg s.heap.objs.size g cdg :: X.stack) X.prog X.w H1 t1 Q (E σg)) ?_ fun res t2 done => match res, done with
    | .error e, done => tk e t2 (L2N.XE.of_call J (fun cls d H2 z => EW cls d _ H2 z) done)
    | .ok (.ret _), done => J.after done
    | .ok .next, done => (show False from done).elim
    | .ok .brk, done => (show False from done).elim
    | .ok .cont, done => (show False from done).elim))
  obtain ⟨⟨oc, ws, t, o1, o2, o3⟩, _, _⟩ := J.hok c' _ code
  show codeAny _ _ (.call (.ref f) ⟨[], []⟩) _ _
  refine PySem.W.kla_callFunE room.depth there rfl L.co L.gen rfl ⟨c', oc, ws, t, rfl, o1, o2, o3⟩ ?_
  rw [bind0]
  refine wpAny_pure (wpAny_newFunctionEnv (fun y hy => (L.own y hy).2) (fun y hy => absurd hy (by simp)) (fun h1 hns hsb => ⟨J.nolimit.fresh _ hsb, ?_⟩) L.kind)
  have kept : ∀ b o, t1.heap.get? b = some o → h1.get? b = some o := fun b o e => hsb.extBut b o (Nat.ne_of_lt (Heap.lt_size e)) (Heap.get?_push_of_some _ e)
  have J1 := LamX.lam_start2 (E := noE) (f := f) (c' := c') (tk := t1.toks + ([] : List (Str × Value)).length) I L J.env0 room.hd J.base hns kept
  have J2 := J1.toTry (lamXe X (X.A.deeper (envOfC qg sg s.heap.objs.size g cdg)) (envOfC qg sg s.heap.objs.size g cdg :: X.stack) t1 H1 (E σg) scope f c')
  refine PySem.W.kla_codeExpr (wpAny_mono ((text (E σg) (X.A.deeper (envOfC qg sg s.heap.objs.size g cdg)) (envOfC qg sg s.heap.objs.size g cdg :: X.stack) t1 H1 ⟨_, rfl⟩).run [] _ _ H1 Q J2 todo) (fun v1 t2 done => ?_) fun e t2 done => done)
  obtain ⟨w1, H2, J3, r3, q3⟩ := done
  exact ⟨w1, H2, J3.os, J3.bare, J3.base, J3.hok, r3, q3⟩
end Rf

set_option Elab.async false
set_option linter.all false
set_option maxRecDepth 100000
set_option maxHeartbeats 2000000
namespace Rf
open PySem PySem.Spec PyProof.Rows L2
/-! ### the suite that tells a caught error: found = g(e); found = found[0] if len(found) == 1 and isinstance(e, ValueError) else ("several", len(found)) -/
section
variable [tb : Tb] [Wi]
variable {Y : Cx} {p : Addr × Obj} {dx : Addr} {c : Xc} {vs : List V} {e fo : Str} {i : Nat}
/-- where the suite runs: e is slot i, found slot 1 -/
structure KS (Y : Cx) (p : Addr × Obj) (dx : Addr) (c : Xc) (vs : List V) (en fn : Str) (i : Nat) : Prop where
  cau : Caught Y p (He.ga Y.K c.C) dx
  cls : CauC Y.K (He.ga Y.K c.C)
  len : c.ns.length = vs.length
  f0 : Tb.F0 dx = some (.xd (c.ns.zip vs).reverse)
  rep : Reps Y.K Tb.F0 vs c.ds
  e : Y.N[i]? = some en
  ve : Vis Y.env.scope en
  ne : nmB en = true
  fo : Y.N[1]? = some fn
  lf : Y.env.scope.names.lookup fn = some .local
  nf : nmB fn = true
  nd : Y.N.Nodup
  gu : Y.A.guards = some []
  un : Y.A.units + 65 < cLine
  gi : Gl Y "isinstance"
  mi : Y.mg "isinstance" = none
  gl : Gl Y "len"
  ml : Y.mg "len" = none
  gv : Gl Y "ValueError"
  mv : Y.mg "ValueError" = none
  ve2 : PySem.W.kitOne Y.K (.ref (He.ga Y.K c.C)) (.type "ValueError") = some true
/-- g(e), e in slot i -/
theorem pe_callS {k : Nat} {fa : Addr} {fd : FuncData} {g e' : Str} {res : List D} {p1 p2 q : Pos} (o : FnK Y.prog Y.w Y.K Y.mg Y.base k fa fd e' c res) (x : KS Y p dx c vs e fo i) (room : L2H.RoomH k Y.A) (hot : L2H.Hot1 Y.A p) (gl : Gl Y g) (hm : Y.mg g = some (.ref fa)) (kp : PySem.W.keepIn Y.K (.ref fa) = true) (b : Binds Y.K fd [e'] []) (hd : (g == ("__debug__" : Str)) = false) :
    PE Y (.Call (.Name g p1) [.Name e p2] [] q) (rE Y.K (excAt i p.1 (some (.m (.lst res))))) := by
  obtain ⟨n1, n2, _⟩ := nm_ok x.ne
  refine ⟨fun pins s σ H Q I h => ?_⟩
  obtain ⟨F, Γ, r, Γ', A, e1, z⟩ := h
  obtain ⟨h1, h2, rfl⟩ := excAt_ok e1
  cases h2
  have ha : PA Y [.Name e p2] (tCons (tVar i) tNil) := pa_cons (pe_var x.e x.ve n1 n2) pa_nil (star_cons rfl)
  refine wpAny_Call_Name_kw (ld_glob I gl hm (PySem.W.callWith_K (h₀ := Y.base) I.ok.mod.kin kp (thn (ha.run q pins s σ H (fun ws H1 => ws = [.ref p.1] ∧ H1 = H) I ⟨_, excAt_v A h1, rfl, rfl⟩) fun us s1 hh => ?_) (star_cons rfl) (star_plain rfl)) hd)
  obtain ⟨ws, H1, J, rv, rfl, rfl⟩ := hh
  refine ⟨J.kIn, ?_⟩
  rw [Vals.ref1 rv]
  have bb := b s1 [.ref p.1] J.kIn rfl
  have P1 := J.pin p (List.mem_append_left _ x.cau.mem)
  have pin : L2H.PinOk Y.stack H1 s1 p := ⟨P1.1, P1.2.1, fun hm => (List.mem_cons.mp (J.stkSub p.1 hm)).elim P1.2.2.1 P1.2.2.2.1, P1.2.2.2.2⟩
  refine wpAny_call (codeAny_mono (o.run Y.A Y.stack s1 H1 F _ p dx vs Q room x.gu hot pin x.cau.z J.env0 bb (A.f0 _ _ x.f0) x.len (x.rep.up A.f0) A.sub A.tab fun v F2 H2 st sm tab rr => ?_) fun res t ht => match res, ht with
    | .error e, ht => passN σ pins H1 s1 e t J ht
    | .ok (.ret _), ht => J.after ht
    | .ok .next, ht => (show False from ht).elim
    | .ok .brk, ht => (show False from ht).elim
    | .ok .cont, ht => (show False from ht).elim)
  exact z v F2 H2 ((Step.refl _ _ _).trans st fun _ q => q.elim) (A.step st tab sm fun _ _ q => q) (ES.refl _) rr
/-- isinstance(e, ValueError) -/
theorem q_isV {p1 p2 p3 p4 : Pos} (x : KS Y p dx c vs e fo i) : PE Y (.Call (.Name "isinstance" p1) [.Name e p2, .Name "ValueError" p3] [] p4) (rE Y.K (excAt i p.1 (some (.d (.bl true))))) := by
  obtain ⟨n1, n2, _⟩ := nm_ok x.ne
  refine PE.weak (pe_callB (call_cau (fs := (c.ns.zip vs).reverse) x.cls x.cau) x.gi x.mi boot_isinstance (pa_cons (pe_var x.e x.ve n1 n2) (pa_cons (pe_bltn (v := .ty "ValueError") x.gv x.mv (by decide +kernel) rfl) pa_nil (star_cons rfl)) (star_cons rfl)) (by decide) (by decide) (star_cons rfl) (star_plain rfl)) fun σ H Q q => ?_
  obtain ⟨F, Γ, r, Γ', A, e1, z⟩ := q
  obtain ⟨h1, h2, rfl⟩ := excAt_ok e1
  cases h2
  exact ⟨.ref p.1, excAt_v A h1, .ty "ValueError", .type "ValueError", true, rfl, fun u ru => ru, x.ve2, A.sub _ _ (A.f0 _ _ x.f0), z _ F H (Step.refl ..) A (ES.refl _) (.bl true)⟩
def lenE : EM R := ((pkV 1).bind fun x => EM.ret [x]).bind fun ds => EM.opt (bltD .len ds)
theorem q_len {p1 p2 p3 : Pos} (x : KS Y p dx c vs e fo i) : PE Y (.Call (.Name "len" p1) [.Name fo p2] [] p3) (rE Y.K lenE) := by
  obtain ⟨f1, f2, _⟩ := nm_ok x.nf
  exact s_blB (f := .len) bl_len x.gl x.ml boot_len (s_pone (s_pk (pe_var x.fo (.inl x.lf) f1 f2)) rfl) (by decide) (by decide) rfl
/-- the second statement's value -/
def suE (i : Nat) (a : Addr) : EM R := (((mCmp .eq lenE.v (EM.ret (.d (.int 1))).v).v.bind fun x => EM.opt (truD x)).bind fun k => if k = true then (excAt i a (some (.d (.bl true)))).v.bind fun x => EM.opt (truD x) else EM.ret k).bind fun k => match k with
  | true => (rdV 1).bind fun x => (EM.ret (R.d (.int 0))).v.bind fun y => EM.opt ((ixD x y).map .d)
  | false => ((EM.ret (R.d (.str "several"))).v.bind fun x => (lenE.v.bind fun y => (EM.ret []).bind fun xs => EM.ret (y :: xs)).bind fun xs => EM.ret (x :: xs)).bind fun ds => EM.opt (if ds.length ≤ 1000 then some (.d (.tup ds)) else none)
def asgE (m : EM R) : En → Fl := fun Γ => match m Γ with
  | .no => xrf (fun _ => none) Γ
  | .ok r Γ1 => match setV 1 r Γ1 with
    | some Γ2 => .nx Γ2
    | none => .no
theorem su_ok {k : Nat} {fa : Addr} {fd : FuncData} {g e' : Str} {res : List D} {q1 q2 q3 q4 q5 q6 q7 q8 q9 q10 q11 q12 q13 q14 q15 q16 q17 q18 q19 q20 q21 q22 q23 q24 q25 q26 : Pos} {k1 k2 k3 k4 : Nat} (o : FnK Y.prog Y.w Y.K Y.mg Y.base k fa fd e' c res) (x : KS Y p dx c vs e fo i) (room : L2H.RoomH k Y.A) (hot : L2H.Hot1 Y.A p) (gl : Gl Y g) (hm : Y.mg g = some (.ref fa)) (kp : PySem.W.keepIn Y.K (.ref fa) = true) (b : Binds Y.K fd [e'] []) (hd : (g == ("__debug__" : Str)) = false) :
    PSs Y [.Assign [.Name fo q1] (.Call (.Name g q2) [.Name e q3] [] q4) q5,
      .Assign [.Name fo q6] (.IfExp (.BoolOp .And [.Compare (.Call (.Name "len" q7) [.Name fo q8] [] q9) [.Eq] [.Constant (.int 1) k1 q10] q11, .Call (.Name "isinstance" q12) [.Name e q13, .Name "ValueError" q14] [] q15] q16)
        (.Subscript (.Name fo q17) (.Constant (.int 0) k2 q18) q19) (.Tuple [.Constant (.str "several") k3 q20, .Call (.Name "len" q21) [.Name fo q22] [] q23] k4 q24) q25) q26] (rS Y.K fun Γ => match asgE (excAt i p.1 (some (.m (.lst res)))) Γ with
      | .nx Γ1 => (match asgE (suE i p.1) Γ1 with
        | .nx Γ2 => .nx Γ2
        | f => f)
      | f => f) := by
  obtain ⟨f1, f2, _⟩ := nm_ok x.nf
  have hg := fun (q : Pos) => g_var (pos := q) x.nd x.fo (.inl x.lf) (.inr x.lf)
  have hv := fun (q : Pos) => pe_var (pos := q) x.fo (.inl x.lf : Vis Y.env.scope fo) f1 f2
  have hu : Y.A.units + 1 < cLine := by have := x.un; omega
  refine b_cons (i_asg (pe_callS o x room hot gl hm kp b hd) px_none (hg q1) rfl sw_name rfl) (b_cons (i_asg ?_ px_none (hg q6) rfl sw_name rfl) b_nil)
  refine s_ite (t_and (t_cmp (op := .eq) x.un (rD_of (q_len x)) (rP_of (rD_of (s_const pe_int fun F => .int 1))) rfl) (pw_and1 (t_val (rP_of (rD_of (q_isV x))) rfl))).pt ?_ ?_
  · exact s_ix hu (s_var (hv q17)) (rD_of (s_const pe_int fun F => .int 0)) rfl
  · exact s_tup (s_acons (rD_of (s_const pe_str fun F => .str "several")) (s_acons (rD_of (q_len x)) s_anil rfl) rfl)
end
/-- one told: that is found -/
theorem su_G {a : Addr} {told : D} {s0 : Option Sl} : (match asgE (excAt 2 a (some (.m (.lst [told])))) [s0, some (.fr .non), some (.fr (.exc a))] with
      | .nx Γ1 => (match asgE (suE 2 a) Γ1 with
        | .nx Γ2 => Fl.nx Γ2
        | f => f)
      | f => f) = .nx [s0, some (.fr told), some (.fr (.exc a))] := by
  have e1 : asgE (excAt 2 a (some (.m (.lst [told])))) [s0, some (.fr .non), some (.fr (.exc a))] = .nx [s0, some (.mu (.lst [told])), some (.fr (.exc a))] := by
    have : excAt 2 a (some (.m (.lst [told]))) [s0, some (.fr .non), some (.fr (.exc a))] = .ok (.m (.lst [told])) [s0, some (.fr .non), some (.fr (.exc a))] := if_pos rfl
    unfold asgE
    rw [this]
    rfl
  have e2 : asgE (suE 2 a) [s0, some (.mu (.lst [told])), some (.fr (.exc a))] = .nx [s0, some (.fr told), some (.fr (.exc a))] := by
    have h1 : excAt 2 a (some (.d (.bl true))) [s0, some (.mu (.lst [told])), some (.fr (.exc a))] = .ok (.d (.bl true)) [s0, some (.mu (.lst [told])), some (.fr (.exc a))] := if_pos rfl
    have h2 : lenE [s0, some (.mu (.lst [told])), some (.fr (.exc a))] = .ok (.d (.int 1)) [s0, some (.mu (.lst [told])), some (.fr (.exc a))] := rfl
    have h3 : (mCmp .eq lenE.v (EM.ret (.d (.int 1))).v) [s0, some (.mu (.lst [told])), some (.fr (.exc a))] = .ok (.d (.bl true)) [s0, some (.mu (.lst [told])), some (.fr (.exc a))] := by
      unfold mCmp
      exact (bind_at (v_at h2)).trans rfl
    have h4 : suE 2 a [s0, some (.mu (.lst [told])), some (.fr (.exc a))] = .ok (.d told) [s0, some (.fr (.lst [told])), some (.fr (.exc a))] := by
      have t1 : ((mCmp .eq lenE.v (EM.ret (.d (.int 1))).v).v.bind fun x => EM.opt (truD x)) [s0, some (.mu (.lst [told])), some (.fr (.exc a))] = .ok true [s0, some (.mu (.lst [told])), some (.fr (.exc a))] := (bind_at (v_at h3)).trans rfl
      have t2 : ((excAt 2 a (some (.d (.bl true)))).v.bind fun x => EM.opt (truD x)) [s0, some (.mu (.lst [told])), some (.fr (.exc a))] = .ok true [s0, some (.mu (.lst [told])), some (.fr (.exc a))] := (bind_at (v_at h1)).trans rfl
      have t3 : (((mCmp .eq lenE.v (EM.ret (.d (.int 1))).v).v.bind fun x => EM.opt (truD x)).bind fun k => if k = true then (excAt 2 a (some (.d (.bl true)))).v.bind fun x => EM.opt (truD x) else EM.ret k) [s0, some (.mu (.lst [told])), some (.fr (.exc a))] = .ok true [s0, some (.mu (.lst [told])), some (.fr (.exc a))] := (bind_at t1).trans t2
      exact (bind_at t3).trans rfl
    unfold asgE
    rw [h4]
    rfl
  rw [e1]
  dsimp only
  rw [e2]
end Rf

set_option Elab.async false
set_option linter.all false
set_option maxRecDepth 100000
set_option maxHeartbeats 4000000
namespace Rf
open PySem PySem.Spec PyProof.Rows L2
/-! ### _law_fault(lambda: f(..)) -/
def IsSu (fo e g : Str) (b0 b1 : Stmt) : Prop := ∃ (q1 q2 q3 q4 q5 q6 q7 q8 q9 q10 q11 q12 q13 q14 q15 q16 q17 q18 q19 q20 q21 q22 q23 q24 q25 q26 : Pos) (k1 k2 k3 k4 : Nat),
  b0 = .Assign [.Name fo q1] (.Call (.Name g q2) [.Name e q3] [] q4) q5 ∧
  b1 = .Assign [.Name fo q6] (.IfExp (.BoolOp .And [.Compare (.Call (.Name "len" q7) [.Name fo q8] [] q9) [.Eq] [.Constant (.int 1) k1 q10] q11, .Call (.Name "isinstance" q12) [.Name e q13, .Name "ValueError" q14] [] q15] q16)
        (.Subscript (.Name fo q17) (.Constant (.int 0) k2 q18) q19) (.Tuple [.Constant (.str "several") k3 q20, .Call (.Name "len" q21) [.Name fo q22] [] q23] k4 q24) q25) q26
/-- what is known of the def that catches -/
structure FtK (K : PySem.W.Frag) (mg : Str → Option Value) (g gk se a0 fo e e' : Str) (gA kA SE : Addr) (fdg fdk : FuncData) (pg : Arguments) (bg : List Stmt) (sg : Scope) : Prop where
  F : FunD K g g pg bg sg [] [] gA fdg
  S : FnScope [a0, fo, e] [a0] sg
  b : Binds K fdg [a0] []
  txt : ∃ (p1 p2 p3 p4 p5 p6 p7 p8 p9 p10 p11 : Pos) (k1 : Nat) (b0 b1 : Stmt), bg = [.Assign [.Name fo p1] (.Constant .none k1 p2) p3, .Try [.Expr (.Call (.Name a0 p4) [] [] p5) p6] [.ExceptHandler (some (.Name se p7)) (some e) [b0, b1] p8] [] [] p9, .Return (some (.Name fo p10)) p11] ∧ IsSu fo e gk b0 b1
  la : sg.names.lookup a0 = some .local
  lf : sg.names.lookup fo = some .local
  le : sg.names.lookup e = some .local
  na : nmB a0 = true
  nf : nmB fo = true
  ne : nmB e = true
  nk : nmB gk = true
  ns : nmB se = true
  gs : sg.names.lookup se = some .globalImplicit
  gg : sg.names.lookup gk = some .globalImplicit
  gi : sg.names.lookup ("isinstance" : Str) = some .globalImplicit
  gl : sg.names.lookup ("len" : Str) = some .globalImplicit
  gv : sg.names.lookup ("ValueError" : Str) = some .globalImplicit
  ms : mg se = some (.ref SE)
  mgk : mg gk = some (.ref kA)
  mi : mg "isinstance" = none
  ml : mg "len" = none
  mv : mg "ValueError" = none
  kp : PySem.W.keepIn K (.ref kA) = true
  bk : Binds K fdk [e'] []
section
variable [tb : Tb]
variable {K : PySem.W.Frag} {F H F' H' H1 : Hp} {σ : L2.St} {Γ : En}
/-- the making of a lambda keeps what is known -/
theorem At.lam (A : At K F H σ Γ) (x : LamX.ExtN H H1) (t : LamX.Tabs tb.T H1) : At K F H1 σ Γ := by
  refine ⟨fun a o e => x a o (A.sub a o e) fun ps z => A.tab.n a ps (z ▸ e), A.len, A.fr, fun i s m e c => ?_, A.sep, ⟨t, A.tab.n⟩, A.f0⟩
  obtain ⟨a, e1, f, r⟩ := A.ob i s m e c
  obtain ⟨o, ho, nt⟩ := r.noTC
  exact ⟨a, e1, f, r.up (Same.refl _) (by rw [x a o ho nt.1, ho])⟩
/-- an error that is caught there -/
structure Tells (P : Program) (w : World) (K : PySem.W.Frag) (mg : Str → Option Value) (base : Heap) (k : Nat) (kA SE : Addr) (fdk : FuncData) (e' : Str) (c : Xc) (told : D) : Prop where
  fn : FnK P w K mg base k kA fdk e' c [told]
  cls : CauC K (He.ga K c.C)
  ve2 : PySem.W.kitOne K (.ref (He.ga K c.C)) (.type "ValueError") = some true
  exm : PySem.W.exmOne K (.ref (He.ga K c.C)) (.ref SE) = some true
/-- the suite's reading -/
def suT (K : PySem.W.Frag) (cx : CtxR) (a : Addr) (cls : Value) (d : Option Addr) : TS := fun D σ H => ∃ (c : Xc) (told : Rf.D) (F : Hp) (dx : Addr) (vs : List V), kindD cx c = some told ∧ cls = .ref (He.ga K c.C) ∧ d = some dx ∧ F dx = some (.xd (c.ns.zip vs).reverse) ∧ c.ns.length = vs.length ∧ Reps K F vs c.ds ∧
  @rS ⟨tb.T, F⟩ ⟨noE⟩ K (fun Γ => match asgE (excAt 2 a (some (.m (.lst [told])))) Γ with
      | .nx Γ1 => (match asgE (suE 2 a) Γ1 with
        | .nx Γ2 => .nx Γ2
        | f => f)
      | f => f) D σ H
theorem su_run {Z : Cx} {cx : CtxR} {g gk se a0 fo e e' : Str} {gA kA SE : Addr} {fdg fdk : FuncData} {pg : Arguments} {bg : List Stmt} {sg : Scope} {k : Nat} {b0 b1 : Stmt} {a : Addr} {oe : Obj} {cls : Value} {d : Option Addr} {pn : List (Addr × Obj)}
    (x : FtK Z.K Z.mg g gk se a0 fo e e' gA kA SE fdg fdk pg bg sg) (hN : Z.N = [a0, fo, e]) (hs : Z.env.scope = sg) (gu : Z.A.guards = some []) (room : L2H.RoomH k Z.A) (told : ∀ c t, kindD cx c = some t → Tells Z.prog Z.w Z.K Z.mg Z.base k kA SE fdk e' c t) (su : IsSu fo e gk b0 b1)
    (z : L2N.Zn cls d oe) (fl : ∃ ws, oe.data = .fields ws) : PSs (Z.suite a ((a, oe) :: pn)) [b0, b1] (suT Z.K cx a cls d) := by
  refine ⟨fun pins s σ H D I h => ?_⟩
  obtain ⟨c, t, F, dx, vs, h1, rfl, rfl, h4, h5, h6, h7⟩ := h
  obtain ⟨fn, tcls, tve, _⟩ := told c t h1
  have fn2 := fn.cast F
  letI : Tb := ⟨tb.T, F⟩
  letI : Wi := ⟨noE⟩
  have ks : KS (Z.suite a ((a, oe) :: pn)) (a, oe) dx c vs e fo 2 := {
    cau := ⟨List.mem_cons_self, z, fl⟩
    cls := tcls
    len := h5
    f0 := h4
    rep := h6
    e := by show Z.N[2]? = _; rw [hN]; rfl
    ve := by show Vis Z.env.scope e; rw [hs]; exact .inl x.le
    ne := x.ne
    fo := by show Z.N[1]? = _; rw [hN]; rfl
    lf := by show Z.env.scope.names.lookup fo = _; rw [hs]; exact x.lf
    nf := x.nf
    nd := by show Z.N.Nodup; rw [hN]; exact x.S.nd
    gu := gu
    un := by have q := room.un; show Z.A.units + 65 < cLine; omega
    gi := by show Z.env.scope.names.lookup _ = _; rw [hs]; exact x.gi
    mi := x.mi
    gl := by show Z.env.scope.names.lookup _ = _; rw [hs]; exact x.gl
    ml := x.ml
    gv := by show Z.env.scope.names.lookup _ = _; rw [hs]; exact x.gv
    mv := x.mv
    ve2 := tve }
  have hot : L2H.Hot1 (Z.suite a ((a, oe) :: pn)).A (a, oe) := by
    obtain ⟨ws, hd⟩ := fl
    exact ⟨rfl, ws, hd, z.2.2 ws hd⟩
  obtain ⟨q1, q2, q3, q4, q5, q6, q7, q8, q9, q10, q11, q12, q13, q14, q15, q16, q17, q18, q19, q20, q21, q22, q23, q24, q25, q26, k1, k2, k3, k4, rfl, rfl⟩ := su
  exact (su_ok (Y := Z.suite a ((a, oe) :: pn)) fn2 ks ⟨room.dp, room.un⟩ hot (by show Z.env.scope.names.lookup _ = _; rw [hs]; exact x.gg) x.mgk x.kp x.bk (nm_ok x.nk).1).run pins s σ H D I h7
end
end Rf

set_option Elab.async false
set_option linter.all false
set_option maxRecDepth 100000
set_option maxHeartbeats 2000000
namespace Rf
open PySem PySem.Spec PyProof.Rows L2
/-- what the making of a lambda does to the state: nothing, or a code object is made and its table grows -/
def LamStep (H : Hp) (P c' : Addr) (q : Str) (H1 : Hp) : Prop := H1 = H ∨ ∃ ps ps' : Array Value, H P = some (.tbl ps) ∧ H c' = none ∧ H1 = upd (upd H P (.tbl ps')) c' (LamX.CodeO c' q)
theorem LamStep.ext {H H1 : Hp} {P c' : Addr} {q : Str} (x : LamStep H P c' q H1) : LamX.ExtN H H1 := by
  rcases x with rfl | ⟨ps, ps', h1, h2, rfl⟩
  · exact LamX.ExtN.refl _
  · intro b o e n
    have nb : b ≠ P := fun z => n ps (Option.some.inj (e.symm.trans (z ▸ h1)))
    rw [upd_ne (ne_of_none e h2), upd_ne nb]
    exact e
theorem LamStep.dom {H H1 : Hp} {P c' : Addr} {q : Str} (x : LamStep H P c' q H1) : ∀ b, H b ≠ none → H1 b ≠ none := by
  rcases x with rfl | ⟨ps, ps', h1, h2, rfl⟩
  · exact fun b h => h
  · intro b h
    have nc : b ≠ c' := fun z => h (z ▸ h2)
    rw [upd_ne nc]
    by_cases hb : b = P
    · subst hb
      rw [upd_same]
      simp
    · rw [upd_ne hb]
      exact h
section
variable {X : Cx} {pins : List (Addr × Obj)} {σ : L2.St} {H : Hp} {s : Shared}
theorem lam_new {T : List (Addr × Str)} {c P : Addr} {params : Arguments} {body : Expr} {scope : Scope} {pos : Pos} {E Q : Value → Shared → Prop} (I : Inv X pins σ H s) (tb : LamX.TabB X.base X.mg c P) (code : X.env.code = .ref c) (inT : (P, X.env.qual ++ "<lambda>") ∈ T) (one : ∀ p ∈ T, p.1 = P → p.2 = X.env.qual ++ "<lambda>") (tabs : LamX.Tabs T H)
    (plain : defaultsOf params X.env = ([], [])) (caught : ∀ y ∈ scope.names, y.2 = .free → ∃ c, X.env.cells.lookup y.1 = some c)
    (next : ∀ (f c' : Addr) (pm ctv : Value) (H1 : Hp) (t : Shared), Inv X pins σ H1 t → LamStep H P c' (X.env.qual ++ "<lambda>") H1 → LamX.Tabs T H1 → t.heap.get? f = some (PySem.W.kla_obj "<lambda>" (X.env.qual ++ "<lambda>") params body scope (cloFrom X.env.cells scope.names []) pm c' ctv) →
      H1 f = none → f ∉ frs X.stack → H1 c' = some (LamX.CodeO c' (X.env.qual ++ "<lambda>")) → Q (.ref f) t) : wpAny (model X.prog X.w) X.A (eval (.Lambda params body scope pos) X.env) Q E s := by
  obtain ⟨ps, tP, three, among⟩ := tabs _ inT
  have inP : s.heap.get? P = some { cls := .none, data := .fields ps } := I.hok P _ tP
  have away : ∀ f, s.heap.objs.size ≤ f → f ∉ frs X.stack := fun f le z => (List.mem_cons.mp (I.stkSub _ z)).elim (fun e => Nat.lt_irrefl _ (Nat.lt_of_lt_of_le (e ▸ I.lt) le)) fun e => I.nofs le e
  refine PySem.W.kla_eval plain ?_
  cases old : codeAmong pos ps.toList with
  | some cv =>
    obtain ⟨c', rfl, there⟩ := among pos cv old
    exact PySem.W.kla_makeFunctionHit (mg := X.mg) (c := c) (P := P) (ps := ps) (closure_ok caught) I.ok.glob (I.mod.glob.keeps I.bk) code (tb.code.keeps I.bk) inP three old (tb.bm.keeps I.bk) fun ctv h1 tk keep le =>
      next h1.objs.size c' _ ctv H _ (I.kept (t' := tk) fun b o e => Heap.get?_push_of_some _ (keep b o e)) (.inl rfl) tabs (Heap.get?_push_size _ rfl) (I.hok.fresh le) (away _ le) there
  | none =>
    refine PySem.W.kla_makeFunction (mg := X.mg) (c := c) (P := P) (ps := ps) (closure_ok caught) I.ok.glob (I.mod.glob.keeps I.bk) code (tb.code.keeps I.bk) inP three old tb.gP (tb.bm.keeps I.bk) fun c' ctv h1 tk keep ge lt rec_ tabP => ?_
    obtain ⟨c2, oc, ws, t, e2, o1, o2, o3⟩ := rec_
    cases e2
    have le : s.heap.objs.size ≤ h1.objs.size := Nat.le_trans ge (Nat.le_of_lt lt)
    have new : H c' = none := I.hok.fresh ge
    have J := LamX.inv_table (t' := tk) (q := X.env.qual ++ "<lambda>") (more := #[rawInt pos.line, rawInt pos.col, .ref c']) (h' := h1.push (PySem.W.kla_obj "<lambda>" (X.env.qual ++ "<lambda>") params body scope (cloFrom X.env.cells scope.names []) ((X.mg "__name__").getD .none) c' ctv)) I tP
      (fun b o nb e => Heap.get?_push_of_some _ (keep b o nb e)) (Heap.get?_push_of_some _ tabP) ge ⟨oc, ws, t, Heap.get?_push_of_some _ o1, o2, o3⟩
    have step : LamStep H P c' (X.env.qual ++ "<lambda>") (upd (upd H P (.tbl (ps ++ #[rawInt pos.line, rawInt pos.col, .ref c']))) c' (LamX.CodeO c' (X.env.qual ++ "<lambda>"))) := .inr ⟨ps, _, tP, new, rfl⟩
    have grown : (ps ++ #[rawInt pos.line, rawInt pos.col, .ref c']).toList = ps.toList ++ [rawInt pos.line, rawInt pos.col, .ref c'] := by simp
    refine next h1.objs.size c' _ ctv _ _ J step (fun p hp => ?_) (Heap.get?_push_size _ rfl) ?_ (away _ le) upd_same
    · have stay : ∀ {c0 : Addr} {q0 : Str}, H c0 = some (LamX.CodeO c0 q0) → upd (upd H P (.tbl (ps ++ #[rawInt pos.line, rawInt pos.col, .ref c']))) c' (LamX.CodeO c' (X.env.qual ++ "<lambda>")) c0 = some (LamX.CodeO c0 q0) := fun e => step.ext _ _ e LamX.codeO_ne
      by_cases hb : p.1 = P
      · rw [one p hp hb, hb]
        refine ⟨_, by rw [upd_ne (ne_of_none tP new), upd_same], by rw [grown]; exact PySem.TriplesOk_snoc _ _ _ _ three, fun p2 cv hv => ?_⟩
        rw [grown] at hv
        rcases LamX.among_app _ three hv with z | z
        · obtain ⟨c0, e1, e2⟩ := among p2 cv z
          exact ⟨c0, e1, stay e2⟩
        · exact ⟨c', z, upd_same⟩
      · obtain ⟨ps2, b1, b2, b3⟩ := tabs p hp
        refine ⟨ps2, by rw [upd_ne (ne_of_none b1 new), upd_ne hb]; exact b1, b2, fun p2 cv hv => ?_⟩
        obtain ⟨c0, e1, e2⟩ := b3 p2 cv hv
        exact ⟨c0, e1, stay e2⟩
    · rw [upd_ne (Nat.ne_of_gt lt), upd_ne (Nat.ne_of_gt (Nat.lt_of_lt_of_le (Heap.lt_size inP) le))]
      exact I.hok.fresh le
end
end Rf

set_option Elab.async false
set_option linter.all false
set_option maxRecDepth 100000
set_option maxHeartbeats 4000000
namespace Rf
open PySem PySem.Spec PyProof.Rows L2
section
variable [tb : Tb]
/-- frozen ones alone -/
def Fro (Γ : En) : Prop := ∀ (i : Nat) (s : Sl), Γ[i]? = some (some s) → ∃ d, s = .fr d
theorem Fro.mu {Γ : En} (h : Fro Γ) {σ : L2.St} {a : Addr} : ¬ Mu σ Γ a := fun ⟨i, s, m, e, c, _⟩ => by
  obtain ⟨d, rfl⟩ := h i s e
  cases c
theorem Fro.held {Γ : En} (h : Fro Γ) {σ : L2.St} {a : Addr} : ¬ Held σ Γ a := fun ⟨i, s, m, e, c, _⟩ => by
  obtain ⟨d, rfl⟩ := h i s e
  cases c
theorem at_fro {K : PySem.W.Frag} {F H : Hp} {σ : L2.St} {Γ : En} (sub : Same F H) (len : Γ.length = σ.length) (fro : Fro Γ) (fr : ∀ (i : Nat) (d : D), Γ[i]? = some (some (.fr d)) → ∃ v, σ[i]? = some (some v) ∧ Rep K F v d) (tab : TabF tb.T F H) (f0 : Same tb.F0 F) : At K F H σ Γ :=
  by
  refine ⟨sub, len, fr, fun i s m e c => ?_, fun i j s t m n a _ e c => ?_, tab, f0⟩
  · obtain ⟨d, rfl⟩ := fro i s e
    cases c
  · obtain ⟨d, rfl⟩ := fro i s e
    cases c
theorem fro3 {a b c : Option D} : Fro [a.map Sl.fr, b.map Sl.fr, c.map Sl.fr] := fun i s e => by
  match i, e with
  | 0, e => cases a with
    | none => cases e
    | some d => cases e; exact ⟨d, rfl⟩
  | 1, e => cases b with
    | none => cases e
    | some d => cases e; exact ⟨d, rfl⟩
  | 2, e => cases c with
    | none => cases e
    | some d => cases e; exact ⟨d, rfl⟩
  | _ + 3, e => cases e
theorem s_fault {X : Cx} {cx : CtxR} {Φ : Phi} {f : Str} {n : Nat} {ms : EM (List D)} {g gk se a0 fo e e' : Str} {gA kA SE : Addr} {fdg fdk : FuncData} {pg : Arguments} {bg : List Stmt} {sg : Scope} {c P : Addr} {params : Arguments} {body : Expr} {scope : Scope} {k : Nat} {p lpos pos : Pos}
    (x : FtK X.K X.mg g gk se a0 fo e e' gA kA SE fdg fdk pg bg sg) (gl : Gl X g) (mg : X.mg g = some (.ref gA)) (ng : (g == ("__debug__" : Str)) = false) (gu : X.A.guards = some []) (room : Room (k + 2) X.A)
    (told : ∀ c t, kindD cx c = some t → Tells X.prog X.w X.K X.mg X.base k kA SE fdk e' c t)
    (TB : LamX.TabB X.base X.mg c P) (code : X.env.code = .ref c) (inT : (P, X.env.qual ++ "<lambda>") ∈ tb.T) (one : ∀ p ∈ tb.T, p.1 = P → p.2 = X.env.qual ++ "<lambda>") (L : LamX.LamS X.env.scope scope) (plain : defaultsOf params X.env = ([], []))
    (bind0 : ∀ (q : Str) (cl : List (Str × Addr)) (pm cv ctv : Value), bindArgs (PySem.W.kla_fn "<lambda>" q params body scope cl pm cv ctv) ⟨[], []⟩ = pure [])
    (text : ∀ (f' c' : Addr) (E : XK) (A : Around) (outer : List Env) (t : Shared) (H1 : Hp), (∃ env, A = X.A.deeper env) → PE (lamC X A outer t H1 E scope f' c') body (tG (spF X.K Φ f n) E (rA X.K ms))) :
    PE X (.Call (.Name g p) [.Lambda params body scope lpos] [] pos) (rE X.K (mFault cx Φ f ms)) := by
  letI : Wi := ⟨noE⟩
  refine ⟨fun pins s σ H Q I h => ?_⟩
  obtain ⟨F, Γ, r, Γ', A, e0, kq⟩ := h
  obtain ⟨ds, Γ1, e1, e2⟩ := bind_ok e0
  obtain ⟨e3, rfl⟩ := opt_ok e2
  refine wpAny_Call_Name_kw (ld_glob I gl mg (PySem.W.callWith_K (h₀ := X.base) I.ok.mod.kin x.F.kp ?_ (by rfl) (by rfl)) ng)
  show wpAny _ _ (spliced ((false, eval (.Lambda params body scope lpos) X.env) :: backTo pos (starEach [] X.env))) _ _ s
  refine Calls.spliced_cons (lam_new I TB code inT one A.tab.t plain (L.has I.ok) fun f' c' pm' ctv H1 s' I1 ls T1 hf hfn hfr hco => ?_)
  refine Calls.spliced_nil ⟨I1.kIn, ?_⟩
  have A1 : At X.K F H1 σ Γ := A.lam ls.ext T1
  have st1 : Step F H (Mu σ Γ) F H1 := ⟨Same.refl F, fun b o h _ nt => ls.ext b o h nt, fun _ _ _ => rfl, ls.dom⟩
  obtain ⟨oc, od, dV, kV, doc, pm, an, cdv, ct, osl, hfd, look, cod, _, _⟩ := x.F.ex
  subst hfd
  have bnd := x.b s' [.ref f'] I1.kIn rfl
  refine wpAny_call (codeAny_mono (R := CR (L2N.CX X.prog X.w) X.stack X.prog X.w H1 s' Q noE) (LamX.run_ofS (N := [a0, fo, e]) (ps := [a0]) (us := [.ref f']) (vs := [.ref f']) look cod x.S (k := k + 1) room I1.env0 bnd (.cons rfl .nil) rfl fun room' => ?_) fun res t ht => match res, ht with
    | .error e, ht => passN σ pins H1 s' e t I1 ht
    | .ok (.ret _), ht => I1.after ht
    | .ok .next, ht => (show False from ht).elim
    | .ok .brk, ht => (show False from ht).elim
    | .ok .cont, ht => (show False from ht).elim)
  obtain ⟨p1, p2, p3, p4, p5, p6, p7, p8, p9, p10, p11, k1, b0, b1, rfl, su⟩ := x.txt
  obtain ⟨a1, a2, _⟩ := nm_ok x.na
  obtain ⟨f1, f2, _⟩ := nm_ok x.nf
  -- the three statements
  have S1 := i_asg (X := gotC X (L2N.CX X.prog X.w) noE [a0, fo, e] g sg gA cdv s' H1) (pos := p3) (s_const (pe_non (j := k1) (pos := p2)) fun F => .non) px_none (g_var (i := 1) (pos := p1) x.S.nd rfl (.inl x.lf) (.inr x.lf)) rfl sw_name rfl
  have S3 := i_retV (X := gotC X (L2N.CX X.prog X.w) noE [a0, fo, e] g sg gA cdv s' H1) (i := 1) (pos := p11) (pe_var (pos := p10) rfl (.inl x.lf) f1 f2)
  have S2 := L2N.ps_try_as (X := gotC X (L2N.CX X.prog X.w) noE [a0, fo, e] g sg gA cdv s' H1) (i := 2) (n := e) (x := se) (c := .ref SE) (b₀ := b0) (suite := [b1]) (np := p7) (pos := p9) (pos' := p8) (Wout := fun _ _ _ _ => False)
    (tb := fun W D σg Hg => σg[0]? = some (some (.ref f')) ∧ Hg c' = some (LamX.CodeO c' (X.env.qual ++ "<lambda>")) ∧ tG (spF X.K Φ f n) (fun cls d H2 => W cls d σg H2) (rA X.K ms) σ Hg (fun _ H2 => D.nx σg H2)) (ts := suT X.K cx)
    rfl rfl x.S.nd rfl x.le ⟨x.gs, (nm_ok x.ns).1, .inl x.ms⟩ takesN
    (fun W pn xe tk _ => pss_one (ps_expr (pos := p6) (pe_got (p1 := p4) (p2 := p5) (E := fun σg cls d H2 => W cls d σg H2) (tl := fun E => tG (spF X.K Φ f n) E (rA X.K ms)) I1 L hf hfn hfr (bind0 _ _ _ _ _) tk (fun σ1 cls d H2 z => z) room' (text f' c') rfl (.inl x.la) a1 a2) (swap_plain rfl)))
    (fun a oe cls d pn z fl => su_run (Z := gotC X (L2N.CX X.prog X.w) noE [a0, fo, e] g sg gA cdv s' H1) (pg := pg) (bg := _) x rfl rfl gu ((L2H.roomH_of room').mono (by omega)) told su z fl)
  refine ⟨_, pss_cons S1 (pss_cons S2 (pss_cons S3 pss_nil)), ?_⟩
  have froA : Fro [some (.fr (.exc f')), none, none] := fro3 (a := some (.exc f')) (b := none) (c := none)
  have froB : ∀ d, Fro [some (.fr (.exc f')), some (.fr d), none] := fun d => fro3 (a := some (.exc f')) (b := some d) (c := none)
  have froC : ∀ d a, Fro [some (.fr (.exc f')), some (.fr d), some (.fr (.exc a))] := fun d a => fro3 (a := some (.exc f')) (b := some d) (c := some (.exc a))
  have Az : At X.K F H1 (L2.start [a0, fo, e] [.ref f']) [some (.fr (.exc f')), none, none] := at_fro A1.sub rfl froA (fun i d h => by
    match i, h with
    | 0, h => cases h; exact ⟨_, rfl, .exc _⟩
    | 1, h => cases h
    | 2, h => cases h
    | _ + 3, h => cases h) A1.tab A1.f0
  refine ⟨F, _, Az, ?_⟩
  intro σ2 F2 H2 st2 A2z ss2
  have A2z : At X.K F2 H2 σ2 [some (.fr (.exc f')), some (.fr .non), none] := A2z
  have c2 : H2 c' = some (LamX.CodeO c' (X.env.qual ++ "<lambda>")) := st2.hs c' _ hco froA.mu LamX.codeO_ne
  have A2 : At X.K F2 H2 σ Γ := A1.step st2 A2z.tab A2z.sub fun a _ => froA.mu
  have s0 : σ2[0]? = some (some (.ref f')) := by
    obtain ⟨v, h, r⟩ := A2z.fr 0 _ rfl
    cases r
    exact h
  have s1 : σ2[1]? = some (some .non) := by
    obtain ⟨v, h, r⟩ := A2z.fr 1 _ rfl
    cases r
    exact h
  have l3 : σ2.length = 3 := A2z.len.symm
  refine ⟨s0, c2, F2, Γ, ds, Γ', A2, e1, fun vs F3 H3 st3 A3 g3 r3 => ?_⟩
  have A3z : At X.K F3 H3 σ2 [some (.fr (.exc f')), some (.fr .non), none] := A2z.step st3 A3.tab A3.sub fun a ha => absurd ha (froB _).held
  have st03 : Step F H (Mu σ Γ) F3 H3 := (st1.trans st2 fun y q => absurd q froA.mu).trans st3 fun y q => .inl q
  refine ⟨F3, ds.map Sl.fr, by rw [List.length_map, r3.len], at_args A3.tab A3.f0 A3.sub r3, by simp [isArg], ?_⟩
  cases ok : Φ.ok f (ds.map Sl.fr) with
  | some ro =>
    obtain ⟨r0, Γo⟩ := ro
    rw [ok] at e3
    cases e3
    refine .inl ⟨r0, Γo, rfl, fun v σ4 F4 H4 st4 A4 ss4 rr4 => ?_⟩
    have A4z := A3z.step st4 A4.tab A4.sub fun a _ h => mu_args h
    have A4x := A3.step st4 A4.tab A4.sub fun a _ h => mu_args h
    refine ⟨F4, _, A4z, ?_⟩
    intro v5 σ5 F5 H5 st5 A5 ss5 rr5
    exact kq v5 F5 H5 ((st03.trans st4 fun y q => absurd q mu_args).trans st5 fun y q => absurd q (froB _).mu) (A4x.step st5 A5.tab A5.sub fun a _ => (froB _).mu) g3 rr5
  | none =>
    rw [ok] at e3
    obtain ⟨t, h1, rfl⟩ := Option.map_eq_some_iff.mp e3
    obtain ⟨c, hx, hk⟩ := Option.bind_eq_some_iff.mp h1
    refine .inr ⟨c, hx, fun cls d F4 H4 st4 sm4 tab4 xr => ?_⟩
    obtain ⟨rfl, dx, ws, rfl, nd, fd, hd, hl, hr⟩ := xr
    refine ⟨true, (told c t hk).exm, fun _ a na => ?_, fun z => nomatch z⟩
    have st5 := st4.frz (o := .xd (c.ns.zip ws).reverse) (.inl nd) fd
    have sm5 : Same (upd F4 dx (.xd (c.ns.zip ws).reverse)) H4 := same_frz sm4 hd
    have tab5 : TabF tb.T (upd F4 dx (.xd (c.ns.zip ws).reverse)) H4 := tab4.upF fun _ z => nomatch z
    have A5x : At X.K (upd F4 dx (.xd (c.ns.zip ws).reverse)) H4 σ Γ' := A3.step st5 tab5 sm5 fun a _ h => mu_args h
    refine ⟨c, t, upd F4 dx (.xd (c.ns.zip ws).reverse), dx, ws, hk, rfl, rfl, upd_same, hl, hr.up (same_upd fd), ?_⟩
    have A5z : @At ⟨tb.T, upd F4 dx (.xd (c.ns.zip ws).reverse)⟩ X.K (upd F4 dx (.xd (c.ns.zip ws).reverse)) H4 (σ2.set 2 (some (.ref a))) [some (.fr (.exc f')), some (.fr .non), some (.fr (.exc a))] :=
      @at_fro ⟨tb.T, upd F4 dx (.xd (c.ns.zip ws).reverse)⟩ _ _ _ _ _ sm5 (by rw [List.length_set, l3]; rfl) (froC _ _) (fun i d h => by
        match i, h with
        | 0, h => cases h; exact ⟨_, by rw [List.getElem?_set_ne (by decide)]; exact s0, .exc _⟩
        | 1, h => cases h; exact ⟨_, by rw [List.getElem?_set_ne (by decide)]; exact s1, .non⟩
        | 2, h => cases h; exact ⟨_, List.getElem?_set_self (by rw [l3]; decide), .exc _⟩
        | _ + 3, h => cases h) tab5 (Same.refl _)
    refine ⟨_, _, A5z, ?_⟩
    refine (show ∀ fl, fl = Fl.nx [some (.fr (.exc f')), some (.fr t), some (.fr (.exc a))] → @FlQ ⟨tb.T, upd F4 dx (.xd (c.ns.zip ws).reverse)⟩ ⟨noE⟩ X.K (upd F4 dx (.xd (c.ns.zip ws).reverse)) H4 (σ2.set 2 (some (.ref a))) [some (.fr (.exc f')), some (.fr .non), some (.fr (.exc a))] _ fl from fun fl hfl => ?_) _ (su_G (a := a) (told := t) (s0 := some (.fr (.exc f'))))
    subst hfl
    intro σ6 F6 H6 st6 A6 ss6
    obtain ⟨sub6, len6, fr6, _, _, tab6, _⟩ := A6
    have A6x : At X.K F6 H6 σ Γ' := A5x.step st6 tab6 sub6 fun a _ => (froC _ _).mu
    have A6z : At X.K F6 H6 (σ6.set 2 none) [some (.fr (.exc f')), some (.fr t), none] := at_fro sub6 (by rw [List.length_set]; exact len6) (froB _) (fun i d h => by
      match i, h with
      | 0, h =>
        cases h
        obtain ⟨v, h2, r2⟩ := fr6 0 _ rfl
        exact ⟨v, by rw [List.getElem?_set_ne (by decide)]; exact h2, r2⟩
      | 1, h =>
        cases h
        obtain ⟨v, h2, r2⟩ := fr6 1 _ rfl
        exact ⟨v, by rw [List.getElem?_set_ne (by decide)]; exact h2, r2⟩
      | 2, h => cases h
      | _ + 3, h => cases h) tab6 A6x.f0
    refine ⟨F6, _, A6z, ?_⟩
    intro v7 σ7 F7 H7 st7 A7 ss7 rr7
    exact kq v7 F7 H7 (((st03.trans st5 fun y q => absurd q mu_args).trans st6 fun y q => absurd q (froC _ _).mu).trans st7 fun y q => absurd q (froB _).mu) (A6x.step st7 A7.tab A7.sub fun a _ => (froB _).mu) g3 rr7
end
end Rf

set_option Elab.async false
set_option linter.all false
set_option maxRecDepth 100000
set_option maxHeartbeats 4000000
namespace Rf
open PySem PySem.Spec PyProof.Rows L2
variable [Tb]
local instance noWiT : Wi := ⟨noE⟩

/-! ### where a text stands -/
structure CC where
  sc : Scope
  fn : Str → Bool
  N : List Str
  fns : List Str
  mks : List Str
  cx : CtxR
  gcd : Bool
  /-- the error classes that are raised -/
  exs : List Str
  /-- room kept for a lambda; whether errors may be caught here -/
  rm : Nat
  ft : Bool
/-- a lambda's body -/
def CC.lam (C : CC) (scope : Scope) : CC := { C with sc := scope, fn := fun _ => false, rm := 0, ft := false, exs := [] }
def CC.blk (C : CC) (scope : Scope) : CC := { C with sc := relS scope C.sc, fn := fun x => scope.names.lookup x == some .cell, ft := false }
def isK (k : NameKind) (o : Option NameKind) : Bool := decide (o = some k)
def CC.vis (C : CC) (x : Str) : Bool := isK .local (C.sc.names.lookup x) || isK .cell (C.sc.names.lookup x) || isK .free (C.sc.names.lookup x)
def CC.loc (C : CC) (x : Str) : Bool := (isK .local (C.sc.names.lookup x) || isK .cell (C.sc.names.lookup x)) && (C.fn x || isK .local (C.sc.names.lookup x))
def CC.gl (C : CC) (x : Str) : Bool := isK .globalImplicit (C.sc.names.lookup x)
/-- what _law_fault(lambda: ..) asks -/
def FtX (cx : CtxR) (X : Cx) : Prop := (∃ (gA kA SE : Addr) (fdg fdk : FuncData) (pg : Arguments) (bg : List Stmt) (sg : Scope), FtK X.K X.mg "_law_fault" "_law_kinds" "StretchError" "call" "found" "e" "e" gA kA SE fdg fdk pg bg sg ∧ X.mg "_law_fault" = some (.ref gA) ∧ (∀ c t, kindD cx c = some t → Tells X.prog X.w X.K X.mg X.base 2 kA SE fdk "e" c t)) ∧ Room 4 X.A ∧
  ∃ c P, LamX.TabB X.base X.mg c P ∧ X.env.code = .ref c ∧ (P, X.env.qual ++ "<lambda>") ∈ Tb.T ∧ ∀ p ∈ Tb.T, p.1 = P → p.2 = X.env.qual ++ "<lambda>"
structure XC (Φ : Phi) (X : Cx) (C : CC) : Prop where
  N : X.N = C.N
  nd : C.N.Nodup
  sc : X.env.scope = C.sc
  kind : C.sc.kind = .function
  fn : ∀ x, X.fn x = C.fn x
  calm : X.calm = true
  xe : PassesOwn (model X.prog X.w) X.A X.env X.xe
  own : OwnOk X.K X.mg C.cx
  un : X.A.units + 65 < cLine
  gu : X.A.guards = some []
  sys : ∃ o, X.K.lookup sysModules = some o
  free : ∀ x ∈ frees, X.mg x = none
  gcd : C.gcd = true → X.mg "gcd" = some (.builtin "math.gcd")
  num : ∀ x i, C.cx.nums.lookup x = some i → ∃ t, X.mg x = some (.int i t)
  fns : ∀ f ∈ C.fns, ∃ fd ps m k, FnG X.prog X.w X.K X.mg X.base k (He.ga X.K f) fd ps (spF X.K Φ f m) ∧ Room (k + 1 + C.rm) X.A ∧ X.mg f = some (.ref (He.ga X.K f)) ∧ PySem.W.keepIn X.K (.ref (He.ga X.K f)) = true ∧ Binds X.K fd ps []
  mks : ∀ c ∈ C.mks, c ∈ C.cx.cls.map (·.1) ∧ ∃ fd ps m k, FnG X.prog X.w X.K X.mg X.base k (He.ma X.K (He.ga X.K c) "__init__") fd ps (spF X.K Φ (c ++ ".__init__") m) ∧ Room (k + 1 + C.rm) X.A ∧ Binds X.K fd ps []
  ft : C.ft = true → FtX C.cx X
  exs : ∀ c ∈ C.exs, ∃ ns, C.cx.exc.lookup c = some ns ∧ ExF X.prog X.w X.K X.mg X.base c ns ∧ Room 2 X.A
section
variable {Φ : Phi} {X : Cx} {C : CC} {x : Str}
theorem isK_eq {k : NameKind} {o : Option NameKind} (h : isK k o = true) : o = some k := of_decide_eq_true h
theorem XC.vis (h : XC Φ X C) (e : C.vis x = true) : Vis X.env.scope x := by
  unfold CC.vis at e
  rw [Bool.or_eq_true, Bool.or_eq_true] at e
  unfold Vis
  rw [h.sc]
  rcases e with (e | e) | e
  · exact .inl (isK_eq e)
  · exact .inr (.inl (isK_eq e))
  · exact .inr (.inr (isK_eq e))
theorem XC.loc (h : XC Φ X C) (e : C.loc x = true) : L2.Loc X.env.scope x ∧ (X.fn x = true ∨ X.env.scope.names.lookup x = some .local) := by
  unfold CC.loc at e
  rw [Bool.and_eq_true, Bool.or_eq_true, Bool.or_eq_true] at e
  unfold L2.Loc
  rw [h.sc, h.fn]
  exact ⟨e.1.imp isK_eq isK_eq, e.2.imp id isK_eq⟩
theorem XC.gl (h : XC Φ X C) (e : C.gl x = true) : Gl X x := by
  show X.env.scope.names.lookup x = _
  rw [h.sc]; exact isK_eq e
theorem XC.blk (h : XC Φ X C) {scope : Scope} {ow : List (Str × Nat)} (ok : BlkOk X.N X.env.scope scope ow) (s : Shared) (H : Hp) (cl : List (Str × Addr)) (A : Addr) (fp : List Addr) : XC Φ (X.blk s H scope (compEnvC scope cl A X.env) fp) (C.blk scope) where
  N := h.N
  nd := h.nd
  sc := by
    show relabel scope X.env = relS scope C.sc
    rw [← h.sc]; rfl
  kind := ok.kind
  fn := fun _ => rfl
  calm := h.calm
  xe := PassesOwn.never
  own := h.own
  un := h.un
  gu := h.gu
  sys := h.sys
  free := h.free
  gcd := h.gcd
  num := h.num
  fns := h.fns
  mks := h.mks
  exs := h.exs
  ft := fun z => nomatch z
end
end Rf

set_option Elab.async false
set_option linter.all false
set_option maxRecDepth 100000
set_option maxHeartbeats 4000000
namespace Rf
open PySem PySem.Spec PyProof.Rows L2
variable [Tb]
local instance noWiU : Wi := ⟨noE⟩

/-! ### targets -/
mutual
def mT (C : CC) : T → Expr → Bool
  | .var i, e => match asName e with
    | some x => decide (C.N[i]? = some x) && C.loc x
    | none => false
  | .tup ts, e => match asTup e with
    | some es => mTs C ts es
    | none => false
def mTs (C : CC) : List T → List Expr → Bool
  | [], [] => true
  | t :: ts, e :: es => mT C t e && mTs C ts es && notStar e
  | _, _ => false
end
section
variable {Φ : Phi} {X : Cx} {C : CC} {x : Str}
theorem asgTs_len : ∀ {ts : List T} {rs : List R} {Γ Γ' : En}, asgTs ts rs Γ = some Γ' → rs.length = ts.length
  | [], [], _, _, _ => rfl
  | t :: ts, r :: rs, Γ, Γ', e => by
    unfold asgTs at e
    obtain ⟨Γ1, e1, e2⟩ := Option.bind_eq_some_iff.mp e
    rw [List.length_cons, List.length_cons, asgTs_len e2]
  | [], _ :: _, _, _, e => by unfold asgTs at e; cases e
  | _ :: _, [], _, _, e => by unfold asgTs at e; cases e
mutual
theorem t_ok (h : XC Φ X C) : ∀ (t : T) (e : Expr), mT C t e = true → PG X e (rG X.K t.slots (asgT t)) ∧ notStar e = true
  | .var i, e, m => by
    unfold mT at m
    split at m
    · rename_i x hx
      obtain ⟨p, rfl⟩ := asName_eq hx
      rw [Bool.and_eq_true, decide_eq_true_eq] at m
      obtain ⟨l1, l2⟩ := h.loc m.2
      refine ⟨PG.weak (g_var (i := i) (by rw [h.N]; exact h.nd) (by rw [h.N]; exact m.1) l1 l2) fun v σ H Q q => ?_, rfl⟩
      have e1 : asgT (.var i) = setV i := by funext r Γ; unfold asgT; rfl
      rw [e1] at q
      exact q
    · cases m
  | .tup ts, e, m => by
    unfold mT at m
    split at m
    · rename_i es hx
      obtain ⟨k, p, rfl⟩ := asTup_eq hx
      obtain ⟨h1, h2, h3⟩ := ts_ok h ts es m
      refine ⟨PG.weak (g_tup h.calm h1 h2 fun rs Γ Γ' e => by rw [asgTs_len e, h3]) fun v σ H Q q => ?_, rfl⟩
      have e1 : asgT (.tup ts) = fun r Γ => match r with
        | .d (.tup ds) => asgTs ts (ds.map R.d) Γ
        | _ => none := by funext r Γ; unfold asgT; rfl
      rw [e1] at q
      exact q
    · cases m
theorem ts_ok (h : XC Φ X C) : ∀ (ts : List T) (es : List Expr), mTs C ts es = true → PGs X es (rGs X.K (T.slotss ts) (asgTs ts)) ∧ es.all notStar = true ∧ ts.length = es.length
  | [], [], _ => ⟨PGs.weak g_nil fun vs σ H Q q => by
      have e1 : asgTs [] = fun rs Γ => match rs with
        | [] => some Γ
        | _ => none := by funext rs Γ; cases rs <;> rfl
      rw [e1] at q
      exact q, rfl, rfl⟩
  | t :: ts, e :: es, m => by
    unfold mTs at m
    rw [Bool.and_eq_true, Bool.and_eq_true] at m
    obtain ⟨h1, _⟩ := t_ok h t e m.1.1
    obtain ⟨h2, h3, h4⟩ := ts_ok h ts es m.1.2
    refine ⟨PGs.weak (g_cons h1 h2 m.2 h3) fun vs σ H Q q => ?_, by rw [List.all_cons, m.2, h3]; rfl, by rw [List.length_cons, List.length_cons, h4]⟩
    have e1 : asgTs (t :: ts) = fun rs Γ => match rs with
        | r :: rs => (asgT t r Γ).bind (asgTs ts rs)
        | _ => none := by funext rs Γ; cases rs <;> rfl
    rw [e1] at q
    exact q
  | [], _ :: _, m => by unfold mTs at m; cases m
  | _ :: _, [], m => by unfold mTs at m; cases m
end
end

/-! ### expressions: the check -/
def mVar (C : CC) (i : Nat) (e : Expr) : Bool := match asName e with
  | some x => decide (C.N[i]? = some x) && C.vis x && nmB x
  | none => false
def blN : Bl → Str
  | .len => "len" | .int => "int" | .abs => "abs" | .max => "max" | .min => "min" | .sum => "sum" | .all => "all" | .any => "any" | .list => "list" | .tuple => "tuple" | .gcd => "gcd" | .sorted => "sorted" | .sset => "sorted" | .lset => "len" | .lrange => "list"
def Ty.nmS : Ty → Str
  | .own C => C
  | .int => "int" | .bool => "bool" | .str => "str" | .list => "list" | .tuple => "tuple" | .dict => "dict"
def tyB (C : CC) (t : Ty) (e : Expr) : Bool := match asName e with
  | some y => decide (y = t.nmS) && C.gl y && nmB y && (match t with
    | .own c => (C.cx.cls.map (·.1)).contains c
    | _ => true)
  | none => false
def tysB (C : CC) : List Ty → List Expr → Bool
  | [], [] => true
  | t :: ts, e :: es => tyB C t e && notStar e && tysB C ts es
  | _, _ => false
def mKeys : List (Option Expr) → List Str → Bool
  | [], [] => true
  | some e :: es, k :: ks => decide (asConst e = some (.str k)) && mKeys es ks
  | _, _ => false
def boP (an : Bool) : BoolOp := if an then .And else .Or
def mnN : Mn → Str
  | .append => "append" | .extend => "extend" | .pop => "pop"
def coC : Option Bool → Const
  | none => .none
  | some b => .bool b
def isT (e : Expr) : Bool := (asTup e).isSome
/-- lambda: e -/
def asLam : Expr → Option (Expr × Scope)
  | .Lambda ⟨[], [], none, [], [], none, []⟩ b sc _ => some (b, sc)
  | _ => none
theorem asLam_eq {e b : Expr} {sc : Scope} (h : asLam e = some (b, sc)) : ∃ p, e = .Lambda ⟨[], [], none, [], [], none, []⟩ b sc p := by
  unfold asLam at h
  split at h
  · cases h; exact ⟨_, rfl⟩
  · cases h
/-- a call of what a name holds -/
def asMethV : Expr → Option (Expr × List Expr)
  | .Call (.Name x p) es [] _ => some (.Name x p, es)
  | _ => none
theorem asMethV_eq {e v : Expr} {es : List Expr} (h : asMethV e = some (v, es)) : ∃ x p q, v = .Name x p ∧ e = .Call (.Name x p) es [] q := by
  unfold asMethV at h
  split at h
  · cases h; exact ⟨_, _, _, rfl, rfl⟩
  · cases h
mutual
def mE (C : CC) : E → Expr → Bool
  | .var i, e => mVar C i e
  | .non, e => decide (asConst e = some .none)
  | .bl b, e => decide (asConst e = some (.bool b))
  | .int i, e => decide (asConst e = some (.int i))
  | .str x, e => decide (asConst e = some (.str x))
  | .gint x, e => decide (asName e = some x) && C.gl x && nmB x && (C.cx.nums.lookup x).isSome
  | .fnv x, e => decide (asName e = some x) && C.gl x && nmB x && C.fns.contains x
  | .bin op a b, e => match asBin e with
    | some (pa, o, pb) => decide (o = op.py) && mE C a pa && mE C b pb
    | none => false
  | .neg a, e => match asUn e with
    | some (o, pa) => decide (o = .USub) && mE C a pa
    | none => false
  | .nt a, e => match asUn e with
    | some (o, pa) => decide (o = .Not) && mE C a pa
    | none => false
  | .bop an as, e => match asBo e with
    | some (o, es) => decide (o = boP an) && mEs C as es && !es.isEmpty
    | none => false
  | .cmp op a b, e => match asCmp e with
    | some (pa, [o], [pb]) => decide (o = op.py) && mE C a pa && mE C b pb && notSet pb
    | _ => false
  | .cmp2 o1 o2 a b c, e => match asCmp e with
    | some (pa, [q1, q2], [pb, pc]) => decide (q1 = o1.py) && decide (q2 = o2.py) && mE C a pa && mE C b pb && mE C c pc && notSet pc
    | _ => false
  | .isc ng a c, e => match asCmp e with
    | some (pa, [o], [pc]) => decide (o = if ng then .IsNot else .Is) && mE C a pa && decide (asConst pc = some (coC c))
    | _ => false
  | .ite t a b, e => match asIf e with
    | some (pt, pa, pb) => mE C t pt && mE C a pa && mE C b pb
    | none => false
  | .call f as, e => match asCall e with
    | some (x, es) => decide (x = f) && C.gl f && nmB f && C.fns.contains f && mEs C as es
    | none => false
  | .make c as, e => match asCall e with
    | some (x, es) => decide (x = c) && C.gl c && nmB c && C.mks.contains c && mEs C as es && !es.isEmpty
    | none => false
  | .blt f as, e => match asCall e with
    | some (x, es) => decide (x = blN f) && C.gl (blN f) && (match f with
      | .sset => (match es with
        | [e1] => (match asCall e1 with
          | some (y, [e2]) => decide (y = "set") && C.gl "set" && mEs C as [e2]
          | _ => false)
        | _ => false)
      | .lset => (match es with
        | [e1] => (match asCall e1 with
          | some (y, [e2]) => decide (y = "set") && C.gl "set" && mEs C as [e2]
          | _ => false)
        | _ => false)
      | .lrange => (match es with
        | [e1] => (match asCall e1 with
          | some (y, [e2]) => decide (y = "range") && C.gl "range" && mEs C as [e2]
          | _ => false)
        | _ => false)
      | .gcd => C.gcd && mEs C as es && !es.isEmpty
      | _ => mEs C as es && !es.isEmpty)
    | none => false
  | .isi a one ts, e => match asCall e with
    | some (x, [pa, pb]) => decide (x = "isinstance") && C.gl "isinstance" && mE C a pa && notStar pa && notStar pb && (if one then (match ts with
      | [t] => tyB C t pb
      | _ => false) else (match asTup pb with
      | some es => tysB C ts es && !ts.isEmpty && decide (ts.length ≤ 20)
      | none => false))
    | _ => false
  | .meth m a as, e => match asMeth e with
    | some (o, f, es) => decide (f = "index") && (match a.slot with
      | some i => mVar C i o
      | none => false) && mEs C as es && !es.isEmpty && decide (es.length ≤ 20) && notSuper o
    | none => false
  | .mut m i as, e => match asMeth e with
    | some (o, f, es) => decide (f = mnN m) && mVar C i o && mEs C as es && (!es.isEmpty || (match m with
      | .pop => true
      | _ => false)) && decide (es.length ≤ 20) && notSuper o
    | none => false
  | .attr a f, e => match asAttr e with
    | some (o, g) => decide (g = f) && mE C a o && notSuper o
    | none => false
  | .ix a b, e => match asSub e with
    | some (pa, pb) => mE C a pa && mE C b pb && notSlice pb
    | none => false
  | .cut a lo hi, e => match asCut e with
    | some (pa, pl, ph) => mE C a pa && mEs C lo pl.toList && mEs C hi ph.toList
    | none => false
  | .rev a, e => match asRev e with
    | some pa => mE C a pa
    | none => false
  | .tup as, e => match asTup e with
    | some es => mEs C as es
    | none => false
  | .lst as, e => match asLst e with
    | some es => mEs C as es
    | none => false
  | .dct ks as, e => match asDct e with
    | some (keys, vs) => mKeys keys ks && mEs C as vs && decide (keys.length = vs.length) && decide (keys.length ≤ 15)
    | none => false
  | .comp e t it c own, pe => match asComp pe with
    | some (elt, tg, iter, ifs, scope) => blkC C.N C.sc scope own && mT (C.blk scope) t tg && mI C it iter && (isT tg || it.free) && decide (ifs.length ≤ 1) && mEs (C.blk scope) c ifs && mE (C.blk scope) e elt && notSet iter && t.slots.all (fun j => (own.map (·.2)).contains j)
    | none => false
  | .fault f as, e => match asCall e with
    | some (x, [la]) => decide (x = "_law_fault") && C.gl x && C.ft && decide (C.rm = 2) && (match asLam la with
      | some (body, scope) => LamX.lamSB C.sc scope && (match asCall body with
        | some (y, es) => decide (y = f) && C.fns.contains y && (C.lam scope).gl y && nmB y && mEs (C.lam scope) as es
        | none => false)
      | none => false)
    | _ => false
  | .faultM _ _, _ => false
  | .faultV i as, e => match asCall e with
    | some (x, [la]) => decide (x = "_law_fault") && C.gl x && C.ft && decide (C.rm = 2) && (match asLam la with
      | some (body, scope) => LamX.lamSB C.sc scope && (match asMethV body with
        | some (v, es) => mVar (C.lam scope) i v && (C.cx.fnl.all fun f => C.fns.contains f) && mEs (C.lam scope) as es && !es.isEmpty
        | none => false)
      | none => false)
    | _ => false
  | .repr a, e => match asCall e with
    | some (x, [o]) => decide (x = "repr") && C.gl x && mE C a o && notStar o
    | _ => false
def mEs (C : CC) : Es → List Expr → Bool
  | .nil, [] => true
  | .cons a as, e :: es => mE C a e && mEs C as es && notStar e
  | _, _ => false
def mI (C : CC) : It → Expr → Bool
  | .val a, e => mE C a e
  | .r1 a, e => match asCall e with
    | some (x, [pa]) => decide (x = "range") && C.gl "range" && mE C a pa && notStar pa
    | _ => false
  | .r2 a b, e => match asCall e with
    | some (x, [pa, pb]) => decide (x = "range") && C.gl "range" && mE C a pa && mE C b pb && notStar pa && notStar pb
    | _ => false
  | .zip a b, e => match asCall e with
    | some (x, [pa, pb]) => decide (x = "zip") && C.gl "zip" && mE C a pa && mE C b pb && notStar pa && notStar pb
    | _ => false
  | .zipr a b, e => match asCall e with
    | some (x, [pr, pb]) => decide (x = "zip") && C.gl "zip" && (match asCall pr with
      | some (y, [pa]) => decide (y = "range") && C.gl "range" && mE C a pa && mE C b pb && notStar pa && notStar pb
      | _ => false)
    | _ => false
  | .enum a, e => match asCall e with
    | some (x, [pa]) => decide (x = "enumerate") && C.gl "enumerate" && mE C a pa && notStar pa
    | _ => false
def It.free : It → Bool
  | .zip _ _ => false
  | .zipr _ _ => false
  | .enum _ => false
  | _ => true
end
end Rf

set_option Elab.async false
set_option linter.all false
set_option maxRecDepth 100000
set_option maxHeartbeats 8000000
namespace Rf
open PySem PySem.Spec PyProof.Rows L2
variable [Tb]
local instance noWiV : Wi := ⟨noE⟩

structure EOk (cx : CtxR) (Φ : Phi) (X : Cx) (e : E) (pe : Expr) : Prop where
  r : PE X pe (rE X.K (ev cx Φ e))
  p : PE X pe (rP X.K (pk cx Φ e))
  t : PT X pe (rT X.K (evT cx Φ e))
  v : ∀ i, e.slot = some i → PE X pe (tVar i)
structure EsOk (cx : CtxR) (Φ : Phi) (X : Cx) (as : Es) (es : List Expr) : Prop where
  a : PA X es (rA X.K (lS (evL cx Φ as)))
  p : PA X es (rPs X.K (lP (evL cx Φ as)))
  r : PA X es (rRs X.K (lR (evL cx Φ as)))
  ns : es.all notStar = true
  nil : as = .nil → es = []
  cns : ∀ a as', as = .cons a as' → ∃ e es', es = e :: es' ∧ EOk cx Φ X a e ∧ PA X es' (rA X.K (lS (evL cx Φ as'))) ∧ (as' = .nil ↔ es' = [])
  bo : ∀ an pos, es ≠ [] → PE X (.BoolOp (boP an) es pos) (rE X.K (lB an (evL cx Φ as))) ∧ PW X (.BoolOp (boP an) es pos) (rT X.K (lBT an (evL cx Φ as)))
  d : ∀ keys ks pos, mKeys keys ks = true → keys.length = es.length → DctOk X pos keys es ks (lS (evL cx Φ as))
  c : es.length ≤ 1 → PTs X es (rT X.K (lT (evL cx Φ as)))
def E.tst : E → Bool
  | .nt _ => true
  | .bop _ _ => true
  | .ite _ _ _ => true
  | _ => false
section
variable {cx : CtxR} {Φ : Phi} {X : Cx} {C : CC} {x : Str} {e : E} {pe : Expr}
theorem pk_ev (h : e.slot = none) : pk cx Φ e = (ev cx Φ e).v := by cases e <;> first | rfl | cases h
theorem evT_def (h : e.tst = false) : evT cx Φ e = (pk cx Φ e).bind fun x => EM.opt (truD x) := by cases e <;> first | rfl | cases h
theorem EOk.of (h : PE X pe (rE X.K (ev cx Φ e))) (hs : e.slot = none) (ht : e.tst = false) (hp : plainT pe = true) : EOk cx Φ X e pe := by
  have p : PE X pe (rP X.K (pk cx Φ e)) := by rw [pk_ev hs]; exact rP_of (rD_of h)
  exact ⟨h, p, by rw [evT_def ht]; exact t_val p hp, fun i z => by rw [hs] at z; cases z⟩
theorem EOk.ofT (h : PE X pe (rE X.K (ev cx Φ e))) (hs : e.slot = none) (ht : PT X pe (rT X.K (evT cx Φ e))) : EOk cx Φ X e pe :=
  ⟨h, by rw [pk_ev hs]; exact rP_of (rD_of h), ht, fun i z => by rw [hs] at z; cases z⟩
theorem EOk.ofC (h : PE X pe (rE X.K (ev cx Φ e))) (hs : e.slot = none) (ht : e.tst = false) (hT : PT X pe (rT X.K ((ev cx Φ e).v.bind fun x => EM.opt (truD x)))) : EOk cx Φ X e pe :=
  .ofT h hs (by rw [evT_def ht, pk_ev hs]; exact hT)
theorem EOk.d (h : EOk cx Φ X e pe) : PE X pe (rD X.K (ev cx Φ e).v) := rD_of h.r
theorem mVar_ok (h : XC Φ X C) {i : Nat} (m : mVar C i pe = true) : PE X pe (tVar i) := by
  unfold mVar at m
  split at m
  · rename_i x hx
    obtain ⟨p, rfl⟩ := asName_eq hx
    rw [Bool.and_eq_true, Bool.and_eq_true, decide_eq_true_eq] at m
    obtain ⟨n1, n2, _⟩ := nm_ok m.2
    exact pe_var (by rw [h.N]; exact m.1.1) (h.vis m.1.2) n1 n2
  · cases m
theorem var_ok (h : XC Φ X C) {i : Nat} (m : mVar C i pe = true) : EOk cx Φ X (.var i) pe := by
  have v := mVar_ok h m
  have hp : plainT pe = true := by
    unfold mVar at m
    split at m
    · rename_i x hx
      obtain ⟨p, rfl⟩ := asName_eq hx
      rfl
    · cases m
  refine ⟨rE_of_d (s_var v) fun Γ => rfl, s_pk v, t_val (s_pk v) hp, fun j z => by cases z; exact v⟩
theorem ty_ok (h : XC Φ X C) {t : Ty} (m : tyB C t pe = true) : PE X pe (tC (t.v X.K)) := by
  unfold tyB at m
  split at m
  · rename_i y hy
    obtain ⟨p, rfl⟩ := asName_eq hy
    simp only [Bool.and_eq_true, decide_eq_true_eq] at m
    obtain ⟨⟨⟨rfl, m2⟩, m3⟩, m4⟩ := m
    obtain ⟨n1, _, n3⟩ := nm_ok m3
    have g := h.gl m2
    cases t with
    | own c => exact pe_glob g (h.own.glo c (mem_cls m4)) rfl n1
    | int => exact pe_bltn g (h.free _ (by decide)) PyProof.Rows.boot_int rfl n3 n1
    | bool => exact pe_bltn g (h.free _ (by decide)) PyProof.Rows.boot_bool rfl n3 n1
    | str => exact pe_bltn g (h.free _ (by decide)) PyProof.Rows.boot_str rfl n3 n1
    | list => exact pe_bltn g (h.free _ (by decide)) PyProof.Rows.boot_list rfl n3 n1
    | tuple => exact pe_bltn g (h.free _ (by decide)) PyProof.Rows.boot_tuple rfl n3 n1
    | dict => exact pe_bltn g (h.free _ (by decide)) PyProof.Rows.boot_dict rfl n3 n1
  · cases m
theorem tys_ok (h : XC Φ X C) : ∀ {ts : List Ty} {es : List Expr}, tysB C ts es = true → Paired (fun (e : Expr) v => PE X e (tC v) ∧ notStar e = true) es (ts.map (·.v X.K))
  | [], [], _ => .nil
  | t :: ts, e :: es, m => by
    unfold tysB at m
    rw [Bool.and_eq_true, Bool.and_eq_true] at m
    exact .cons ⟨ty_ok h m.1.1, m.1.2⟩ (tys_ok h m.2)
  | [], _ :: _, m => by unfold tysB at m; cases m
  | _ :: _, [], m => by unfold tysB at m; cases m
theorem const_ok {c : Const} (m : decide (asConst pe = some c) = true) : ∃ k p, pe = .Constant c k p := asConst_eq (of_decide_eq_true m)
/-- the built-in functions -/
theorem bl_ok (h : XC Φ X C) {f : Bl} (hf : f ≠ .sset) (hf2 : f ≠ .lrange) (hf3 : f ≠ .lset) (hg : f = .gcd → C.gcd = true) {pa : Expr} {es : List Expr} {ms : EM (List D)} {p q : Pos} (g : C.gl (blN f) = true) (ha : PA X (pa :: es) (rPs X.K ms)) (hs : (pa :: es).all notStar = true) :
    PE X (.Call (.Name (blN f) p) (pa :: es) [] q) (rE X.K (ms.bind fun ds => EM.opt (bltD f ds))) := by
  have g := h.gl g
  cases f with
  | len => exact s_blB bl_len g (h.free _ (by decide)) boot_len ha (by decide) (by decide) hs
  | int => exact s_blT bl_int g (h.free _ (by decide)) PyProof.Rows.boot_int ha (by decide) (by decide) hs
  | abs => exact s_blB bl_abs g (h.free _ (by decide)) (by decide +kernel) ha (by decide) (by decide) hs
  | max => exact s_blB (bl_max h.calm (by have := h.un; omega)) g (h.free _ (by decide)) PyProof.Rows.boot_max ha (by decide) (by decide) hs
  | min => exact s_blB (bl_min h.calm (by have := h.un; omega)) g (h.free _ (by decide)) PyProof.Rows.boot_min ha (by decide) (by decide) hs
  | sum => exact s_blB (bl_sum h.calm) g (h.free _ (by decide)) PyProof.Rows.boot_sum ha (by decide) (by decide) hs
  | all => exact s_blB (bl_all h.calm) g (h.free _ (by decide)) (by decide +kernel) ha (by decide) (by decide) hs
  | any => exact s_blB (bl_any h.calm) g (h.free _ (by decide)) (by decide +kernel) ha (by decide) (by decide) hs
  | list => exact s_blT bl_list g (h.free _ (by decide)) PyProof.Rows.boot_list ha (by decide) (by decide) hs
  | tuple => exact s_blT bl_tuple g (h.free _ (by decide)) PyProof.Rows.boot_tuple ha (by decide) (by decide) hs
  | gcd => exact s_blF bl_gcd g (h.gcd (hg rfl)) ha (by decide) hs
  | sorted => exact s_blB bl_sorted g (h.free _ (by decide)) PyProof.Rows.boot_sorted ha (by decide) (by decide) hs
  | sset => exact absurd rfl hf
  | lrange => exact absurd rfl hf2
  | lset => exact absurd rfl hf3
theorem PO_of {lo : Es} {o : Option Expr} (h : EsOk cx Φ X lo o.toList) : PO X o (rO X.K (lO (evL cx Φ lo))) := by
  cases lo with
  | nil =>
    cases o with
    | none => exact s_onil
    | some e => have := h.nil rfl; cases this
  | cons a as =>
    obtain ⟨e, es', z, q, _⟩ := h.cns a as rfl
    cases o with
    | none => cases z
    | some e' => cases z; exact s_osome q.d
theorem ops_ne (ng : Bool) (c : Option Bool) (K : PySem.W.Frag) {pc : Expr} (m : decide (asConst pc = some (coC c)) = true) : PE X pc (tC (cV c)) := by
  obtain ⟨k, p, rfl⟩ := const_ok m
  cases c with
  | none => exact pe_non
  | some b => exact pe_bl
theorem es_cons {a : E} {as : Es} {e : Expr} {es : List Expr} (h1 : EOk cx Φ X a e) (h2 : EsOk cx Φ X as es) (hn : notStar e = true) : EsOk cx Φ X (.cons a as) (e :: es) := by
  have hne : as = .nil ↔ es = [] := ⟨h2.nil, fun z => by
    cases as with
    | nil => rfl
    | cons b bs =>
      obtain ⟨e', es', z', _⟩ := h2.cns b bs rfl
      rw [z] at z'; cases z'⟩
  have key : ∀ an pos, PE X (.BoolOp (boP an) (e :: es) pos) (rE X.K (lB an (evL cx Φ (.cons a as)))) ∧ PW X (.BoolOp (boP an) (e :: es) pos) (rT X.K (lBT an (evL cx Φ (.cons a as)))) := by
    intro an pos
    cases as with
    | nil =>
      have : es = [] := hne.mp rfl
      subst this
      refine ⟨pe_one h1.r, ?_⟩
      cases an with
      | true => exact pw_and1 h1.t
      | false => exact pw_or1 h1.t
    | cons b bs =>
      obtain ⟨e', es', rfl, h3, _⟩ := h2.cns b bs rfl
      obtain ⟨k1, k2⟩ := h2.bo an pos (by simp)
      cases an with
      | true => exact ⟨s_and h1.d k1, t_and h1.t k2⟩
      | false => exact ⟨s_or h1.d k1, t_or h1.t k2⟩
  refine ⟨s_acons h1.d h2.a hn, ?_, r_cons h1.r h2.r hn, by rw [List.all_cons, hn, h2.ns]; rfl, (fun z => nomatch z), fun a' as' z => ?_, fun an pos _ => key an pos, fun keys ks pos mk hl => ?_, fun hl => ?_⟩
  · cases as with
    | nil =>
      have : es = [] := hne.mp rfl
      subst this
      exact s_pone h1.p hn
    | cons b bs => exact s_pcons h1.d h2.p hn
  · cases z
    exact ⟨e, es, rfl, h1, h2.a, hne⟩
  · cases keys with
    | nil => cases hl
    | cons k keys =>
      cases ks with
      | nil => cases k <;> cases mk
      | cons x ks =>
        cases k with
        | none => cases mk
        | some k =>
          unfold mKeys at mk
          rw [Bool.and_eq_true] at mk
          obtain ⟨j, p, rfl⟩ := const_ok mk.1
          exact d_cons h1.d (h2.d keys ks pos mk.2 (by simpa using hl))
  · have : es = [] := by
      cases es with
      | nil => rfl
      | cons _ _ => simp at hl
    subst this
    exact pts_one h1.t
theorem d_none : ∀ (keys : List (Option Expr)) (ks : List Str) (pos : Pos), mKeys keys ks = true → keys.length = ([] : List Expr).length → DctOk X pos keys [] ks (lS (evL cx Φ .nil))
  | [], [], _, _, _ => d_nil
  | [], _ :: _, _, mk, _ => nomatch mk
  | _ :: _, _, _, _, hl => nomatch hl
theorem es_nil : EsOk cx Φ X .nil [] := ⟨s_anil, s_pnil, r_nil, rfl, fun _ => rfl, (fun _ _ z => nomatch z), fun _ _ z => absurd rfl z, d_none, fun _ => c_none⟩
end
end Rf

set_option Elab.async false
set_option linter.all false
set_option maxRecDepth 100000
set_option maxHeartbeats 8000000
namespace Rf
open PySem PySem.Spec PyProof.Rows L2
variable [Tb]
local instance noWiW : Wi := ⟨noE⟩
section
variable {Φ : Phi} {X : Cx} {C : CC} {x : Str} {e a b c : E} {as : Es} {pe pa pb pc : Expr} {es : List Expr}
theorem v_of {i : Nat} (h : EOk C.cx Φ X a pa) (hi : a.slot = some i) : PE X pa (tVar i) := h.v i hi
theorem slot_var {i : Nat} (h : a.slot = some i) : a = .var i := by cases a <;> cases h; rfl
theorem k_cmp (h : XC Φ X C) {op : COp} {p : Pos} (ha : EOk C.cx Φ X a pa) (hb : EOk C.cx Φ X b pb) (hn : notSet pb = true) : EOk C.cx Φ X (.cmp op a b) (.Compare pa [op.py] [pb] p) := by
  have key : ∀ {s : Bool}, PE X (.Compare pa [op.py] [pb] p) (rE X.K (mCmpE op a s (ev C.cx Φ a).v (pk C.cx Φ b))) ∧ PT X (.Compare pa [op.py] [pb] p) (rT X.K ((mCmpE op a s (ev C.cx Φ a).v (pk C.cx Φ b)).v.bind fun x => EM.opt (truD x))) := by
    intro s
    cases s with
    | false =>
      have e : mCmpE op a false (ev C.cx Φ a).v (pk C.cx Φ b) = mCmp op (ev C.cx Φ a).v (pk C.cx Φ b) := by cases a <;> rfl
      rw [e]
      exact ⟨s_cmp h.un ha.d hb.p hn, t_cmp h.un ha.d hb.p hn⟩
    | true =>
      cases hs : a.slot with
      | none =>
        have e : mCmpE op a true (ev C.cx Φ a).v (pk C.cx Φ b) = mCmp op (ev C.cx Φ a).v (pk C.cx Φ b) := by cases a <;> first | rfl | cases hs
        rw [e]
        exact ⟨s_cmp h.un ha.d hb.p hn, t_cmp h.un ha.d hb.p hn⟩
      | some i =>
        have v := ha.v i hs
        cases slot_var hs
        exact ⟨s_cmpV h.un v hb.p hn, t_cmpV h.un v hb.p hn⟩
  exact .ofC key.1 rfl rfl key.2
theorem k_ix (h : XC Φ X C) {p : Pos} (ha : EOk C.cx Φ X a pa) (hb : EOk C.cx Φ X b pb) (hn : notSlice pb = true) : EOk C.cx Φ X (.ix a b) (.Subscript pa pb p) := by
  have hu : X.A.units + 1 < cLine := by have := h.un; omega
  have key : PE X (.Subscript pa pb p) (rE X.K (mIx a (ev C.cx Φ a).v (ev C.cx Φ b).v)) := by
    cases hs : a.slot with
    | none =>
      have e : mIx a (ev C.cx Φ a).v (ev C.cx Φ b).v = (ev C.cx Φ a).v.bind fun x => (ev C.cx Φ b).v.bind fun y => EM.opt ((ixD x y).map .d) := by cases a <;> first | rfl | cases hs
      rw [e]
      exact s_ix hu ha.d hb.d hn
    | some i =>
      have v := ha.v i hs
      cases slot_var hs
      exact s_ixV hu v hb.d hn
  exact .of key rfl rfl rfl
theorem k_call (h : XC Φ X C) {f : Str} {p q : Pos} (hg : C.gl f = true) (hn : nmB f = true) (hf : C.fns.contains f = true) (hs : EsOk C.cx Φ X as es) : EOk C.cx Φ X (.call f as) (.Call (.Name f p) es [] q) := by
  obtain ⟨fd, ps, m, k, F, R, hm, hk, hb⟩ := h.fns f (List.contains_iff_mem.mp hf)
  have R := R.mono (show k ≤ k + 1 + C.rm by omega)
  have g := h.gl hg
  obtain ⟨n1, _, _⟩ := nm_ok hn
  refine .of ?_ rfl rfl rfl
  cases as with
  | nil =>
    have : es = [] := hs.nil rfl
    subst this
    exact s_call0 F R h.gu g hm hk hb n1
  | cons a as' =>
    obtain ⟨e, es', rfl, h1, h2, _⟩ := hs.cns a as' rfl
    have c1 : PE X (.Call (.Name f p) (e :: es') [] q) (rE X.K (mCall Φ f (lS (evL C.cx Φ (.cons a as'))))) := s_call F R h.gu g hm hk hb hs.a n1 hs.ns
    show PE X _ (rE X.K (mCallE Φ f ((a, ev2 C.cx Φ a) :: evL C.cx Φ as')))
    cases hsl : a.slot with
    | none =>
      have e : mCallE Φ f ((a, ev2 C.cx Φ a) :: evL C.cx Φ as') = mCall Φ f (lS (evL C.cx Φ (.cons a as'))) := by
        show (match a.slot with
          | some i => _
          | none => _) = _
        rw [hsl]; rfl
      rw [e]; exact c1
    | some i =>
      have e : mCallE Φ f ((a, ev2 C.cx Φ a) :: evL C.cx Φ as') = mBor Φ f i (lS (evL C.cx Φ as')) (mCall Φ f (lS (evL C.cx Φ (.cons a as')))) := by
        show (match a.slot with
          | some i => _
          | none => _) = _
        rw [hsl]; rfl
      rw [e]
      exact s_bor F R h.gu g hm hk hb (h1.v i hsl) h2 n1 hs.ns c1
theorem k_make (h : XC Φ X C) {f : Str} {p q : Pos} (hg : C.gl f = true) (hn : nmB f = true) (hf : C.mks.contains f = true) (hs : EsOk C.cx Φ X as es) (hne : es ≠ []) : EOk C.cx Φ X (.make f as) (.Call (.Name f p) es [] q) := by
  obtain ⟨hc, fd, ps, m, k, F, R, hb⟩ := h.mks f (List.contains_iff_mem.mp hf)
  have R := R.mono (show k + 1 ≤ k + 1 + C.rm by omega)
  have g := h.gl hg
  obtain ⟨n1, _, _⟩ := nm_ok hn
  refine .of ?_ rfl rfl rfl
  cases es with
  | nil => exact absurd rfl hne
  | cons e es' => exact s_make (h.own.mkr f hc) F R h.gu g (h.own.glo f hc) hb hs.a n1 hs.ns
theorem bo_ne {an : Bool} {p : Pos} (hs : EsOk C.cx Φ X as es) (hne : es ≠ []) : EOk C.cx Φ X (.bop an as) (.BoolOp (boP an) es p) :=
  .ofT (hs.bo an p hne).1 rfl (hs.bo an p hne).2.pt
theorem ne_of {α : Type} {l : List α} (h : (!l.isEmpty) = true) : l ≠ [] := fun z => by subst z; cases h
theorem k_lr (h : XC Φ X C) {p1 p2 p3 p4 : Pos} (hg : C.gl "list" = true) (hg2 : C.gl "range" = true) (hs : EsOk C.cx Φ X as [pa]) : EOk C.cx Φ X (.blt .lrange as) (.Call (.Name "list" p1) [.Call (.Name "range" p2) [pa] [] p3] [] p4) := by
  refine .of ?_ rfl rfl rfl
  cases as with
  | nil => have := hs.nil rfl; cases this
  | cons a as' =>
    obtain ⟨e, es', z, h1, h2, h3⟩ := hs.cns a as' rfl
    cases z
    have : as' = .nil := h3.mpr rfl
    subst this
    have hn : notStar pa = true := by have := hs.ns; simpa using this
    exact s_lrange h.calm (h.gl hg) (h.free _ (by decide)) (h.gl hg2) (h.free _ (by decide)) h1.p hn
theorem k_ss (h : XC Φ X C) {p1 p2 p3 p4 : Pos} (hg : C.gl "sorted" = true) (hg2 : C.gl "set" = true) (hs : EsOk C.cx Φ X as [pa]) : EOk C.cx Φ X (.blt .sset as) (.Call (.Name "sorted" p1) [.Call (.Name "set" p2) [pa] [] p3] [] p4) := by
  refine .of ?_ rfl rfl rfl
  cases as with
  | nil => have := hs.nil rfl; cases this
  | cons a as' =>
    obtain ⟨e, es', z, h1, h2, h3⟩ := hs.cns a as' rfl
    cases z
    have : as' = .nil := h3.mpr rfl
    subst this
    have hn : notStar pa = true := by have := hs.ns; simpa using this
    exact s_sset h.calm (h.gl hg) (h.free _ (by decide)) (h.gl hg2) (h.free _ (by decide)) h1.p hn
theorem k_ls (h : XC Φ X C) {p1 p2 p3 p4 : Pos} (hg : C.gl "len" = true) (hg2 : C.gl "set" = true) (hs : EsOk C.cx Φ X as [pa]) : EOk C.cx Φ X (.blt .lset as) (.Call (.Name "len" p1) [.Call (.Name "set" p2) [pa] [] p3] [] p4) := by
  refine .of ?_ rfl rfl rfl
  cases as with
  | nil => have := hs.nil rfl; cases this
  | cons a as' =>
    obtain ⟨e, es', z, h1, h2, h3⟩ := hs.cns a as' rfl
    cases z
    have : as' = .nil := h3.mpr rfl
    subst this
    have hn : notStar pa = true := by have := hs.ns; simpa using this
    exact s_lset h.calm (h.gl hg) (h.free _ (by decide)) (h.gl hg2) (h.free _ (by decide)) h1.p hn
theorem k_bl (h : XC Φ X C) {f : Bl} (hf : f ≠ .sset) (hf2 : f ≠ .lrange) (hf3 : f ≠ .lset) (hgc : f = .gcd → C.gcd = true) {p q : Pos} (g : C.gl (blN f) = true) (hs : EsOk C.cx Φ X as es) (hne : es ≠ []) : EOk C.cx Φ X (.blt f as) (.Call (.Name (blN f) p) es [] q) := by
  refine .of ?_ rfl rfl rfl
  cases es with
  | nil => exact absurd rfl hne
  | cons e es' => exact bl_ok h hf hf2 hf3 hgc g hs.p hs.ns
theorem k_isi1 (h : XC Φ X C) {t : Ty} {o : Bool} {p q : Pos} (hg : C.gl "isinstance" = true) (ha : EOk C.cx Φ X a pa) (h1 : notStar pa = true) (h2 : notStar pb = true) (ht : tyB C t pb = true) : EOk C.cx Φ X (.isi a o [t]) (.Call (.Name "isinstance" p) [pa, pb] [] q) :=
  .of (s_isi1 h.own (h.gl hg) (h.free _ (by decide)) ha.p (ty_ok h ht) h1 h2) rfl rfl rfl
theorem k_isiT (h : XC Φ X C) {ts : List Ty} {o : Bool} {k : Nat} {p q r : Pos} (hg : C.gl "isinstance" = true) (ha : EOk C.cx Φ X a pa) (h1 : notStar pa = true) (ht : tysB C ts es = true) (hne : ts ≠ []) (hl : ts.length ≤ 20) : EOk C.cx Φ X (.isi a o ts) (.Call (.Name "isinstance" p) [pa, .Tuple es k r] [] q) :=
  .of (s_isiT h.own (h.gl hg) (h.free _ (by decide)) ha.p (tys_ok h ht) h1 hne hl) rfl rfl rfl
theorem k_index (h : XC Φ X C) {m : Me} {i : Nat} {p q : Pos} (hi : PE X pa (tVar i)) (hs : EsOk C.cx Φ X as es) (hne : es ≠ []) (hl : es.length ≤ 20) (hsup : notSuper pa = true) (hline : (p.endLine == q.line) = true) : EOk C.cx Φ X (.meth m (.var i) as) (.Call (.Attribute pa "index" p) es [] q) := by
  refine .of ?_ rfl rfl rfl
  cases m
  cases es with
  | nil => exact absurd rfl hne
  | cons e es' => exact s_indexV h.un hi hs.a hs.ns (by rw [List.length_cons] at hl; omega) hsup hline
theorem ty_desc {s : String} (h : typeOf (.builtin s) = pure (.type "method_descriptor")) : typeOf (.builtin s) = pure (.type "method_descriptor") := h
theorem k_mut (h : XC Φ X C) {m : Mn} {i : Nat} {p q : Pos} (hi : PE X pa (tVar i)) (hs : EsOk C.cx Φ X as es) (hne : es ≠ [] ∨ m = .pop) (hl : es.length ≤ 20) (hsup : notSuper pa = true) (hline : (p.endLine == q.line) = true) : EOk C.cx Φ X (.mut m i as) (.Call (.Attribute pa (mnN m) p) es [] q) := by
  refine .of ?_ rfl rfl rfl
  have t1 : typeOf (.builtin "list.append") = pure (.type "method_descriptor") := by show builtinType _ = _; rw [builtinType_eq_fast]; kernel_rfl
  have t2 : typeOf (.builtin "list.extend") = pure (.type "method_descriptor") := by show builtinType _ = _; rw [builtinType_eq_fast]; kernel_rfl
  have t3 : typeOf (.builtin "list.pop") = pure (.type "method_descriptor") := by show builtinType _ = _; rw [builtinType_eq_fast]; kernel_rfl
  cases es with
  | nil =>
    have : as = .nil := by
      cases as with
      | nil => rfl
      | cons b bs => obtain ⟨e, es', z, _⟩ := hs.cns b bs rfl; cases z
    subst this
    rcases hne with z | rfl
    · exact absurd rfl z
    · exact s_mut0 PySem.F.slot_list_pop t3 mn_pop hi hsup hline
  | cons e es' =>
    cases m with
    | append => exact s_mut PySem.F.slot_list_append t1 mn_append hi hs.a hs.ns (by rw [List.length_cons] at hl; omega) hsup hline
    | extend => exact s_mut PySem.F.slot_list_extend t2 mn_extend hi hs.a hs.ns (by rw [List.length_cons] at hl; omega) hsup hline
    | pop => exact s_mut PySem.F.slot_list_pop t3 mn_pop hi hs.a hs.ns (by rw [List.length_cons] at hl; omega) hsup hline
end
end Rf

set_option Elab.async false
set_option linter.all false
set_option maxRecDepth 100000
set_option maxHeartbeats 400000
namespace Rf
open PySem PySem.Spec PyProof.Rows L2
variable [Tb]
local instance noWiWf : Wi := ⟨noE⟩
theorem FnK.up {P : Program} {w : World} {K : PySem.W.Frag} {mg : Str → Option Value} {base : Heap} {j k : Nat} {f : Addr} {fd : FuncData} {e : Str} {c : Xc} {res : List D} (o : FnK P w K mg base j f fd e c res) (h : j ≤ k) : FnK P w K mg base k f fd e c res :=
  ⟨fun A outer s H F args p dx vs Q room => o.run A outer s H F args p dx vs Q (room.mono h)⟩
theorem Tells.up {P : Program} {w : World} {K : PySem.W.Frag} {mg : Str → Option Value} {base : Heap} {j k : Nat} {kA SE : Addr} {fdk : FuncData} {e : Str} {c : Xc} {t : D} (o : Tells P w K mg base j kA SE fdk e c t) (h : j ≤ k) : Tells P w K mg base k kA SE fdk e c t :=
  ⟨o.fn.up h, o.cls, o.ve2, o.exm⟩
section
variable {Φ : Phi} {X : Cx} {C : CC}
/-- the lambda's body stands in the same place -/
theorem XC.lam (h : XC Φ X C) (hrm : C.rm = 2) {scope : Scope} (L : LamX.LamS X.env.scope scope) {env : Env} {outer : List Env} {t : Shared} {H1 : Hp} {E : XK} {f' c' : Addr} (r4 : Room 4 X.A) :
    XC Φ (lamC X (X.A.deeper env) outer t H1 E scope f' c') (C.lam scope) where
  N := h.N
  nd := h.nd
  sc := by show scope = scope; rfl
  kind := L.kind
  fn := fun _ => rfl
  calm := rfl
  xe := lam_passes (X := X) (A := X.A.deeper env) (outer := outer) (s := t) (H := H1) (E := E) (scope := scope) (f := f') (c' := c')
  own := h.own
  un := by have q := r4.un; show X.A.units + 3 + 3 + 65 < cLine; omega
  gu := h.gu
  sys := h.sys
  free := h.free
  gcd := h.gcd
  num := h.num
  fns := fun f hf => by
    obtain ⟨fd, ps, m, k, F, R, hm, hk, hb⟩ := h.fns f hf
    rw [hrm] at R
    exact ⟨fd, ps, m, k, F, (R.deeper _).deeper _, hm, hk, hb⟩
  mks := fun c hc => by
    obtain ⟨hc2, fd, ps, m, k, F, R, hb⟩ := h.mks c hc
    rw [hrm] at R
    exact ⟨hc2, fd, ps, m, k, F, (R.deeper _).deeper _, hb⟩
  ft := fun z => nomatch z
  exs := fun c hc => nomatch hc
theorem k_fault (h : XC Φ X C) (hft : C.ft = true) (hrm : C.rm = 2) {f : Str} {as : Es} {es : List Expr} {scope : Scope} {p q1 q2 lpos pos : Pos} (hg : C.gl "_law_fault" = true) (hl : LamX.lamSB C.sc scope = true) (hf : f ∈ C.fns) (gf : (C.lam scope).gl f = true) (nf : nmB f = true) (hs : ∀ Y, XC Φ Y (C.lam scope) → EsOk C.cx Φ Y as es) :
    PE X (.Call (.Name "_law_fault" p) [.Lambda ⟨[], [], none, [], [], none, []⟩ (.Call (.Name f q1) es [] q2) scope lpos] [] pos) (rE X.K (mFault C.cx Φ f (lS (evL C.cx Φ as)))) := by
  obtain ⟨fd, ps, m, k, F, R, hm, hk, hb⟩ := h.fns f hf
  rw [hrm] at R
  obtain ⟨⟨gA, kA, SE, fdg, fdk, pg, bg, sg, x, mg, told⟩, r4, c, P, TB, code, inT, one⟩ := h.ft hft
  have L : LamX.LamS X.env.scope scope := LamX.lamS_by (by rw [h.sc]; exact hl)
  refine s_fault (n := m) (k := 2) x (h.gl hg) mg (by decide) h.gu r4 told TB code inT one L (by rfl) (fun _ _ _ _ _ => rfl) (fun f' c' E A outer t H1 hA => ?_)
  obtain ⟨env, rfl⟩ := hA
  letI : Wi := ⟨E⟩
  have hx := XC.lam h hrm L (env := env) (outer := outer) (t := t) (H1 := H1) (E := E) (f' := f') (c' := c') r4
  have q := hs _ hx
  have room : Room k (lamC X (X.A.deeper env) outer t H1 E scope f' c').A := ((R.deeper env).deeper _).mono (Nat.le_succ k)
  obtain ⟨n1, _, _⟩ := nm_ok nf
  cases es with
  | nil =>
    have ha := q.a
    have has : as = .nil := by
      cases as with
      | nil => rfl
      | cons b bs => obtain ⟨e', es', z, _⟩ := q.cns b bs rfl; cases z
    subst has
    refine PE.weak (pe_callG0 (X := lamC X (X.A.deeper env) outer t H1 E scope f' c') (E := E) F room h.gu (hx.gl gf) hm hk hb (passE (lam_takes (X := X) (A := X.A.deeper env) (outer := outer) (s := t) (H := H1) (E := E) (scope := scope) (f := f') (c' := c'))) n1) fun σ H Q z => ?_
    obtain ⟨F1, Γ, r, Γ', A1, e1, z⟩ := z
    obtain ⟨rfl, rfl⟩ := ret_ok (show EM.ret [] Γ = .ok r Γ' from e1)
    exact z [] F1 H (Step.refl ..) A1 (ES.refl _) .nil
  | cons e0 es =>
    have hn := q.ns
    rw [List.all_cons, Bool.and_eq_true] at hn
    exact pe_callG (X := lamC X (X.A.deeper env) outer t H1 E scope f' c') (E := E) F room h.gu (hx.gl gf) hm hk hb (passE (lam_takes (X := X) (A := X.A.deeper env) (outer := outer) (s := t) (H := H1) (E := E) (scope := scope) (f := f') (c' := c'))) q.a n1 (star_cons hn.1) (star_plain hn.2)
/-- a call of a name that holds a def -/
theorem pe_callV {Y : Cx} {E : XK} {k i : Nat} {fA : Addr} {fd : FuncData} {ps : List Str} {sp : Sp} {x : Str} {p q : Pos} {a : Expr} {rest : List Expr} {ta : TA} (o : FnG Y.prog Y.w Y.K Y.mg Y.base k fA fd ps sp) (room : Room k Y.A) (g : Y.A.guards = some []) (kp : PySem.W.keepIn Y.K (.ref fA) = true) (b : Binds Y.K fd ps [])
    (pass : ∀ σ, PassesAt (L2N.CX Y.prog Y.w) Y σ E) (ha : PA Y (a :: rest) ta) (hN : Y.N[i]? = some x) (hv : Vis Y.env.scope x) (n1 : (x == ("__debug__" : Str)) = false) (n2 : (x == ("__classdict__" : Str)) = false) (st : starEach (a :: rest) Y.env = (false, eval a Y.env) :: starEach rest Y.env) (pl : (backTo q (starEach rest Y.env)).any (·.1) = false) :
    PE Y (.Call (.Name x p) (a :: rest) [] q) (fun σ H Q => σ[i]? = some (some (.ref fA)) ∧ tG sp E ta σ H Q) := by
  refine ⟨fun pins s σ H Q I ⟨slot, h⟩ => wpAny_Call_Name_kw (thn ((pe_var (pos := p) hN hv n1 n2).run pins s σ H (fun v H1 => v = .ref fA ∧ H1 = H) I ⟨.ref fA, slot, rfl, rfl⟩) fun u t1 hh => ?_)⟩
  obtain ⟨v, H1, J, rv, ev, eH⟩ := hh
  subst eH
  subst ev
  cases (show u = Value.ref fA from rv)
  exact PySem.W.callWith_K (h₀ := Y.base) J.ok.mod.kin kp (thn (ha.run q pins t1 σ H1 _ J h) fun _ _ hh => by
    obtain ⟨_, _, J2, r, z⟩ := hh
    exact ⟨J2.kIn, run_fnG o room g b (pass σ) J2 r z⟩) st pl
/-- the arguments, once the name holds f -/
def gdV (i : Nat) (f : Str) (ms : EM (List D)) : EM (List D) := (pkV i).bind fun x => match x with
  | .fn g => if g = f then ms else fun _ => .no
  | _ => fun _ => .no
theorem gdV_ok {i : Nat} {f : Str} {ms : EM (List D)} {Γ Γ' : En} {ds : List D} (h : gdV i f ms Γ = .ok ds Γ') : pkV i Γ = .ok (.fn f) Γ ∧ ms Γ = .ok ds Γ' := by
  obtain ⟨x, Γ0, e0, e⟩ := bind_ok h
  have e1 : Γ0 = Γ := by
    unfold pkV at e0
    split at e0 <;> first | (cases e0; rfl) | cases e0
  subst e1
  cases x with
  | fn g =>
    have e : (if g = f then ms else fun _ => .no) Γ0 = .ok ds Γ' := e
    by_cases hg : g = f
    · subst hg
      exact ⟨e0, (congrFun (if_pos (α := EM (List D)) (t := ms) (e := fun _ => Out.no) (rfl : g = g)) Γ0).symm.trans e⟩
    · cases (congrFun (if_neg (α := EM (List D)) (t := ms) (e := fun _ => Out.no) hg) Γ0).symm.trans e
  | _ => cases e
theorem k_faultV (h : XC Φ X C) (hft : C.ft = true) (hrm : C.rm = 2) {y : Str} {i : Nat} {as : Es} {es : List Expr} {scope : Scope} {p q1 q2 lpos pos : Pos} (hg : C.gl "_law_fault" = true) (hl : LamX.lamSB C.sc scope = true) (hy : mVar (C.lam scope) i (.Name y q1) = true) (hfn : ∀ f ∈ C.cx.fnl, f ∈ C.fns) (ne : es ≠ []) (hs : ∀ Y, XC Φ Y (C.lam scope) → EsOk C.cx Φ Y as es) :
    PE X (.Call (.Name "_law_fault" p) [.Lambda ⟨[], [], none, [], [], none, []⟩ (.Call (.Name y q1) es [] q2) scope lpos] [] pos) (rE X.K (mFaultV C.cx Φ i (lS (evL C.cx Φ as)))) := by
  obtain ⟨⟨gA, kA, SE, fdg, fdk, pg, bg, sg, x, mg, told⟩, r4, c, P, TB, code, inT, one⟩ := h.ft hft
  have L : LamX.LamS X.env.scope scope := LamX.lamS_by (by rw [h.sc]; exact hl)
  have main : ∀ f ∈ C.fns, PE X (.Call (.Name "_law_fault" p) [.Lambda ⟨[], [], none, [], [], none, []⟩ (.Call (.Name y q1) es [] q2) scope lpos] [] pos) (rE X.K (mFault C.cx Φ f (gdV i f (lS (evL C.cx Φ as))))) := fun f hf => by
    obtain ⟨fd, ps, m, k, F, R, hm, hk, hb⟩ := h.fns f hf
    rw [hrm] at R
    refine s_fault (n := m) (k := 2) x (h.gl hg) mg (by decide) h.gu r4 told TB code inT one L (by rfl) (fun _ _ _ _ _ => rfl) (fun f' c' E A outer t H1 hA => ?_)
    obtain ⟨env, rfl⟩ := hA
    letI : Wi := ⟨E⟩
    have hx := XC.lam h hrm L (env := env) (outer := outer) (t := t) (H1 := H1) (E := E) (f' := f') (c' := c') r4
    have q := hs _ hx
    have room : Room k (lamC X (X.A.deeper env) outer t H1 E scope f' c').A := ((R.deeper env).deeper _).mono (Nat.le_succ k)
    unfold mVar at hy
    rw [show asName (.Name y q1) = some y from rfl] at hy
    simp only [Bool.and_eq_true, decide_eq_true_eq] at hy
    obtain ⟨⟨hN, hv⟩, hn⟩ := hy
    obtain ⟨n1, n2, _⟩ := nm_ok hn
    cases es with
    | nil => exact absurd rfl ne
    | cons e0 es =>
      have hns := q.ns
      rw [List.all_cons, Bool.and_eq_true] at hns
      refine PE.weak (pe_callV (Y := lamC X (X.A.deeper env) outer t H1 E scope f' c') (E := E) (i := i) F room h.gu hk hb (passE (lam_takes (X := X) (A := X.A.deeper env) (outer := outer) (s := t) (H := H1) (E := E) (scope := scope) (f := f') (c' := c'))) q.a (by show X.N[i]? = _; rw [h.N]; exact hN) (hx.vis hv) n1 n2 (star_cons hns.1) (star_plain hns.2)) fun σ H Q z => ?_
      obtain ⟨F1, Γ, r, Γ', A1, e1, z⟩ := z
      obtain ⟨e2, e3⟩ := gdV_ok e1
      obtain ⟨_, w, hw, pr⟩ := A1.pk e2
      rcases pr with pr | ⟨_, m', _, pr, _⟩
      · cases pr
        exact ⟨hw, F1, Γ, r, Γ', A1, e3, z⟩
      · cases m' <;> cases pr
  refine ⟨fun pins s σ H Q I z => ?_⟩
  obtain ⟨F1, Γ, r, Γ', A1, e1, z⟩ := z
  obtain ⟨d, Γ0, e2, e3⟩ := bind_ok e1
  obtain ⟨e4, _⟩ := A1.pk e2
  subst e4
  cases d with
  | fn f =>
    have e3 : (if C.cx.fnl.contains f then mFault C.cx Φ f (lS (evL C.cx Φ as)) else fun _ => .no) Γ0 = .ok r Γ' := e3
    by_cases hc : C.cx.fnl.contains f = true
    · have e3 := (congrFun (if_pos (α := EM R) (t := mFault C.cx Φ f (lS (evL C.cx Φ as))) (e := fun _ => Out.no) hc) Γ0).symm.trans e3
      refine (main f (hfn f (List.contains_iff_mem.mp hc))).run pins s σ H Q I ⟨F1, Γ0, r, Γ', A1, ?_, z⟩
      obtain ⟨ds, Γ1, e5, e6⟩ := bind_ok e3
      refine (bind_at (y := ds) (Γ' := Γ1) ?_).trans e6
      refine (bind_at e2).trans ?_
      exact (congrFun (if_pos (α := EM (List D)) (t := lS (evL C.cx Φ as)) (e := fun _ => Out.no) (rfl : f = f)) Γ0).trans e5
    · cases (congrFun (if_neg (α := EM R) (t := mFault C.cx Φ f (lS (evL C.cx Φ as))) (e := fun _ => Out.no) hc) Γ0).symm.trans e3
  | _ => cases e3
end
end Rf

set_option Elab.async false
set_option linter.all false
set_option maxRecDepth 100000
set_option maxHeartbeats 16000000
namespace Rf
open PySem PySem.Spec PyProof.Rows L2
variable [Tb]
local instance noWiX : Wi := ⟨noE⟩
section
variable {Φ : Phi}
theorem const_val {X : Cx} {cx : CtxR} {e : E} {pe : Expr} {v : V} {d : D} (he : (ev2 cx Φ e) = mkR (EM.ret (.d d))) (hp : PE X pe (tC v)) (hr : ∀ F, Rep X.K F v d) (hpl : plainT pe = true) (hs : e.slot = none) (ht : e.tst = false) : EOk cx Φ X e pe :=
  .of (by show PE X pe (rE X.K (ev2 cx Φ e).r); rw [he]; exact s_const hp hr) hs ht hpl
theorem s_two {X : Cx} {pa pb : Expr} {ma mb : EM D} (ha : PE X pa (rD X.K ma)) (hb : PE X pb (rD X.K mb)) (h1 : notStar pa = true) (h2 : notStar pb = true) : PA X [pa, pb] (rA X.K (ma.bind fun x => mb.bind fun y => EM.ret [x, y])) := by
  have e : (ma.bind fun x => mb.bind fun y => EM.ret [x, y]) = ma.bind fun x => (mb.bind fun x => (EM.ret []).bind fun xs => EM.ret (x :: xs)).bind fun xs => EM.ret (x :: xs) := by
    funext Γ
    unfold EM.bind
    cases ma Γ with
    | no => rfl
    | ok x Γ1 => dsimp only; cases mb Γ1 <;> rfl
  rw [e]
  exact s_acons ha (s_acons hb s_anil h2) h1
theorem keys_some : ∀ {keys : List (Option Expr)} {ks : List Str}, mKeys keys ks = true → keys.all (·.isSome) = true
  | [], [], _ => rfl
  | some e :: es, k :: ks, m => by
    unfold mKeys at m
    rw [Bool.and_eq_true] at m
    rw [List.all_cons, keys_some m.2]; rfl
  | none :: _, _, m => by unfold mKeys at m; cases m
  | some _ :: _, [], m => by unfold mKeys at m; cases m
  | [], _ :: _, m => by unfold mKeys at m; cases m
theorem isT_eq {tg : Expr} (f : (isT tg || false) = true) : ∃ es k p, tg = .Tuple es k p := by
  rw [Bool.or_false] at f
  unfold isT at f
  obtain ⟨es, h⟩ := Option.isSome_iff_exists.mp f
  obtain ⟨k, p, rfl⟩ := asTup_eq h
  exact ⟨es, k, p, rfl⟩
mutual
theorem e_ok : ∀ (e : E) (X : Cx) (C : CC) (pe : Expr), XC Φ X C → mE C e pe = true → EOk C.cx Φ X e pe
  | .var i, X, C, pe, h, m => var_ok h (by unfold mE at m; exact m)
  | .non, X, C, pe, h, m => by
    obtain ⟨k, p, rfl⟩ := const_ok (by unfold mE at m; exact m)
    exact const_val rfl pe_non (fun _ => .non) rfl rfl rfl
  | .bl b, X, C, pe, h, m => by
    obtain ⟨k, p, rfl⟩ := const_ok (by unfold mE at m; exact m)
    exact const_val rfl pe_bl (fun _ => .bl b) rfl rfl rfl
  | .int i, X, C, pe, h, m => by
    obtain ⟨k, p, rfl⟩ := const_ok (by unfold mE at m; exact m)
    exact const_val rfl pe_int (fun _ => .int i) rfl rfl rfl
  | .str x, X, C, pe, h, m => by
    obtain ⟨k, p, rfl⟩ := const_ok (by unfold mE at m; exact m)
    exact const_val rfl pe_str (fun _ => .str x) rfl rfl rfl
  | .gint x, X, C, pe, h, m => by
    unfold mE at m
    simp only [Bool.and_eq_true, decide_eq_true_eq] at m
    obtain ⟨⟨⟨m1, m2⟩, m3⟩, m4⟩ := m
    obtain ⟨p, rfl⟩ := asName_eq m1
    obtain ⟨i, hi⟩ := Option.isSome_iff_exists.mp m4
    obtain ⟨t, ht⟩ := h.num x i hi
    refine .of ?_ rfl rfl rfl
    show PE X _ (rE X.K (EM.opt ((C.cx.nums.lookup x).map fun i => .d (.int i))))
    rw [hi]
    exact s_const (v := .int i) (pe_glob (h.gl m2) ht ⟨t, rfl⟩ (nm_ok m3).1) fun _ => .int i
  | .fnv x, X, C, pe, h, m => by
    unfold mE at m
    simp only [Bool.and_eq_true, decide_eq_true_eq] at m
    obtain ⟨⟨⟨m1, m2⟩, m3⟩, m4⟩ := m
    obtain ⟨p, rfl⟩ := asName_eq m1
    obtain ⟨fd, ps, m, k, F, R, hm, hk, hb⟩ := h.fns x (List.contains_iff_mem.mp m4)
    exact const_val (v := .ref (He.ga X.K x)) rfl (pe_glob (h.gl m2) hm rfl (nm_ok m3).1) (fun _ => .fn x) rfl rfl rfl
  | .bin op a b, X, C, pe, h, m => by
    unfold mE at m
    split at m
    · rename_i pa o pb hx
      obtain ⟨p, rfl⟩ := asBin_eq hx
      simp only [Bool.and_eq_true, decide_eq_true_eq] at m
      obtain ⟨⟨rfl, m2⟩, m3⟩ := m
      exact .of (s_bin (e_ok a X C pa h m2).d (e_ok b X C pb h m3).d) rfl rfl rfl
    · cases m
  | .neg a, X, C, pe, h, m => by
    unfold mE at m
    split at m
    · rename_i o pa hx
      obtain ⟨p, rfl⟩ := asUn_eq hx
      simp only [Bool.and_eq_true, decide_eq_true_eq] at m
      obtain ⟨rfl, m2⟩ := m
      exact .of (s_neg (e_ok a X C pa h m2).d) rfl rfl rfl
    · cases m
  | .nt a, X, C, pe, h, m => by
    unfold mE at m
    split at m
    · rename_i o pa hx
      obtain ⟨p, rfl⟩ := asUn_eq hx
      simp only [Bool.and_eq_true, decide_eq_true_eq] at m
      obtain ⟨rfl, m2⟩ := m
      have q := e_ok a X C pa h m2
      exact .ofT (s_not q.p) rfl (t_not q.t)
    · cases m
  | .bop an as, X, C, pe, h, m => by
    unfold mE at m
    split at m
    · rename_i o es hx
      obtain ⟨p, rfl⟩ := asBo_eq hx
      simp only [Bool.and_eq_true, decide_eq_true_eq] at m
      obtain ⟨⟨rfl, m2⟩, m3⟩ := m
      exact bo_ne (es_ok as X C es h m2) (ne_of m3)
    · cases m
  | .cmp op a b, X, C, pe, h, m => by
    unfold mE at m
    split at m
    · rename_i pa o pb hx
      obtain ⟨p, rfl⟩ := asCmp_eq hx
      simp only [Bool.and_eq_true, decide_eq_true_eq] at m
      obtain ⟨⟨⟨rfl, m2⟩, m3⟩, m4⟩ := m
      exact k_cmp h (e_ok a X C pa h m2) (e_ok b X C pb h m3) m4
    · cases m
  | .cmp2 o1 o2 a b c, X, C, pe, h, m => by
    unfold mE at m
    split at m
    · rename_i pa q1 q2 pb pc hx
      obtain ⟨p, rfl⟩ := asCmp_eq hx
      simp only [Bool.and_eq_true, decide_eq_true_eq] at m
      obtain ⟨⟨⟨⟨⟨rfl, rfl⟩, m2⟩, m3⟩, m4⟩, m5⟩ := m
      have ha := (e_ok a X C pa h m2).d
      have hb := (e_ok b X C pb h m3).d
      have hc := (e_ok c X C pc h m4).d
      exact .ofC (s_cmp2 h.un ha hb hc m5) rfl rfl (t_cmp2 h.un ha hb hc m5)
    · cases m
  | .isc ng a c, X, C, pe, h, m => by
    unfold mE at m
    split at m
    · rename_i pa o pc hx
      obtain ⟨p, rfl⟩ := asCmp_eq hx
      rw [Bool.and_eq_true, Bool.and_eq_true] at m
      obtain ⟨⟨m1, m2⟩, m3⟩ := m
      cases of_decide_eq_true m1
      have ha := (e_ok a X C pa h m2).p
      have hc := ops_ne ng c X.K m3 (X := X)
      exact .ofC (s_is ha hc) rfl rfl (t_is ha hc)
    · cases m
  | .ite t a b, X, C, pe, h, m => by
    unfold mE at m
    split at m
    · rename_i pt pa pb hx
      obtain ⟨p, rfl⟩ := asIf_eq hx
      simp only [Bool.and_eq_true] at m
      have ht := e_ok t X C pt h m.1.1
      have ha := e_ok a X C pa h m.1.2
      have hb := e_ok b X C pb h m.2
      exact .ofT (s_ite ht.t ha.r hb.r) rfl (t_ite ht.t ha.t hb.t)
    · cases m
  | .call f as, X, C, pe, h, m => by
    unfold mE at m
    split at m
    · rename_i x es hx
      obtain ⟨p, q, rfl⟩ := asCall_eq hx
      simp only [Bool.and_eq_true, decide_eq_true_eq] at m
      obtain ⟨⟨⟨⟨rfl, m2⟩, m3⟩, m4⟩, m5⟩ := m
      exact k_call h m2 m3 m4 (es_ok as X C es h m5)
    · cases m
  | .make f as, X, C, pe, h, m => by
    unfold mE at m
    split at m
    · rename_i x es hx
      obtain ⟨p, q, rfl⟩ := asCall_eq hx
      simp only [Bool.and_eq_true, decide_eq_true_eq] at m
      obtain ⟨⟨⟨⟨⟨rfl, m2⟩, m3⟩, m4⟩, m5⟩, m6⟩ := m
      exact k_make h m2 m3 m4 (es_ok as X C es h m5) (ne_of m6)
    · cases m
  | .blt f as, X, C, pe, h, m => by
    unfold mE at m
    split at m
    case h_2 => cases m
    rename_i x es hx
    obtain ⟨p, q, rfl⟩ := asCall_eq hx
    rw [Bool.and_eq_true, Bool.and_eq_true, decide_eq_true_eq] at m
    obtain ⟨⟨rfl, m2⟩, m3⟩ := m
    split at m3
    · split at m3
      case h_2 => cases m3
      rename_i e1
      split at m3
      case h_2 => cases m3
      rename_i y e2 hy
      obtain ⟨p2, q2, rfl⟩ := asCall_eq hy
      simp only [Bool.and_eq_true, decide_eq_true_eq] at m3
      obtain ⟨⟨rfl, m4⟩, m5⟩ := m3
      exact k_ss h m2 m4 (es_ok as X C [e2] h m5)
    · split at m3
      case h_2 => cases m3
      rename_i e1
      split at m3
      case h_2 => cases m3
      rename_i y e2 hy
      obtain ⟨p2, q2, rfl⟩ := asCall_eq hy
      simp only [Bool.and_eq_true, decide_eq_true_eq] at m3
      obtain ⟨⟨rfl, m4⟩, m5⟩ := m3
      exact k_ls h m2 m4 (es_ok as X C [e2] h m5)
    · split at m3
      case h_2 => cases m3
      rename_i e1
      split at m3
      case h_2 => cases m3
      rename_i y e2 hy
      obtain ⟨p2, q2, rfl⟩ := asCall_eq hy
      simp only [Bool.and_eq_true, decide_eq_true_eq] at m3
      obtain ⟨⟨rfl, m4⟩, m5⟩ := m3
      exact k_lr h m2 m4 (es_ok as X C [e2] h m5)
    · simp only [Bool.and_eq_true] at m3
      exact k_bl (f := .gcd) h (fun z => by cases z) (fun z => by cases z) (fun z => by cases z) (fun _ => m3.1.1) m2 (es_ok as X C es h m3.1.2) (ne_of m3.2)
    · rename_i h1 h2 h3 h4
      rw [Bool.and_eq_true] at m3
      exact k_bl h h1 h3 h2 (fun z => absurd z h4) m2 (es_ok as X C es h m3.1) (ne_of m3.2)
  | .isi a one ts, X, C, pe, h, m => by
    unfold mE at m
    split at m
    case h_2 => cases m
    rename_i x pa pb hx
    obtain ⟨p, q, rfl⟩ := asCall_eq hx
    simp only [Bool.and_eq_true, decide_eq_true_eq] at m
    obtain ⟨⟨⟨⟨⟨rfl, m2⟩, m3⟩, m4⟩, m5⟩, m6⟩ := m
    have ha := e_ok a X C pa h m3
    split at m6
    · split at m6
      · exact k_isi1 h m2 ha m4 m5 m6
      · cases m6
    · split at m6
      · rename_i es hy
        obtain ⟨k, r, rfl⟩ := asTup_eq hy
        simp only [Bool.and_eq_true, decide_eq_true_eq] at m6
        exact k_isiT h m2 ha m4 m6.1.1 (ne_of m6.1.2) m6.2
      · cases m6
  | .meth mm a as, X, C, pe, h, m => by
    unfold mE at m
    split at m
    case h_2 => cases m
    rename_i o f es hx
    obtain ⟨p, q, rfl, hl⟩ := asMeth_eq hx
    rw [Bool.and_eq_true, Bool.and_eq_true, Bool.and_eq_true, Bool.and_eq_true, Bool.and_eq_true, decide_eq_true_eq, decide_eq_true_eq] at m
    obtain ⟨⟨⟨⟨⟨rfl, m2⟩, m3⟩, m4⟩, m5⟩, m6⟩ := m
    split at m2
    · rename_i i hi
      cases slot_var hi
      exact k_index h (mVar_ok h m2) (es_ok as X C es h m3) (ne_of m4) m5 m6 hl
    · cases m2
  | .mut mm i as, X, C, pe, h, m => by
    unfold mE at m
    split at m
    case h_2 => cases m
    rename_i o f es hx
    obtain ⟨p, q, rfl, hl⟩ := asMeth_eq hx
    rw [Bool.and_eq_true, Bool.and_eq_true, Bool.and_eq_true, Bool.and_eq_true, Bool.and_eq_true, decide_eq_true_eq, decide_eq_true_eq, Bool.or_eq_true] at m
    obtain ⟨⟨⟨⟨⟨rfl, m2⟩, m3⟩, m4⟩, m5⟩, m6⟩ := m
    refine k_mut h (mVar_ok h m2) (es_ok as X C es h m3) (m4.imp ne_of fun z => ?_) m5 m6 hl
    cases mm <;> first | rfl | cases z
  | .attr a f, X, C, pe, h, m => by
    unfold mE at m
    split at m
    · rename_i o g hx
      obtain ⟨p, rfl⟩ := asAttr_eq hx
      simp only [Bool.and_eq_true, decide_eq_true_eq] at m
      obtain ⟨⟨rfl, m2⟩, m3⟩ := m
      exact .of (s_attr h.own (e_ok a X C o h m2).p m3) rfl rfl rfl
    · cases m
  | .ix a b, X, C, pe, h, m => by
    unfold mE at m
    split at m
    · rename_i pa pb hx
      obtain ⟨p, rfl⟩ := asSub_eq hx
      simp only [Bool.and_eq_true] at m
      exact k_ix h (e_ok a X C pa h m.1.1) (e_ok b X C pb h m.1.2) m.2
    · cases m
  | .cut a lo hi, X, C, pe, h, m => by
    unfold mE at m
    split at m
    · rename_i pa pl ph hx
      obtain ⟨p, q, rfl⟩ := asCut_eq hx
      simp only [Bool.and_eq_true] at m
      exact .of (s_cut (e_ok a X C pa h m.1.1).d (PO_of (es_ok lo X C _ h m.1.2)) (PO_of (es_ok hi X C _ h m.2))) rfl rfl rfl
    · cases m
  | .rev a, X, C, pe, h, m => by
    unfold mE at m
    split at m
    · rename_i pa hx
      obtain ⟨k, p1, p2, p3, p4, rfl⟩ := asRev_eq hx
      exact .of (s_rev (p4 := p1) (e_ok a X C pa h m).d) rfl rfl rfl
    · cases m
  | .tup as, X, C, pe, h, m => by
    unfold mE at m
    split at m
    · rename_i es hx
      obtain ⟨k, p, rfl⟩ := asTup_eq hx
      exact .of (s_tup (es_ok as X C es h m).a) rfl rfl rfl
    · cases m
  | .lst as, X, C, pe, h, m => by
    unfold mE at m
    split at m
    · rename_i es hx
      obtain ⟨p, rfl⟩ := asLst_eq hx
      exact .of (s_lst (es_ok as X C es h m).a) rfl rfl rfl
    · cases m
  | .dct ks as, X, C, pe, h, m => by
    unfold mE at m
    split at m
    · rename_i keys vs hx
      obtain ⟨p, rfl⟩ := asDct_eq hx
      simp only [Bool.and_eq_true, decide_eq_true_eq] at m
      obtain ⟨⟨⟨m1, m2⟩, m3⟩, m5⟩ := m
      have hall : keys.all (·.isSome) = true := keys_some m1
      cases keys with
      | nil =>
        obtain rfl : vs = [] := List.length_eq_zero_iff.mp m3.symm
        cases ks with
        | cons k ks => unfold mKeys at m1; cases m1
        | nil =>
          cases as with
          | cons a as => unfold mEs at m2; cases m2
          | nil => exact .of s_dct0 rfl rfl rfl
      | cons key keys =>
        exact .of (s_dct ((es_ok as X C vs h m2).d (key :: keys) ks p m1 m3) hall m3 (by simp) m5) rfl rfl rfl
    · cases m
  | .comp e t it c own, X, C, pe, h, m => by
    unfold mE at m
    split at m
    case h_2 => cases m
    rename_i elt tg iter ifs scope hx
    obtain ⟨p, rfl⟩ := asComp_eq hx
    simp only [Bool.and_eq_true, decide_eq_true_eq] at m
    obtain ⟨⟨⟨⟨⟨⟨⟨⟨m1, m2⟩, m3⟩, m4⟩, m5⟩, m6⟩, m7⟩, m8⟩, m9⟩ := m
    have ok : BlkOk X.N X.env.scope scope own := blkOk_by (by rw [h.N, h.sc]; exact m1)
    have hT : ∀ j ∈ t.slots, j ∈ own.map (·.2) := fun j hj => List.contains_iff_mem.mp (List.all_eq_true.mp m9 j hj)
    exact .of (s_comp h.calm (by rw [h.N]; exact h.nd) (it_ok it X C iter tg h m3 m4) ok
      (fun s H Ca cl fp => (t_ok (h.blk ok s H cl Ca fp) t tg m2).1)
      (fun s H Ca cl fp => (es_ok c _ _ ifs (h.blk ok s H cl Ca fp) m6).c m5)
      (fun s H Ca cl fp => (e_ok e _ _ elt (h.blk ok s H cl Ca fp) m7).d) m8 hT hT) rfl rfl rfl
  | .fault f as, X, C, pe, h, m => by
    unfold mE at m
    split at m
    · rename_i x la hx
      obtain ⟨p, q, rfl⟩ := asCall_eq hx
      simp only [Bool.and_eq_true, decide_eq_true_eq] at m
      obtain ⟨⟨⟨⟨rfl, m2⟩, m3⟩, m4⟩, m5⟩ := m
      split at m5
      · rename_i body scope hl
        obtain ⟨p2, rfl⟩ := asLam_eq hl
        rw [Bool.and_eq_true] at m5
        obtain ⟨m6, m7⟩ := m5
        split at m7
        · rename_i y es hy
          obtain ⟨p3, p4, rfl⟩ := asCall_eq hy
          simp only [Bool.and_eq_true, decide_eq_true_eq] at m7
          obtain ⟨⟨⟨⟨rfl, n2⟩, n3⟩, n4⟩, n5⟩ := m7
          exact .of (k_fault h m3 m4 m2 m6 (List.contains_iff_mem.mp n2) n3 n4 fun Y hY => es_ok as Y (C.lam scope) es hY n5) rfl rfl rfl
        · cases m7
      · cases m5
    · cases m
  | .faultM _ _, _, _, _, _, m => by unfold mE at m; cases m
  | .faultV i as, X, C, pe, h, m => by
    unfold mE at m
    split at m
    · rename_i x la hx
      obtain ⟨p, q, rfl⟩ := asCall_eq hx
      simp only [Bool.and_eq_true, decide_eq_true_eq] at m
      obtain ⟨⟨⟨⟨rfl, m2⟩, m3⟩, m4⟩, m5⟩ := m
      split at m5
      · rename_i body scope hl
        obtain ⟨p2, rfl⟩ := asLam_eq hl
        rw [Bool.and_eq_true] at m5
        obtain ⟨m6, m7⟩ := m5
        split at m7
        · rename_i v es hy
          obtain ⟨y, p3, p4, rfl, rfl⟩ := asMethV_eq hy
          simp only [Bool.and_eq_true, Bool.not_eq_true'] at m7
          obtain ⟨⟨⟨n1, n2⟩, n3⟩, n4⟩ := m7
          exact .of (k_faultV h m3 m4 m2 m6 n1 (fun f hf => List.contains_iff_mem.mp (List.all_eq_true.mp n2 f hf)) (fun z => by rw [z] at n4; cases n4) fun Y hY => es_ok as Y (C.lam scope) es hY n3) rfl rfl rfl
        · cases m7
      · cases m5
    · cases m
  | .repr a, X, C, pe, h, m => by
    unfold mE at m
    split at m
    · rename_i x o hx
      obtain ⟨p, q, rfl⟩ := asCall_eq hx
      simp only [Bool.and_eq_true, decide_eq_true_eq] at m
      obtain ⟨⟨⟨rfl, m2⟩, m3⟩, m4⟩ := m
      obtain ⟨ob, hs⟩ := h.sys
      exact .of (s_repr hs h.gu (by have := h.un; omega) (h.gl m2) (h.free _ (by decide)) (e_ok a X C o h m3).p m4) rfl rfl rfl
    · cases m
theorem es_ok : ∀ (as : Es) (X : Cx) (C : CC) (es : List Expr), XC Φ X C → mEs C as es = true → EsOk C.cx Φ X as es
  | .nil, X, C, [], h, m => es_nil
  | .cons a as, X, C, e :: es, h, m => by
    unfold mEs at m
    simp only [Bool.and_eq_true] at m
    exact es_cons (e_ok a X C e h m.1.1) (es_ok as X C es h m.1.2) m.2
  | .nil, X, C, _ :: _, h, m => by unfold mEs at m; cases m
  | .cons _ _, X, C, [], h, m => by unfold mEs at m; cases m
theorem it_ok : ∀ (it : It) (X : Cx) (C : CC) (pe tg : Expr), XC Φ X C → mI C it pe = true → (isT tg || it.free) = true → PI X tg pe (rI X.K (evI C.cx Φ it))
  | .val a, X, C, pe, tg, h, m, f => by
    have q := e_ok a X C pe h (by unfold mI at m; exact m)
    show PI X tg pe (rI X.K (mIt a (ev2 C.cx Φ a).r.v))
    cases hs : a.slot with
    | none =>
      have e : mIt a (ev2 C.cx Φ a).r.v = mIe (ev2 C.cx Φ a).r.v := by cases a <;> first | rfl | cases hs
      rw [e]; exact pi_e q.d
    | some i =>
      have v := q.v i hs
      cases slot_var hs
      exact pi_v v
  | .r1 a, X, C, pe, tg, h, m, f => by
    unfold mI at m
    split at m
    · rename_i x pa hx
      obtain ⟨p, q, rfl⟩ := asCall_eq hx
      simp only [Bool.and_eq_true, decide_eq_true_eq] at m
      obtain ⟨⟨⟨rfl, m2⟩, m3⟩, m4⟩ := m
      exact pi_r1 (h.gl m2) (h.free _ (by decide)) (s_acons (e_ok a X C pa h m3).d s_anil m4) m4
    · cases m
  | .r2 a b, X, C, pe, tg, h, m, f => by
    unfold mI at m
    split at m
    · rename_i x pa pb hx
      obtain ⟨p, q, rfl⟩ := asCall_eq hx
      simp only [Bool.and_eq_true, decide_eq_true_eq] at m
      obtain ⟨⟨⟨⟨⟨rfl, m2⟩, m3⟩, m4⟩, m5⟩, m6⟩ := m
      exact pi_r2 (h.gl m2) (h.free _ (by decide)) (s_two (e_ok a X C pa h m3).d (e_ok b X C pb h m4).d m5 m6) m5 m6
    · cases m
  | .zip a b, X, C, pe, tg, h, m, f => by
    unfold mI at m
    split at m
    · rename_i x pa pb hx
      obtain ⟨p, q, rfl⟩ := asCall_eq hx
      simp only [Bool.and_eq_true, decide_eq_true_eq] at m
      obtain ⟨⟨⟨⟨⟨rfl, m2⟩, m3⟩, m4⟩, m5⟩, m6⟩ := m
      obtain ⟨es, k, r, rfl⟩ := isT_eq f
      exact pi_zp2 (h.gl m2) (h.free _ (by decide)) (s_two (e_ok a X C pa h m3).d (e_ok b X C pb h m4).d m5 m6) m5 m6
    · cases m
  | .zipr a b, X, C, pe, tg, h, m, f => by
    unfold mI at m
    split at m
    · rename_i x pr pb hx
      obtain ⟨p, q, rfl⟩ := asCall_eq hx
      rw [Bool.and_eq_true, Bool.and_eq_true, decide_eq_true_eq] at m
      obtain ⟨⟨rfl, m2⟩, m⟩ := m
      split at m
      · rename_i y pa hy
        obtain ⟨p2, q2, rfl⟩ := asCall_eq hy
        simp only [Bool.and_eq_true, decide_eq_true_eq] at m
        obtain ⟨⟨⟨⟨⟨rfl, m3⟩, m4⟩, m5⟩, m6⟩, m7⟩ := m
        obtain ⟨es, k, r, rfl⟩ := isT_eq f
        exact pi_zpr (h.gl m2) (h.free _ (by decide)) (h.gl m3) (h.free _ (by decide)) (e_ok a X C pa h m4).d (e_ok b X C pb h m5).d m6 m7
      · cases m
    · cases m
  | .enum a, X, C, pe, tg, h, m, f => by
    unfold mI at m
    split at m
    · rename_i x pa hx
      obtain ⟨p, q, rfl⟩ := asCall_eq hx
      simp only [Bool.and_eq_true, decide_eq_true_eq] at m
      obtain ⟨⟨⟨rfl, m2⟩, m3⟩, m4⟩ := m
      obtain ⟨es, k, r, rfl⟩ := isT_eq f
      exact pi_en (h.gl m2) (h.free _ (by decide)) (s_acons (e_ok a X C pa h m3).d s_anil m4) m4
    · cases m
end
end
end Rf

set_option Elab.async false
set_option linter.all false
set_option maxRecDepth 100000
set_option maxHeartbeats 400000
namespace Rf
open PySem PySem.Spec PyProof.Rows L2
variable [Tb] [Wi]
section
variable {Φ : Phi} {X : Cx}
/-- what is raised is taken by the def's end -/
abbrev TakesE (X : Cx) : Prop := L2N.Takes X fun c d _ H => Wi.E c d H
theorem pa_none {es : List Expr} : PA X es (rXA X.K fun _ => none) := ⟨fun pos pins s σ H Q I h => by
  obtain ⟨_, _, _, _, e, _⟩ := h
  cases e⟩
theorem PA.weakX {es : List Expr} {t t' : TA} (h : PA X es t) (k : ∀ σ H Q, t' σ H Q → t σ H Q) : PA X es t' := ⟨fun pos pins s σ H Q I q => h.run pos pins s σ H Q I (k σ H Q q)⟩
/-- the first argument that raises -/
theorem s_xcons {pa : Expr} {es : List Expr} {ma : EM D} {xa xs : En → Option Xc} (h1 : PE X pa (rD X.K ma)) (hx : PE X pa (rX X.K xa)) (h2 : PA X es (rXA X.K xs)) (hn : notStar pa = true) : PA X (pa :: es) (rXA X.K fun Γ => match ma Γ with
    | .ok _ Γ1 => xs Γ1
    | .no => xa Γ) := PA.weakX (pa_cons (PE.or h1 hx) h2 (star_cons hn)) fun σ H Q q => by
  obtain ⟨F, Γ, c, A, e, k⟩ := q
  dsimp only at e
  cases e1 : ma Γ with
  | no =>
    rw [e1] at e
    exact .inr ⟨F, Γ, c, A, e, k⟩
  | ok d Γ1 =>
    rw [e1] at e
    exact .inl ⟨F, Γ, d, Γ1, A, e1, fun v F1 H1 s1 A1 g1 r1 => ⟨F1, Γ1, c, A1, e, fun cls d F2 H2 s2 sm tb x => k cls d F2 H2 (s1.trans s2 fun z q => .inl (g1.mu q)) sm tb (x.old (dom_none s1))⟩⟩
theorem xe_call {cx : CtxR} {f : Str} {as : Es} : xe cx Φ (.call f as) = xCall Φ f (lS (evL cx Φ as)) (xl cx Φ as) [] := by
  funext Γ
  have e : xe cx Φ (.call f as) Γ = (match lS (evL cx Φ as) Γ with
    | .ok ds _ => Φ.ex f (ds.map Sl.fr)
    | .no => xl cx Φ as Γ) := by first | rfl | (unfold xe; rfl)
  rw [e]
  unfold xCall
  cases lS (evL cx Φ as) Γ <;> rfl
theorem xe_make {cx : CtxR} {C : Str} {as : Es} : xe cx Φ (.make C as) = xCall Φ (C ++ ".__init__") (lS (evL cx Φ as)) (xl cx Φ as) [.bo (.ins C [] [])] := by
  funext Γ
  have e : xe cx Φ (.make C as) Γ = (match lS (evL cx Φ as) Γ with
    | .ok ds _ => Φ.ex (C ++ ".__init__") (.bo (.ins C [] []) :: ds.map Sl.fr)
    | .no => xl cx Φ as Γ) := by first | rfl | (unfold xe; rfl)
  rw [e]
  unfold xCall
  cases lS (evL cx Φ as) Γ <;> rfl
theorem xl_cons {cx : CtxR} {a : E} {as : Es} : xl cx Φ (.cons a as) = fun Γ => match (ev cx Φ a).v Γ with
    | .ok _ Γ1 => xl cx Φ as Γ1
    | .no => xe cx Φ a Γ := by
  funext Γ
  first | rfl | (rw [xl])
mutual
theorem x_ok : ∀ (e : E) (C : CC) (pe : Expr), XC Φ X C → TakesE X → mE C e pe = true → PE X pe (rX X.K (xe C.cx Φ e))
  | .call f as, C, pe, h, tk, m => by
    unfold mE at m
    split at m
    · rename_i x es hx
      obtain ⟨p, q, rfl⟩ := asCall_eq hx
      simp only [Bool.and_eq_true, decide_eq_true_eq] at m
      obtain ⟨⟨⟨⟨rfl, m2⟩, m3⟩, m4⟩, m5⟩ := m
      have hs := es_ok as X C es h m5
      have hxs := xs_ok as C es h tk m5
      obtain ⟨fd, ps, mm, k, F, R, hm, hk, hb⟩ := h.fns _ (List.contains_iff_mem.mp m4)
      have R := R.mono (show k ≤ k + 1 + C.rm by omega)
      obtain ⟨n1, _, _⟩ := nm_ok m3
      cases as with
      | nil =>
        have : es = [] := hs.nil rfl
        subst this
        rw [xe_call]
        exact s_call0X tk F R h.gu (h.gl m2) hm hk hb n1
      | cons a as' =>
        obtain ⟨e, es', rfl, _⟩ := hs.cns a as' rfl
        rw [xe_call]
        exact s_callX tk F R h.gu (h.gl m2) hm hk hb hs.a hxs n1 hs.ns
    · cases m
  | .make f as, C, pe, h, tk, m => by
    unfold mE at m
    split at m
    · rename_i x es hx
      obtain ⟨p, q, rfl⟩ := asCall_eq hx
      simp only [Bool.and_eq_true, decide_eq_true_eq] at m
      obtain ⟨⟨⟨⟨⟨rfl, m2⟩, m3⟩, m4⟩, m5⟩, m6⟩ := m
      have hs := es_ok as X C es h m5
      have hxs := xs_ok as C es h tk m5
      obtain ⟨hc, fd, ps, mm, k, F, R, hb⟩ := h.mks _ (List.contains_iff_mem.mp m4)
      have R := R.mono (show k + 1 ≤ k + 1 + C.rm by omega)
      obtain ⟨n1, _, _⟩ := nm_ok m3
      cases es with
      | nil => exact absurd rfl (ne_of m6)
      | cons e es' =>
        rw [xe_make]
        exact s_makeX tk (h.own.mkr _ hc) F R h.gu (h.gl m2) (h.own.glo _ hc) hb hs.a hxs n1 hs.ns
    · cases m
  | .ix a b, C, pe, h, tk, m => by
    unfold mE at m
    split at m
    · rename_i pa pb hx
      obtain ⟨p, rfl⟩ := asSub_eq hx
      simp only [Bool.and_eq_true] at m
      have hu : X.A.units + 1 < cLine := by have := h.un; omega
      exact PE.weak (pe_ix (ix_d hu) (x_ok a C pa h tk m.1.1) (e_ok b X C pb h m.1.2).d (plain_ix m.2)) fun σ H Q q => q
    · cases m
  | .var _, _, _, _, _, _ => px_none
  | .non, _, _, _, _, _ => px_none
  | .bl _, _, _, _, _, _ => px_none
  | .int _, _, _, _, _, _ => px_none
  | .str _, _, _, _, _, _ => px_none
  | .gint _, _, _, _, _, _ => px_none
  | .fnv _, _, _, _, _, _ => px_none
  | .bin _ _ _, _, _, _, _, _ => px_none
  | .neg _, _, _, _, _, _ => px_none
  | .nt _, _, _, _, _, _ => px_none
  | .bop _ _, _, _, _, _, _ => px_none
  | .cmp _ _ _, _, _, _, _, _ => px_none
  | .cmp2 _ _ _ _ _, _, _, _, _, _ => px_none
  | .isc _ _ _, _, _, _, _, _ => px_none
  | .ite _ _ _, _, _, _, _, _ => px_none
  | .blt _ _, _, _, _, _, _ => px_none
  | .isi _ _ _, _, _, _, _, _ => px_none
  | .meth _ _ _, _, _, _, _, _ => px_none
  | .mut _ _ _, _, _, _, _, _ => px_none
  | .attr _ _, _, _, _, _, _ => px_none
  | .cut _ _ _, _, _, _, _, _ => px_none
  | .rev _, _, _, _, _, _ => px_none
  | .tup _, _, _, _, _, _ => px_none
  | .lst _, _, _, _, _, _ => px_none
  | .dct _ _, _, _, _, _, _ => px_none
  | .comp _ _ _ _ _, _, _, _, _, _ => px_none
  | .fault _ _, _, _, _, _, _ => px_none
  | .faultM _ _, _, _, _, _, _ => px_none
  | .faultV _ _, _, _, _, _, _ => px_none
  | .repr _, _, _, _, _, _ => px_none
theorem xs_ok : ∀ (as : Es) (C : CC) (es : List Expr), XC Φ X C → TakesE X → mEs C as es = true → PA X es (rXA X.K (xl C.cx Φ as))
  | .nil, C, es, h, tk, m => pa_none
  | .cons a as, C, e :: es, h, tk, m => by
    unfold mEs at m
    rw [Bool.and_eq_true, Bool.and_eq_true] at m
    rw [xl_cons]
    exact s_xcons (e_ok a X C e h m.1.1).d (x_ok a C e h tk m.1.1) (xs_ok as C es h tk m.1.2) m.2
  | .cons _ _, _, [], _, _, m => by unfold mEs at m; cases m
end
end
end Rf

set_option Elab.async false
set_option linter.all false
set_option maxRecDepth 100000
set_option maxHeartbeats 16000000
namespace Rf
open PySem PySem.Spec PyProof.Rows L2
variable [Tb] [Wi]
def asAsg : Stmt → Option (Expr × Expr)
  | .Assign [t] e _ => some (t, e)
  | _ => none
def asAug : Stmt → Option (Str × Operator × Expr)
  | .AugAssign (.Name x _) o e _ => some (x, o, e)
  | _ => none
def asRet : Stmt → Option (Option Expr)
  | .Return e _ => some e
  | _ => none
def asIfS : Stmt → Option (Expr × List Stmt × List Stmt)
  | .If c a b _ => some (c, a, b)
  | _ => none
def asFor : Stmt → Option (Expr × Expr × List Stmt)
  | .For t i b [] _ => some (t, i, b)
  | _ => none
def asWhl : Stmt → Option (Expr × List Stmt)
  | .While c b [] _ => some (c, b)
  | _ => none
def asExp : Stmt → Option Expr
  | .Expr e _ => some e
  | _ => none
def stB : Nat → Stmt → Bool
  | 0, .Pass _ => true
  | 1, .Break _ => true
  | 2, .Continue _ => true
  | _, _ => false
section
variable {st : Stmt} {t e c : Expr} {a b : List Stmt} {x : Str}
theorem asAsg_eq (h : asAsg st = some (t, e)) : ∃ p, st = .Assign [t] e p := by
  unfold asAsg at h
  split at h
  · cases h; exact ⟨_, rfl⟩
  · cases h
theorem asAug_eq {o : Operator} (h : asAug st = some (x, o, e)) : ∃ p q, st = .AugAssign (.Name x p) o e q := by
  unfold asAug at h
  split at h
  · cases h; exact ⟨_, _, rfl⟩
  · cases h
theorem asRet_eq {o : Option Expr} (h : asRet st = some o) : ∃ p, st = .Return o p := by cases st <;> first | (cases h; exact ⟨_, rfl⟩) | cases h
theorem asIfS_eq (h : asIfS st = some (c, a, b)) : ∃ p, st = .If c a b p := by cases st <;> first | (cases h; exact ⟨_, rfl⟩) | cases h
theorem asFor_eq (h : asFor st = some (t, e, b)) : ∃ p, st = .For t e b [] p := by
  unfold asFor at h
  split at h
  · cases h; exact ⟨_, rfl⟩
  · cases h
theorem asWhl_eq (h : asWhl st = some (c, b)) : ∃ p, st = .While c b [] p := by
  unfold asWhl at h
  split at h
  · cases h; exact ⟨_, rfl⟩
  · cases h
theorem asExp_eq (h : asExp st = some e) : ∃ p, st = .Expr e p := by cases st <;> first | (cases h; exact ⟨_, rfl⟩) | cases h
end
def isN (e : Expr) : Bool := (asName e).isSome
def isLc (e : Expr) : Bool := !notComp e
/-- name = [..] within the block -/
def lcIn (C : CC) (tg pe : Expr) : Bool := match tg, pe with
  | .Name y py, .ListComp _ _ scope cpos => inBlk C.sc scope y py cpos
  | _, _ => false
def E.comp? : E → Bool
  | .comp _ _ _ _ _ => true
  | _ => false
def locs (C : CC) (i : Nat) (e : Expr) : Option Str := match asName e with
  | some x => if decide (C.N[i]? = some x) && isK .local (C.sc.names.lookup x) then some x else none
  | none => none
/-- (a, b, ..) = (x, y, ..) -/
def mPar (C : CC) (ts : List T) (tgs pes : List Expr) : Bool := match swS C.sc tgs pes with
  | some none => mTs C ts tgs && decide (ts.length ≤ 1000)
  | some (some ns) => (match ts, tgs, pes with
    | [.var i, .var j], [t1, t2], [_, _] => decide (i ≠ j) && (match locs C i t1, locs C j t2 with
      | some x, some y => decide (ns = [x, y])
      | _, _ => false)
    | [.var i, .var j, .var l], [t1, t2, t3], [_, _, _] => decide (i ≠ j) && decide (i ≠ l) && decide (j ≠ l) && (match locs C i t1, locs C j t2, locs C l t3 with
      | some x, some y, some z => decide (ns = [x, y, z])
      | _, _, _ => false)
    | _, _, _ => false)
  | none => false
mutual
def mS (C : CC) : S → Stmt → Bool
  | .never, _ => true
  | .raise c as, st => match asRaise st with
    | some (x, es) => decide (x = c) && C.gl x && nmB x && C.exs.contains x && mEs C as es && !es.isEmpty
    | none => false
  | .pass, st => stB 0 st
  | .brk, st => stB 1 st
  | .cont, st => stB 2 st
  | .asg t e, st => match asAsg st with
    | some (tg, pe) => mT C t tg && mE C e pe && (isN tg || (notTup pe && notComp pe)) && (notComp pe || (asComp pe).isSome) && (!lcIn C tg pe || e.comp?)
    | none => false
  | .asgs ts es, st => match asAsg st with
    | some (tg, pe) => (match asTup tg, asTup pe with
      | some tgs, some pes => mPar C ts tgs pes && mEs C es pes
      | _, _ => false)
    | none => false
  | .put i k v, st => match asAsg st with
    | some (tg, pe) => (match asSub tg with
      | some (o, pk) => mVar C i o && mE C k pk && mE C v pe && notComp pe && notSlice pk
      | none => false)
    | none => false
  | .fld i f e, st => match asAsg st with
    | some (tg, pe) => (match asAttr tg with
      | some (o, g) => decide (g = f) && mVar C i o && mE C e pe && notComp pe
      | none => false)
    | none => false
  | .aug i op e, st => match asAug st with
    | some (x, o, pe) => decide (o = op.py) && (decide (op = .add) || decide (op = .sub)) && decide (C.N[i]? = some x) && C.loc x && mE C e pe
    | none => false
  | .exp e, st => match asExp st with
    | some pe => mE C e pe && notComp pe
    | none => false
  | .ret e, st => match asRet st with
    | some (some pe) => mE C e pe
    | _ => false
  | .retN, st => match asRet st with
    | some none => true
    | _ => false
  | .ite c a b, st => match asIfS st with
    | some (pc, pa, pb) => mE C c pc && mSs C a pa && mSs C b pb
    | none => false
  | .for t it b, st => match asFor st with
    | some (tg, iter, pb) => mT C t tg && mI C it iter && (isT tg || it.free) && mSs C b pb && notSet iter
    | none => false
  | .whil c b, st => match asWhl st with
    | some (pc, pb) => mE C c pc && mSs C b pb
    | none => false
def mSs (C : CC) : Ss → List Stmt → Bool
  | .nil, [] => true
  | .cons s ss, st :: sts => mS C s st && mSs C ss sts
  | _, _ => false
end
section
variable {Φ : Phi} {X : Cx} {C : CC} {x : Str} {pe tg : Expr}
theorem notComp_lc (h : notComp pe = false) (h2 : (asComp pe).isSome = true) : ∃ elt tg iter ifs sc p, pe = .ListComp elt [⟨tg, iter, ifs, 0⟩] sc p := by
  obtain ⟨⟨a, b, c, d, sc⟩, hq⟩ := Option.isSome_iff_exists.mp h2
  obtain ⟨p, rfl⟩ := asComp_eq hq
  exact ⟨a, b, c, d, sc, p, rfl⟩
theorem isN_eq (h : isN tg = true) : ∃ x p, tg = .Name x p := by
  obtain ⟨x, hx⟩ := Option.isSome_iff_exists.mp h
  obtain ⟨p, rfl⟩ := asName_eq hx
  exact ⟨x, p, rfl⟩
theorem mT_tup {t : T} (h : mT C t tg = true) (hn : isN tg = false) : ∃ es k p, tg = .Tuple es k p := by
  cases t with
  | var i =>
    unfold mT at h
    unfold isN at hn
    split at h
    · rename_i x hx
      rw [hx] at hn; cases hn
    · cases h
  | tup ts =>
    unfold mT at h
    split at h
    · rename_i es hx
      obtain ⟨k, p, rfl⟩ := asTup_eq hx
      exact ⟨es, k, p, rfl⟩
    · cases h
theorem locs_eq {i : Nat} (h : locs C i tg = some x) : ∃ p, tg = .Name x p ∧ C.N[i]? = some x ∧ C.sc.names.lookup x = some .local := by
  unfold locs at h
  split at h
  · rename_i y hy
    split at h
    · rename_i hh
      cases h
      obtain ⟨p, rfl⟩ := asName_eq hy
      simp only [Bool.and_eq_true, decide_eq_true_eq] at hh
      exact ⟨p, rfl, hh.1, isK_eq hh.2⟩
    · cases h
  · cases h
theorem par_ok (h : XC Φ X C) {ts : List T} {es : Es} {tgs pes : List Expr} {k1 k2 : Nat} {p1 p2 p : Pos} (m : mPar C ts tgs pes = true) (hs : EsOk C.cx Φ X es pes) :
    PS X (.Assign [.Tuple tgs k1 p1] (.Tuple pes k2 p2) p) (rS X.K (mAsgs (asgTs ts) (lR (evL C.cx Φ es)))) := by
  unfold mPar at m
  split at m
  · rename_i hsw
    rw [Bool.and_eq_true, decide_eq_true_eq] at m
    obtain ⟨h1, h2, h3⟩ := ts_ok h ts tgs m.1
    exact i_asgs h.calm hs.r h1 (swS_ok h.sc h.kind hsw) h2 (fun rs Γ Γ' e => by rw [asgTs_len e, h3]) (by rw [← h3]; exact m.2)
  · rename_i ns hsw
    split at m
    · rename_i i j t1 t2 e1 e2
      rw [Bool.and_eq_true, decide_eq_true_eq] at m
      obtain ⟨hij, m⟩ := m
      split at m
      · rename_i x y hx hy
        cases of_decide_eq_true m
        obtain ⟨q1, rfl, n1, l1⟩ := locs_eq hx
        obtain ⟨q2, rfl, n2, l2⟩ := locs_eq hy
        exact i_par h.calm (by rw [h.N]; exact h.nd) (by rw [h.N]; exact n1) (by rw [h.N]; exact n2) hij (by rw [h.sc]; exact l1) (by rw [h.sc]; exact l2) hs.r (swS_ok h.sc h.kind hsw)
      · cases m
    · rename_i i j l t1 t2 t3 e1 e2 e3
      simp only [Bool.and_eq_true, decide_eq_true_eq] at m
      obtain ⟨⟨⟨hij, hil⟩, hjl⟩, m⟩ := m
      split at m
      · rename_i x y z hx hy hz
        cases of_decide_eq_true m
        obtain ⟨q1, rfl, n1, l1⟩ := locs_eq hx
        obtain ⟨q2, rfl, n2, l2⟩ := locs_eq hy
        obtain ⟨q3, rfl, n3, l3⟩ := locs_eq hz
        exact i_par3 h.calm (by rw [h.N]; exact h.nd) (by rw [h.N]; exact n1) (by rw [h.N]; exact n2) (by rw [h.N]; exact n3) hij hil hjl (by rw [h.sc]; exact l1) (by rw [h.sc]; exact l2) (by rw [h.sc]; exact l3) hs.r (swS_ok h.sc h.kind hsw)
      · cases m
    · cases m
  · cases m
theorem asg_ok (h : XC Φ X C) (tk : TakesE X) {t : T} {e : E} {p : Pos} (m1 : mT C t tg = true) (m2 : mE C e pe = true) (m3 : (isN tg || (notTup pe && notComp pe)) = true) (m4 : (notComp pe || (asComp pe).isSome) = true) (m5 : (!lcIn C tg pe || e.comp?) = true) :
    PS X (.Assign [tg] pe p) (rS X.K (ex C.cx Φ (.asg t e))) := by
  obtain ⟨hg, hst⟩ := t_ok h t tg m1
  have he := (e_ok e X C pe h m2).r
  have hx := x_ok e C pe h tk m2
  have er : ex C.cx Φ (.asg t e) = fun Γ => match ev C.cx Φ e Γ with
    | .no => xrf (xe C.cx Φ e) Γ
    | .ok r Γ1 => match asgT t r Γ1 with
      | some Γ2 => .nx Γ2
      | none => .no := by funext Γ; rfl
  rw [er]
  cases hc : notComp pe with
  | true =>
    refine i_asg he hx hg hc ?_ hst
    cases hn : isN tg with
    | true => obtain ⟨x, q, rfl⟩ := isN_eq hn; exact sw_name
    | false =>
      obtain ⟨es, k, q, rfl⟩ := mT_tup m1 hn
      rw [hn, Bool.false_or, Bool.and_eq_true] at m3
      exact sw_tup m3.1
  | false =>
    rw [hc, Bool.false_or] at m4
    obtain ⟨elt, ctg, iter, ifs, scope, q, rfl⟩ := notComp_lc hc m4
    rw [hc, Bool.and_false, Bool.or_false] at m3
    obtain ⟨y, py, rfl⟩ := isN_eq m3
    cases hb : inBlk C.sc scope y py q with
    | false => exact i_asgG he hx hg (inBlk_no (l := p.line) h.sc h.kind hb) sw_name hst
    | true =>
      have hl : lcIn C (.Name y py) (.ListComp elt [⟨ctg, iter, ifs, 0⟩] scope q) = true := hb
      rw [hl] at m5
      obtain ⟨hy, hsw⟩ := inBlk_yes (elt := elt) (gs := [⟨ctg, iter, ifs, 0⟩]) (l := p.line) h.sc h.kind hb
      cases e with
      | comp e t2 it c own =>
        cases t with
        | tup ts => unfold mT at m1; cases m1
        | var i =>
          unfold mT at m1
          have m1 : (decide (C.N[i]? = some y) && C.loc y) = true := m1
          rw [Bool.and_eq_true, decide_eq_true_eq] at m1
          unfold mE at m2
          simp only [asComp, Bool.and_eq_true, decide_eq_true_eq] at m2
          obtain ⟨⟨⟨⟨⟨⟨⟨⟨k1, k2⟩, k3⟩, k4⟩, k5⟩, k6⟩, k7⟩, k8⟩, k9⟩ := m2
          have ok : BlkOk X.N X.env.scope scope own := blkOk_by (by rw [h.N, h.sc]; exact k1)
          have hT : ∀ j ∈ t2.slots, j ∈ own.map (·.2) := fun j hj => List.contains_iff_mem.mp (List.all_eq_true.mp k9 j hj)
          exact i_comp h.calm (by rw [h.N]; exact h.nd) (by rw [h.N]; exact m1.1) (by rw [h.sc]; exact hy) hsw (it_ok it X C iter ctg h k3 k4) ok
            (fun s H Ca cl fp => (t_ok (h.blk ok s H cl Ca fp) t2 ctg k2).1)
            (fun s H Ca cl fp => (es_ok c _ _ ifs (h.blk ok s H cl Ca fp) k6).c k5)
            (fun s H Ca cl fp => (e_ok e _ _ elt (h.blk ok s H cl Ca fp) k7).d) k8 hT hT
      | _ => cases m5
theorem plain_put {o k : Expr} {p : Pos} (h : notSlice k = true) : ∀ v, assign (.Subscript o k p) X.env v = (do
      let ov ← holding [v] (eval o X.env)
      let iv ← holding [v, ov] (eval k X.env)
      standAt p
      holding [v, ov, iv] (setItem ov iv v)
      release [v, ov, iv] []) := by
  intro v
  cases k <;> first | rfl | cases h
end
end Rf

set_option Elab.async false
set_option linter.all false
set_option maxRecDepth 100000
set_option maxHeartbeats 16000000
namespace Rf
open PySem PySem.Spec PyProof.Rows L2
variable [Tb] [Wi]
section
variable {Φ : Phi} {X : Cx} {C : CC} {x : Str} {pe tg : Expr}
theorem stB_eq {n : Nat} {st : Stmt} (h : stB n st = true) : (n = 0 ∧ ∃ p, st = .Pass p) ∨ (n = 1 ∧ ∃ p, st = .Break p) ∨ (n = 2 ∧ ∃ p, st = .Continue p) := by
  unfold stB at h
  split at h
  · exact .inl ⟨rfl, _, rfl⟩
  · exact .inr (.inl ⟨rfl, _, rfl⟩)
  · exact .inr (.inr ⟨rfl, _, rfl⟩)
  · cases h
mutual
theorem s_ok (h : XC Φ X C) (tk : TakesE X) : ∀ (s : S) (st : Stmt), mS C s st = true → PS X st (rS X.K (ex C.cx Φ s))
  | .never, st, m => i_never
  | .raise c as, st, m => by
    unfold mS at m
    split at m
    · rename_i x es hx
      obtain ⟨p, q, r, rfl⟩ := asRaise_eq hx
      simp only [Bool.and_eq_true, decide_eq_true_eq] at m
      obtain ⟨⟨⟨⟨⟨rfl, m2⟩, m3⟩, m4⟩, m5⟩, m6⟩ := m
      have hs := es_ok as X C es h m5
      obtain ⟨ns, g1, g2, g3⟩ := h.exs _ (List.contains_iff_mem.mp m4)
      obtain ⟨n1, _, _⟩ := nm_ok m3
      cases es with
      | nil => cases m6
      | cons e es' => exact i_raise h.calm tk g1 g2 g3 (h.gl m2) n1 hs.a hs.ns
    · cases m
  | .pass, st, m => by
    rcases stB_eq (by unfold mS at m; exact m) with ⟨_, p, rfl⟩ | ⟨z, _⟩ | ⟨z, _⟩
    · exact i_pass
    · cases z
    · cases z
  | .brk, st, m => by
    rcases stB_eq (by unfold mS at m; exact m) with ⟨z, _⟩ | ⟨_, p, rfl⟩ | ⟨z, _⟩
    · cases z
    · exact i_brk
    · cases z
  | .cont, st, m => by
    rcases stB_eq (by unfold mS at m; exact m) with ⟨z, _⟩ | ⟨z, _⟩ | ⟨_, p, rfl⟩
    · cases z
    · cases z
    · exact i_cont
  | .asg t e, st, m => by
    unfold mS at m
    split at m
    · rename_i tg pe hx
      obtain ⟨p, rfl⟩ := asAsg_eq hx
      rw [Bool.and_eq_true, Bool.and_eq_true, Bool.and_eq_true, Bool.and_eq_true] at m
      obtain ⟨⟨⟨⟨m1, m2⟩, m3⟩, m4⟩, m5⟩ := m
      exact asg_ok h tk m1 m2 m3 m4 m5
    · cases m
  | .asgs ts es, st, m => by
    unfold mS at m
    split at m
    · rename_i tg pe hx
      obtain ⟨p, rfl⟩ := asAsg_eq hx
      split at m
      · rename_i tgs pes h1 h2
        obtain ⟨k1, p1, rfl⟩ := asTup_eq h1
        obtain ⟨k2, p2, rfl⟩ := asTup_eq h2
        rw [Bool.and_eq_true] at m
        exact par_ok h m.1 (es_ok es X C pes h m.2)
      · cases m
    · cases m
  | .put i k v, st, m => by
    unfold mS at m
    split at m
    · rename_i tg pe hx
      obtain ⟨p, rfl⟩ := asAsg_eq hx
      split at m
      · rename_i o pk h1
        obtain ⟨p1, rfl⟩ := asSub_eq h1
        simp only [Bool.and_eq_true] at m
        obtain ⟨⟨⟨⟨m1, m2⟩, m3⟩, m4⟩, m5⟩ := m
        exact i_put (by have := h.un; omega) (mVar_ok h m1) (e_ok v X C pe h m3).d (e_ok k X C pk h m2).d m4 (plain_put m5)
      · cases m
    · cases m
  | .fld i f e, st, m => by
    unfold mS at m
    split at m
    · rename_i tg pe hx
      obtain ⟨p, rfl⟩ := asAsg_eq hx
      split at m
      · rename_i o g h1
        obtain ⟨p1, rfl⟩ := asAttr_eq h1
        simp only [Bool.and_eq_true, decide_eq_true_eq] at m
        obtain ⟨⟨⟨rfl, m2⟩, m3⟩, m4⟩ := m
        exact i_fld h.own (mVar_ok h m2) (e_ok e X C pe h m3).d m4
      · cases m
    · cases m
  | .aug i op e, st, m => by
    unfold mS at m
    split at m
    · rename_i x o pe hx
      obtain ⟨p, q, rfl⟩ := asAug_eq hx
      simp only [Bool.and_eq_true, decide_eq_true_eq, Bool.or_eq_true] at m
      obtain ⟨⟨⟨⟨rfl, m2⟩, m3⟩, m4⟩, m5⟩ := m
      obtain ⟨l1, l2⟩ := h.loc m4
      have he := (e_ok e X C pe h m5).d
      rcases m2 with rfl | rfl
      · exact i_aug (op := .add) ip_add (.inl rfl) (by rw [h.N]; exact h.nd) (by rw [h.N]; exact m3) l1 he l2
      · exact i_aug (op := .sub) ip_sub (.inr rfl) (by rw [h.N]; exact h.nd) (by rw [h.N]; exact m3) l1 he l2
    · cases m
  | .exp e, st, m => by
    unfold mS at m
    split at m
    · rename_i pe hx
      obtain ⟨p, rfl⟩ := asExp_eq hx
      rw [Bool.and_eq_true] at m
      exact i_exp (e_ok e X C pe h m.1).r (x_ok e C pe h tk m.1) m.2
    · cases m
  | .ret e, st, m => by
    unfold mS at m
    split at m
    · rename_i pe hx
      obtain ⟨p, rfl⟩ := asRet_eq hx
      have q := e_ok e X C pe h m
      cases hs : e.slot with
      | none =>
        have er : ex C.cx Φ (.ret e) = fun Γ => match ev C.cx Φ e Γ with
          | .no => xrf (xe C.cx Φ e) Γ
          | .ok r Γ1 => .rt r Γ1 := by
          funext Γ
          show (match e.slot with
            | some i => _
            | none => _) = _
          first | (rw [hs]; done) | (rw [hs]; rfl)
        rw [er]; exact i_ret q.r (x_ok e C pe h tk m)
      | some i =>
        have v := q.v i hs
        cases slot_var hs
        exact i_retV v
    · cases m
  | .retN, st, m => by
    unfold mS at m
    split at m
    · rename_i hx
      obtain ⟨p, rfl⟩ := asRet_eq hx
      exact i_retN
    · cases m
  | .ite c a b, st, m => by
    unfold mS at m
    split at m
    · rename_i pc pa pb hx
      obtain ⟨p, rfl⟩ := asIfS_eq hx
      simp only [Bool.and_eq_true] at m
      exact i_ite (e_ok c X C pc h m.1.1).t (ss_ok h tk a pa m.1.2) (ss_ok h tk b pb m.2)
    · cases m
  | .for t it b, st, m => by
    unfold mS at m
    split at m
    · rename_i tg iter pb hx
      obtain ⟨p, rfl⟩ := asFor_eq hx
      simp only [Bool.and_eq_true] at m
      obtain ⟨⟨⟨⟨m1, m2⟩, m3⟩, m4⟩, m5⟩ := m
      exact i_for h.xe h.calm (it_ok it X C iter tg h m2 m3) (t_ok h t tg m1).1 (ss_ok h tk b pb m4) m5
    · cases m
  | .whil c b, st, m => by
    unfold mS at m
    split at m
    · rename_i pc pb hx
      obtain ⟨p, rfl⟩ := asWhl_eq hx
      rw [Bool.and_eq_true] at m
      exact i_while C.cx.fuel h.xe (e_ok c X C pc h m.1).t (ss_ok h tk b pb m.2)
    · cases m
theorem ss_ok (h : XC Φ X C) (tk : TakesE X) : ∀ (ss : Ss) (sts : List Stmt), mSs C ss sts = true → PSs X sts (rS X.K (exs C.cx Φ ss))
  | .nil, [], m => b_nil
  | .cons s ss, st :: sts, m => by
    unfold mSs at m
    rw [Bool.and_eq_true] at m
    have q := b_cons (s_ok h tk s st m.1) (ss_ok h tk ss sts m.2)
    exact q
  | .nil, _ :: _, m => by unfold mSs at m; cases m
  | .cons _ _, [], m => by unfold mSs at m; cases m
end
end
end Rf

set_option Elab.async false
set_option linter.all false
set_option maxRecDepth 100000
set_option maxHeartbeats 4000000
namespace Rf
open PySem PySem.Spec PyProof.Rows L2

/-! ### the three defs that tell an error -/
theorem isKe {k : NameKind} {o : Option NameKind} (h : isK k o = true) : o = some k := of_decide_eq_true h
def scB (N ps : List Str) (sc : Scope) : Bool := (match sc.kind with
    | .function => true
    | _ => false) && !sc.isCoroutine && !sc.isGenerator && decide N.Nodup && decide (N.take ps.length = ps) && (ps.all fun x => isK .local (sc.names.lookup x) || isK .cell (sc.names.lookup x)) && (sc.names.all fun y => !(match y.2 with
    | .free => true
    | _ => false))
theorem scB_ok {N ps : List Str} {sc : Scope} (h : scB N ps sc = true) : FnScope N ps sc := by
  unfold scB at h
  simp only [Bool.and_eq_true, Bool.not_eq_true', decide_eq_true_eq] at h
  obtain ⟨⟨⟨⟨⟨⟨h1, h2⟩, h3⟩, h4⟩, h5⟩, h6⟩, h7⟩ := h
  refine ⟨?_, h2, h3, h4, h5, fun x hx => ?_, fun y hy z => ?_⟩
  · cases q : sc.kind <;> first | rfl | (rw [q] at h1; cases h1)
  · have := List.all_eq_true.mp h6 x hx
    rw [Bool.or_eq_true] at this
    exact this.imp isKe isKe
  · have := List.all_eq_true.mp h7 y hy
    rw [z] at this
    cases this
def glB (sc : Scope) (x : Str) : Bool := isK .globalImplicit (sc.names.lookup x)
def loB (sc : Scope) (x : Str) : Bool := isK .local (sc.names.lookup x)
/-- a def that tells: names and rows -/
def tlB (d : PDef) (rs : List (Str × List Ki)) (B : Stmt → Bool) : Bool := scB ["e", "found"] ["e"] d.scope && loB d.scope "e" && loB d.scope "found" && glB d.scope "isinstance" && glB d.scope "repr" && (rs.all fun r => glB d.scope r.1 && nmB r.1) && bodyB B "e" "found" rs d.body
/-- by the text alone -/
def FtD.textB (d : FtD) (cx : CtxR) : Bool := tlB d.k (cx.kinds.take d.n) (retB2 "e" "found" "_law_more_kinds") && tlB d.m (cx.kinds.drop d.n) (retB "found") && glB d.k.scope "_law_more_kinds" &&
  scB ["call", "found", "e"] ["call"] d.g.scope && loB d.g.scope "call" && loB d.g.scope "found" && loB d.g.scope "e" && (["StretchError", "_law_kinds", "isinstance", "len", "ValueError"].all fun x => glB d.g.scope x) && (cx.kinds.all fun r => decide (r.2.length ≤ 1000)) &&
  decide (d.g.x = "_law_fault") && decide (d.g.qual = "_law_fault")
theorem excB_ok {K : PySem.W.Frag} {D : Addr} (h : excB K D = true) : CauC K D ∧ XfC K D := by
  unfold excB at h
  simp only [Bool.and_eq_true, decide_eq_true_eq] at h
  obtain ⟨⟨⟨⟨⟨⟨⟨⟨h1, h2⟩, h3⟩, h4⟩, h5⟩, h6⟩, h7⟩, h8⟩, h9⟩ := h
  exact ⟨⟨⟨h1, h2, h3, h4, h5, h6, h7, h8⟩, h9⟩, ⟨h1, h2, h3, h4⟩⟩
/-- the text of the def that catches -/
def FtTxt (bg : List Stmt) : Prop := ∃ (p1 p2 p3 p4 p5 p6 p7 p8 p9 p10 p11 : Pos) (k1 : Nat) (b0 b1 : Stmt), bg = [.Assign [.Name "found" p1] (.Constant .none k1 p2) p3, .Try [.Expr (.Call (.Name "call" p4) [] [] p5) p6] [.ExceptHandler (some (.Name "StretchError" p7)) (some "e") [b0, b1] p8] [] [] p9, .Return (some (.Name "found" p10)) p11] ∧ IsSu "found" "e" "_law_kinds" b0 b1
/-! ### one row tells it -/
theorem toldL_app {c : Xc} : ∀ {r1 r2 : List (Str × List Ki)} {t1 t2 : List D}, toldL c r1 = some t1 → toldL c r2 = some t2 → toldL c (r1 ++ r2) = some (t1 ++ t2)
  | [], r2, t1, t2, h1, h2 => by cases h1; exact h2
  | r :: rs, r2, t1, t2, h1, h2 => by
    unfold toldL at h1
    obtain ⟨u, e1, h1⟩ := Option.bind_eq_some_iff.mp h1
    obtain ⟨v, e2, rfl⟩ := Option.map_eq_some_iff.mp h1
    have ih := toldL_app e2 h2
    rw [List.cons_append]
    unfold toldL
    rw [e1, Option.bind_some, ih, Option.map_some, List.append_assoc]
theorem toldL_none {c : Xc} : ∀ {rs : List (Str × List Ki)}, (rs.filter fun p => decide (p.1 = c.C)) = [] → toldL c rs = some []
  | [], _ => rfl
  | r :: rs, h => by
    have hr : ¬ r.1 = c.C := fun z => by rw [List.filter_cons_of_pos (by simpa using z)] at h; cases h
    rw [List.filter_cons_of_neg (by simpa using hr)] at h
    unfold toldL toldR
    rw [if_neg hr, Option.bind_some, toldL_none h]
    rfl
theorem toldL_one {c : Xc} {p : Str × List Ki} {ds : List D} (hp : kindL c p.2 = some ds) (hl : ds.length ≤ 1000) : ∀ {rs : List (Str × List Ki)}, (rs.filter fun p => decide (p.1 = c.C)) = [p] → toldL c rs = some [.tup ds]
  | [], h => by cases h
  | r :: rs, h => by
    by_cases hr : r.1 = c.C
    · rw [List.filter_cons_of_pos (by simpa using hr)] at h
      obtain ⟨rfl, h2⟩ := List.cons.inj h
      have e := toldL_none (c := c) (rs := rs) h2
      unfold toldL toldR
      rw [if_pos hr, hp, Option.bind_some, if_pos hl, Option.bind_some, e]
      rfl
    · rw [List.filter_cons_of_neg (by simpa using hr)] at h
      have ih := toldL_one hp hl h
      unfold toldL toldR
      rw [if_neg hr, Option.bind_some, ih]
      rfl
theorem kindL_len {c : Xc} : ∀ {ks : List Ki} {ds : List D}, kindL c ks = some ds → ds.length = ks.length
  | [], ds, h => by cases h; rfl
  | k :: ks, ds, h => by
    unfold kindL at h
    obtain ⟨d, e1, h⟩ := Option.bind_eq_some_iff.mp h
    obtain ⟨v, e2, rfl⟩ := Option.map_eq_some_iff.mp h
    rw [List.length_cons, List.length_cons, kindL_len e2]
theorem look_mem {β : Type} : ∀ {l : List (Str × β)} {x : Str} {i : β}, l.lookup x = some i → (x, i) ∈ l
  | (y, j) :: l, x, i, h => by
    rw [List.lookup_cons] at h
    cases q : x == y with
    | true => rw [q] at h; cases h; rw [beq_iff_eq.mp q]; exact List.mem_cons_self
    | false => rw [q] at h; exact List.mem_cons_of_mem _ (look_mem h)
theorem told_split {cx : CtxR} {c : Xc} {t : D} (n : Nat) (h : kindD cx c = some t) (hl : ∀ r ∈ cx.kinds, r.2.length ≤ 1000) : cx.exc.lookup c.C = some c.ns ∧ ∃ t1 t2, toldL c (cx.kinds.take n) = some t1 ∧ toldL c (cx.kinds.drop n) = some t2 ∧ ((t1 = [] ∧ t2 = [t]) ∨ (t1 = [t] ∧ t2 = [])) := by
  unfold kindD at h
  split at h
  · rename_i p hp
    split at h
    · rename_i hx
      refine ⟨hx, ?_⟩
      obtain ⟨ds, e1, rfl⟩ := Option.map_eq_some_iff.mp h
      rw [kindL_eq] at e1
      have pin : p ∈ cx.kinds := (List.mem_filter.mp (show p ∈ cx.kinds.filter (fun p => decide (p.1 = c.C)) from hp ▸ List.mem_cons_self)).1
      have hd : ds.length ≤ 1000 := by rw [kindL_len e1]; exact hl p pin
      have e := hp
      rw [← List.take_append_drop n cx.kinds, List.filter_append] at e
      rcases List.append_eq_cons_iff.mp e with ⟨h1, h2⟩ | ⟨l, h1, h2⟩
      · exact ⟨[], _, toldL_none h1, toldL_one e1 hd h2, .inl ⟨rfl, rfl⟩⟩
      · obtain ⟨rfl, h3⟩ := List.append_eq_nil_iff.mp h2.symm
        exact ⟨_, [], toldL_one e1 hd h1, toldL_none h3, .inr ⟨rfl, rfl⟩⟩
    · cases h
  · cases h
theorem retE2_G {a : Addr} {t1 t2 : List D} (h : t1.length + t2.length ≤ 1000000) : retE2 a t2 (GK a t1) = .rt (.m (.lst (t1 ++ t2))) [some (.fr (.exc a)), some (.fr (.lst t1))] := by
  have e1 : rdV 1 (GK a t1) = .ok (.lst t1) [some (.fr (.exc a)), some (.fr (.lst t1))] := rfl
  have e2 : excAt 0 a (some (.m (.lst t2))) [some (.fr (.exc a)), some (.fr (.lst t1))] = .ok (.m (.lst t2)) [some (.fr (.exc a)), some (.fr (.lst t1))] := if_pos rfl
  have e3 : ((rdV 1).bind fun x => (excAt 0 a (some (.m (.lst t2)))).v.bind fun y => EM.opt (binD .add x y)) (GK a t1) = .ok (.m (.lst (t1 ++ t2))) [some (.fr (.exc a)), some (.fr (.lst t1))] := (bind_at e1).trans ((bind_at (v_at e2)).trans (opt_at (if_pos h)))
  unfold retE2
  rw [e3]
variable [tb : Tb]
/-- what _law_fault(lambda: ..) asks of the program -/
def FtG (K : PySem.W.Frag) (mg : Str → Option Value) (cx : CtxR) : Prop := ∃ (gA kA SE : Addr) (fdg fdk : FuncData) (pg : Arguments) (bg : List Stmt) (sg : Scope), FtK K mg "_law_fault" "_law_kinds" "StretchError" "call" "found" "e" "e" gA kA SE fdg fdk pg bg sg ∧ mg "_law_fault" = some (.ref gA) ∧
  ∀ c t, kindD cx c = some t → ∀ (P : Program) (w : World) (base : Heap), Tells P w K mg base 2 kA SE fdk "e" c t
theorem FtG.x {cx : CtxR} {X : Cx} (h : FtG X.K X.mg cx) : ∃ (gA kA SE : Addr) (fdg fdk : FuncData) (pg : Arguments) (bg : List Stmt) (sg : Scope), FtK X.K X.mg "_law_fault" "_law_kinds" "StretchError" "call" "found" "e" "e" gA kA SE fdg fdk pg bg sg ∧ X.mg "_law_fault" = some (.ref gA) ∧ (∀ c t, kindD cx c = some t → Tells X.prog X.w X.K X.mg X.base 2 kA SE fdk "e" c t) := by
  obtain ⟨gA, kA, SE, fdg, fdk, pg, bg, sg, h1, h2, h3⟩ := h
  exact ⟨gA, kA, SE, fdg, fdk, pg, bg, sg, h1, h2, fun c t e => h3 c t e _ _ _⟩
theorem ft_of {K : PySem.W.Frag} {mg : Str → Option Value} {cx : CtxR} {d : FtD} {fg fk fm : FuncData} (hx : d.textB cx = true) (txt : FtTxt d.g.body) (gk : ∀ x v, PySem.W.nsIn K mainGlobals x = some (some v) → mg x = some v) (hK : FtD.exB cx K = true)
    (Fg : FunD K d.g.x d.g.qual d.g.params d.g.body d.g.scope [] [] (He.ga K "_law_fault") fg) (bg : Binds K fg ["call"] []) (Fk : FunD K d.k.x d.k.qual d.k.params d.k.body d.k.scope [] [] (He.ga K "_law_kinds") fk) (bk : Binds K fk ["e"] [])
    (Fm : FunD K d.m.x d.m.qual d.m.params d.m.body d.m.scope [] [] (He.ga K "_law_more_kinds") fm) (bm : Binds K fm ["e"] []) (mi : mg "isinstance" = none) (ml : mg "len" = none) (mv : mg "ValueError" = none) (mr : mg "repr" = none) (sys : ∃ o, K.lookup sysModules = some o) : FtG K mg cx := by
  unfold FtD.textB at hx
  simp only [Bool.and_eq_true, decide_eq_true_eq] at hx
  obtain ⟨⟨⟨⟨⟨⟨⟨⟨⟨⟨t1, t2⟩, t3⟩, t4⟩, t5⟩, t6⟩, t7⟩, t8⟩, t9⟩, t10⟩, t11⟩ := hx
  unfold FtD.exB at hK
  simp only [Bool.and_eq_true] at hK
  obtain ⟨⟨⟨⟨⟨k1, k2⟩, k3⟩, k4⟩, k5⟩, k6⟩ := hK
  have gl : ∀ {x : Str}, gloB K x = true → mg x = some (.ref (He.ga K x)) := fun h => gk _ _ (of_decide_eq_true h)
  have g8 := fun x h => isKe (List.all_eq_true.mp t8 x h)
  refine ⟨_, He.ga K "_law_kinds", He.ga K "StretchError", fg, fk, d.g.params, d.g.body, d.g.scope, ?_, gl k2, fun c t e P w base => ?_⟩
  · rw [t10, t11] at Fg
    exact { F := Fg, S := scB_ok t4, b := bg, txt := txt, la := isKe t5, lf := isKe t6, le := isKe t7, na := by decide, nf := by decide, ne := by decide, nk := by decide, ns := by decide, gs := g8 _ (by decide), gg := g8 _ (by decide), gi := g8 _ (by decide), gl := g8 _ (by decide), gv := g8 _ (by decide),
            ms := gl k1, mgk := gl k3, mi := mi, ml := ml, mv := mv, kp := Fk.kp, bk := bk }
  · obtain ⟨hns, u1, u2, e1, e2, e3⟩ := told_split d.n e fun r hr => of_decide_eq_true (List.all_eq_true.mp t9 r hr)
    have hc := List.all_eq_true.mp k6 (c.C, c.ns) (look_mem hns)
    simp only [Bool.and_eq_true, decide_eq_true_eq] at hc
    obtain ⟨⟨⟨⟨⟨c1, c2⟩, c3⟩, c4⟩, c5⟩, c6⟩ := hc
    obtain ⟨cau, xf⟩ := excB_ok c1
    have kf : ∀ (p : PDef) (rs : List (Str × List Ki)) (B : Stmt → Bool), tlB p rs B = true → (∀ r ∈ rs, r ∈ cx.kinds) → KF K mg p.scope c rs "e" "found" ∧ FnScope ["e", "found"] ["e"] p.scope ∧ bodyB B "e" "found" rs p.body = true := fun p rs B h hrs => by
      unfold tlB at h
      simp only [Bool.and_eq_true] at h
      obtain ⟨⟨⟨⟨⟨⟨a1, a2⟩, a3⟩, a4⟩, a5⟩, a6⟩, a7⟩ := h
      refine ⟨{ cls := cau, xf := xf, nof := fun f hf => of_decide_eq_true (List.all_eq_true.mp c2 f hf), nd := c3, ve := .inl (isKe a2), ne := by decide, lf := isKe a3, nf := by decide, sys := sys, gi := isKe a4, mi := mi, gr := isKe a5, mr := mr, row := fun r hr => ?_ }, scB_ok a1, a7⟩
      have a := List.all_eq_true.mp a6 r hr
      rw [Bool.and_eq_true] at a
      exact ⟨isKe a.1, gl (List.all_eq_true.mp k5 r (hrs r hr)), a.2, of_decide_eq_true (List.all_eq_true.mp c4 r (hrs r hr))⟩
    obtain ⟨f1, s1, b1⟩ := kf _ _ _ t1 fun r h => List.mem_of_mem_take h
    obtain ⟨f2, s2, b2⟩ := kf _ _ _ t2 fun r h => List.mem_of_mem_drop h
    have l1 : u1.length < 1000000 ∧ u2.length < 1000000 := by rcases e3 with ⟨rfl, rfl⟩ | ⟨rfl, rfl⟩ <;> exact ⟨by simp, by simp⟩
    have o1 : FnK P w K mg base 1 (He.ga K "_law_more_kinds") fm "e" c u2 := FnK.by (k := 0) Fm s2 f2 b2 e2 l1.2 (fun _ => retE) (fun a => ⟨_, rfl⟩) fun cdv A outer s H F p dx vs kx hr hot st h => by
        letI : Tb := ⟨tb.T, F⟩
        letI : Wi := ⟨noE⟩
        exact retK_ok kx h
    have o1c := fun F => o1.cast F
    have o2 : FnK P w K mg base 2 (He.ga K "_law_kinds") fk "e" c [t] := FnK.by (k := 1) Fk s1 f1 b1 e1 l1.1 (fun a => retE2 a u2) (fun a => by
      rcases e3 with ⟨rfl, rfl⟩ | ⟨rfl, rfl⟩
      · exact ⟨_, retE2_G (by simp)⟩
      · exact ⟨_, retE2_G (by simp)⟩)
      fun cdv A outer s H F p dx vs kx hr hot st h => by
        have o3 := o1c F
        letI : Tb := ⟨tb.T, F⟩
        letI : Wi := ⟨noE⟩
        exact ret2_ok kx o3 hr ⟨hot.1, hot.2⟩ (isKe t3) (gl k4) Fm.kp bm (by decide) h
    exact ⟨o2, cau, c5, c6⟩
end Rf

set_option Elab.async false
set_option linter.all false
set_option maxRecDepth 100000
set_option maxHeartbeats 4000000
namespace Rf
open PySem PySem.Spec PyProof.Rows L2
variable [Tb]

/-! ### a whole program -/
def PC.prg (p : PC) : Prg := p.P.map fun d => (d.f, d.fn)
def PC.cc (p : PC) (d : PDef) : CC := ⟨d.scope, fun _ => true, d.N, p.fns, p.mks, p.cx, p.gcd, p.exs.map (·.c), 2, p.lam.contains d.f⟩
def visB (sc : Scope) (x : Str) : Bool := isK .local (sc.names.lookup x) || isK .cell (sc.names.lookup x) || isK .free (sc.names.lookup x)
theorem visB_ok {sc : Scope} {x : Str} (e : visB sc x = true) : Vis sc x := by
  unfold visB at e
  rw [Bool.or_eq_true, Bool.or_eq_true] at e
  unfold Vis
  rcases e with (e | e) | e
  · exact .inl (of_decide_eq_true e)
  · exact .inr (.inl (of_decide_eq_true e))
  · exact .inr (.inr (of_decide_eq_true e))
structure ExK (K : PySem.W.Frag) (mg : Str → Option Value) (e : EDef) : Prop where
  few : e.ns.length ≤ 900
  ne : e.ns ≠ []
  own : OexC K (He.ga K e.c)
  glo : mg e.c = some (.ref (He.ga K e.c))
  nof : ∀ g ∈ e.ns, PySem.W.findIn K (.ref (He.ga K e.c)) g = some none
  ini : ∃ fI fd, PySem.W.findIn K (.ref (He.ga K e.c)) "__init__" = some (some (.ref fI)) ∧ PySem.W.typeIn K (.ref fI) = some (.type "function") ∧ FunD K e.d.x e.d.qual e.d.params e.d.body e.d.scope [] [] fI fd ∧ Binds K fd e.d.ps []
  sc : FnScope e.d.ps e.d.ps e.d.scope
  ps : e.d.ps.length = e.ns.length + 1
  body : iniB e.d.ps (visB e.d.scope) (e.ns.zipIdx 1) e.d.body = true
theorem ExK.f {P : Program} {w : World} {K : PySem.W.Frag} {mg : Str → Option Value} {base : Heap} {e : EDef} (k : ExK K mg e) : ExF P w K mg base e.c e.ns := by
  obtain ⟨fI, fd, i1, i2, i3, i4⟩ := k.ini
  exact ⟨k.few, k.own, k.glo, fI, fd, e.d.ps, i1, i2, ini_ok i3 k.sc k.own rfl k.ps k.ne k.few k.nof (fun x hx => visB_ok hx) k.body, i4⟩
structure PrgOk (K : PySem.W.Frag) (mg : Str → Option Value) (p : PC) : Prop where
  own : OwnOk K mg p.cx
  free : ∀ x ∈ frees, mg x = none
  sys : ∃ o, K.lookup sysModules = some o
  gcd : p.gcd = true → mg "gcd" = some (.builtin "math.gcd")
  num : ∀ x i, p.cx.nums.lookup x = some i → ∃ t, mg x = some (.int i t)
  defs : ∀ d ∈ p.P, ∃ fd, FunD K d.x d.qual d.params d.body d.scope [] [] (He.fAd K d.at_) fd ∧ Binds K fd d.ps []
  sc : ∀ d ∈ p.P, FnScope d.N d.ps d.scope
  body : ∀ d ∈ p.P, mSs (p.cc d) d.fn.body d.body = true ∧ d.fn.ps = d.ps.length ∧ d.fn.n = d.N.length
  fns : ∀ f ∈ p.fns, ∃ d ∈ p.P, d.f = f ∧ He.fAd K d.at_ = He.ga K f ∧ mg f = some (.ref (He.ga K f))
  mks : ∀ c ∈ p.mks, c ∈ p.cx.cls.map (·.1) ∧ ∃ d ∈ p.P, d.f = c ++ ".__init__" ∧ He.fAd K d.at_ = He.ma K (He.ga K c) "__init__"
  nd : (p.P.map (·.f)).Nodup
  exs : ∀ e ∈ p.exs, p.cx.exc.lookup e.c = some e.ns ∧ ExK K mg e
  ft : p.lam ≠ [] → FtG K mg p.cx
/-- the tables of the defs that make lambdas -/
structure TabOk (K : PySem.W.Frag) (mg : Str → Option Value) (base : Heap) (p : PC) : Prop where
  tb : ∀ d ∈ p.P, d.f ∈ p.lam → LamX.TabB base mg (He.cT K d.at_).1 (He.cT K d.at_).2
  inT : ∀ d ∈ p.P, d.f ∈ p.lam → ((He.cT K d.at_).2, d.qual ++ ".<locals>." ++ "<lambda>") ∈ Tb.T
  one : ∀ d ∈ p.P, d.f ∈ p.lam → ∀ q ∈ Tb.T, q.1 = (He.cT K d.at_).2 → q.2 = d.qual ++ ".<locals>." ++ "<lambda>"
theorem lookup_nd : ∀ {l : List PDef} {d : PDef}, d ∈ l → (l.map (·.f)).Nodup → (l.map fun d => (d.f, d.fn)).lookup d.f = some d.fn
  | e :: l, d, hd, nd => by
    rw [List.map_cons, List.nodup_cons] at nd
    rw [List.map_cons, List.lookup_cons]
    rcases List.mem_cons.mp hd with rfl | hd
    · simp
    · have hne : d.f ≠ e.f := fun z => nd.1 (z ▸ List.mem_map_of_mem hd)
      rw [show (d.f == e.f) = false from beq_eq_false_iff_ne.mpr hne]
      exact lookup_nd hd nd.2
section
variable {P : Program} {w : World} {K : PySem.W.Frag} {mg : Str → Option Value} {base : Heap} {p : PC}
theorem start_pad {N : List Str} {vs : List V} : L2.start N vs = pad N.length (vs.map some) := by
  unfold L2.start pad
  rw [List.length_map]
theorem isArg_mu {args : List Sl} {n i : Nat} {m : M} (h : args.all isArg = true) (e : (padE n args)[i]? = some (some (.mu m))) : False := by
  letI : Wi := ⟨noE⟩
  have := List.all_eq_true.mp h _ (List.mem_of_getElem? (padE_at e))
  cases this
/-- a def by its body, wherever no repr runs around it -/
theorem FnG.by {x qual : Str} {params : Arguments} {body : List Stmt} {scope : Scope} {f : Addr} {fd : FuncData} {N ps : List Str} {k : Nat} {sp : Sp} (F : FunD K x qual params body scope [] [] f fd) (S : FnScope N ps scope) (len : ∀ vs H Q E, sp vs H Q E → vs.length = ps.length)
    (hb : ∀ (cdv : Value) (A : Around) (outer : List Env) (s : Shared) (H : Hp) (vs : List V) (Q : VK) (E : XK), fd.code = cdv → Room k (A.deeper (envOfC qual scope s.heap.objs.size f cdv)) → A.guards = some [] → sp vs H Q E →
      ∃ t, PSs (cxOf (L2N.CX P w) P w K mg base N qual scope f cdv A outer s H E) body t ∧ t { nx := fun _ H' => Q .non H', rt := Q } (L2.start N vs) H) : FnG P w K mg base (k + 1) f fd ps sp := by
  obtain ⟨_, _, _, _, _, _, _, cdv, _, _, e, l, c, _, _⟩ := F.ex
  subst e
  exact ⟨len, fun A outer s H args us vs Q E room g e0 b r h => LamX.run_ofS l c S room e0 b r (len vs H Q E h) fun room' => hb cdv A outer s H vs Q E rfl room' g h⟩
/-- what stands in for a def keeps its promise, at each level -/
theorem fn_ok (o : PrgOk K mg p) (tabs : TabOk K mg base p) : ∀ (n : Nat) (d : PDef), d ∈ p.P → ∃ fd, FunD K d.x d.qual d.params d.body d.scope [] [] (He.fAd K d.at_) fd ∧ Binds K fd d.ps [] ∧ FnG P w K mg base (4 * n + 1) (He.fAd K d.at_) fd d.ps (spF K (run0 p.cx p.prg n) d.f d.fn.n)
  | 0, d, hd => by
    obtain ⟨fd, h1, h2⟩ := o.defs d hd
    have no : ∀ vs H Q E, ¬ spF K (run0 p.cx p.prg 0) d.f d.fn.n vs H Q E := fun vs H Q E ⟨F, args, _, _, _, z⟩ => by
      rcases z with ⟨r, Γ', z, _⟩ | ⟨c, z, _⟩ <;> cases z
    exact ⟨fd, h1, h2, ⟨fun vs H Q E q => absurd q (no _ _ _ _), fun A outer s H args us vs Q E _ _ _ _ _ q => absurd q (no _ _ _ _)⟩⟩
  | n + 1, d, hd => by
    obtain ⟨fd, h1, h2⟩ := o.defs d hd
    obtain ⟨b1, b2, b3⟩ := o.body d hd
    have ih := fn_ok o tabs n
    have hpad : ∀ args : List Sl, args.length = d.fn.ps → args.map some ++ List.replicate (d.fn.n - d.fn.ps) none = padE d.fn.n args := fun args hl => by unfold padE; rw [hl]
    have hrun : ∀ args : List Sl, runF p.cx p.prg (run0 p.cx p.prg n) d.f args = if args.length = d.fn.ps then exs p.cx (run0 p.cx p.prg n) d.fn.body (args.map some ++ List.replicate (d.fn.n - d.fn.ps) none) else .no := fun args => by
      unfold runF
      rw [show p.prg.lookup d.f = some d.fn from lookup_nd hd o.nd]
    have run1 : ∀ {args : List Sl} {r : R} {Γ' : En}, (run0 p.cx p.prg (n + 1)).ok d.f args = some (r, Γ') → args.length = d.ps.length ∧ (exs p.cx (run0 p.cx p.prg n) d.fn.body (padE d.fn.n args) = .rt r Γ' ∨ (exs p.cx (run0 p.cx p.prg n) d.fn.body (padE d.fn.n args) = .nx Γ' ∧ r = .d .non)) := by
      intro args r Γ' e
      have e : (match runF p.cx p.prg (run0 p.cx p.prg n) d.f args with
        | .rt r Γ => some (r, Γ)
        | .nx Γ => some (.d .non, Γ)
        | _ => none) = some (r, Γ') := e
      rw [hrun] at e
      by_cases hl : args.length = d.fn.ps
      · rw [if_pos hl, hpad args hl] at e
        refine ⟨by rw [hl, b2], ?_⟩
        split at e
        · rename_i r0 G hx; cases e; exact .inl hx
        · rename_i G hx; cases e; exact .inr ⟨hx, rfl⟩
        · cases e
      · rw [if_neg hl] at e
        cases e
    have run2 : ∀ {args : List Sl} {c : Xc}, (run0 p.cx p.prg (n + 1)).ex d.f args = some c → args.length = d.ps.length ∧ exs p.cx (run0 p.cx p.prg n) d.fn.body (padE d.fn.n args) = .ex c := by
      intro args c e
      have e : (match runF p.cx p.prg (run0 p.cx p.prg n) d.f args with
        | .ex c => some c
        | _ => none) = some c := e
      rw [hrun] at e
      by_cases hl : args.length = d.fn.ps
      · rw [if_pos hl, hpad args hl] at e
        refine ⟨by rw [hl, b2], ?_⟩
        split at e
        · rename_i c0 hx; cases e; exact hx
        · cases e
      · rw [if_neg hl] at e
        cases e
    refine ⟨fd, h1, h2, ?_⟩
    refine FnG.by (k := 4 * n + 4) h1 (o.sc d hd) (fun vs H Q E h => ?_) (fun cdv A outer s H vs Q E hcd hr gu h => ?_)
    · obtain ⟨F, args, hl, _, _, h⟩ := h
      rw [hl]
      rcases h with ⟨r, Γ', e, _⟩ | ⟨c, e, _⟩
      · exact (run1 e).1
      · exact (run2 e).1
    · letI : Wi := ⟨E⟩
      refine ⟨rS K (exs p.cx (run0 p.cx p.prg n) d.fn.body), ?_, ?_⟩
      · refine ss_ok (C := p.cc d) ?_ (L2N.takes_of rfl rfl rfl rfl) d.fn.body d.body b1
        exact {
          N := rfl
          nd := (o.sc d hd).nd
          sc := rfl
          kind := (o.sc d hd).kind
          fn := fun _ => rfl
          calm := rfl
          xe := passes_of rfl
          own := o.own
          un := by
            have q := hr.un
            show (A.deeper (envOfC d.qual d.scope s.heap.objs.size (He.fAd K d.at_) cdv)).units + 65 < cLine
            omega
          gu := gu
          sys := o.sys
          free := o.free
          gcd := o.gcd
          num := o.num
          fns := fun f hf => by
            obtain ⟨d', hd', rfl, ha, hm⟩ := o.fns f hf
            obtain ⟨fd', g1, g2, g3⟩ := ih d' hd'
            have kp := g1.kp
            rw [ha] at g3 kp
            exact ⟨fd', d'.ps, d'.fn.n, 4 * n + 1, g3, hr, hm, kp, g2⟩
          mks := fun c hc => by
            obtain ⟨hcc, d', hd', hf, ha⟩ := o.mks c hc
            obtain ⟨fd', g1, g2, g3⟩ := ih d' hd'
            rw [ha, hf] at g3
            exact ⟨hcc, fd', d'.ps, d'.fn.n, 4 * n + 1, g3, hr, g2⟩
          ft := fun z => by
            have hl : d.f ∈ p.lam := List.contains_iff_mem.mp z
            obtain ⟨_, _, _, _, _, _, _, cd2, _, _, e2, l2, c2, _, _⟩ := h1.ex
            obtain ⟨c, rfl⟩ := He.codeIn_ref c2
            have e3 : fd.code = .ref c := by rw [e2]
            have e4 : He.codeOf K d.at_ = c := He.codeOf_eq l2 e3
            have tb := tabs.tb d hd hl
            rw [show (He.cT K d.at_).1 = c from e4] at tb
            exact ⟨FtG.x (o.ft fun z => by rw [z] at hl; cases hl), hr.mono (by omega), c, _, tb, hcd.symm.trans e3, tabs.inT d hd hl, tabs.one d hd hl⟩
          exs := fun c hc => by
            obtain ⟨e, he, rfl⟩ := List.mem_map.mp hc
            obtain ⟨g1, g2⟩ := o.exs e he
            exact ⟨e.ns, g1, g2.f, hr.mono (by omega)⟩ }
      · obtain ⟨F, args, hl, A0, ha, h⟩ := h
        rw [start_pad, ← b3]
        refine ⟨F, padE d.fn.n args, A0, ?_⟩
        rcases h with ⟨r, Γ', e, k⟩ | ⟨c, e, k⟩
        · obtain ⟨hla, e2⟩ := run1 e
          rcases e2 with e2 | ⟨e2, rfl⟩
          · rw [e2]
            intro v σ' F' H' s1 A1 ss rr
            refine k v σ' F' H' s1 A1 ss ?_
            cases r with
            | d d => exact rr
            | m m =>
              obtain ⟨a, z, q, q2⟩ := rr
              rcases q with ⟨i, m', z1, _⟩ | q
              · exact (isArg_mu ha z1).elim
              · exact ⟨a, z, q, q2⟩
          · rw [e2]
            intro σ' F' H' s1 A1 ss
            exact k .non σ' F' H' s1 A1 ss .non
        · obtain ⟨hla, e2⟩ := run2 e
          rw [e2]
          exact k
end
end Rf

set_option Elab.async false
set_option linter.all false
set_option maxRecDepth 100000
set_option maxHeartbeats 4000000
namespace Rf
open PySem PySem.Spec PyProof.Rows L2
/-! ### the law is called: the script, the empty tables -/
abbrev lsO (vs : List Value) : Obj := { cls := .type "list", data := .seq vs.toArray }
abbrev emO : Obj := { cls := .none, data := .fields #[] }
/-- the state at the law's call -/
structure AtLaw (K : PySem.W.Frag) (mg : Str → Option Value) (cs : List (Addr × Addr)) (s : Shared) (a : Addr) (vs : List Value) (ns : List Int) : Prop where
  kin : K.In s.heap
  glo : s.heap.Ns mainGlobals mg
  blt : ∃ mb : Str → Option Value, s.heap.Ns builtinsNs mb ∧ ∀ x : Str, x ≠ "__name__" → mb x = bootBuiltins x
  lim : s.heap.NoLimit
  gen : s.gens = #[]
  emp : ∀ p ∈ cs, s.heap.get? p.2 = some emO
  out : ∀ p ∈ cs, K.lookup p.2 = none
  hd : ∀ p ∈ cs, PySem.W.CodeHd s.heap p.1 p.2
  bm : ∃ (b : Addr) (o : Obj), mg "__builtins__" = some (.ref b) ∧ b ≠ builtinsNs ∧ s.heap.get? b = some o ∧ o.cls = .type "module" ∧ o.dict = some builtinsNs ∧ o.data = .plain
  scr : s.heap.get? a = some (lsO vs)
  inz : IntsAre vs ns
  few : ns.length ≤ sizeLine
/-- what is frozen there -/
def scrF (K : PySem.W.Frag) (a : Addr) (vs : List Value) (ns : List Int) : Hp := fun b => if b = a ∧ (K.lookup a).isNone = true then some (.frz (lsO vs) (.lst (ns.map V.int))) else none
def scrH (K : PySem.W.Frag) (cs : List (Addr × Addr)) (a : Addr) (vs : List Value) (ns : List Int) : Hp := fun b => if b ∈ cs.map (·.2) then some (.tbl #[]) else scrF K a vs ns b
section
variable {K : PySem.W.Frag} {mg : Str → Option Value} {cs : List (Addr × Addr)} {s : Shared} {a : Addr} {vs : List Value} {ns : List Int}
theorem scrF_some {b : Addr} {o : HO} (h : scrF K a vs ns b = some o) : b = a ∧ K.lookup a = none ∧ o = .frz (lsO vs) (.lst (ns.map V.int)) := by
  unfold scrF at h
  split at h
  · rename_i q
    cases h
    exact ⟨q.1, Option.isNone_iff_eq_none.mp q.2, rfl⟩
  · cases h
theorem AtLaw.tabAt (L : AtLaw K mg cs s a vs ns) {b : Addr} (hb : b ∈ cs.map (·.2)) : s.heap.get? b = some emO ∧ K.lookup b = none := by
  obtain ⟨p, hp, rfl⟩ := List.mem_map.mp hb
  exact ⟨L.emp p hp, L.out p hp⟩
theorem AtLaw.noTab (L : AtLaw K mg cs s a vs ns) : a ∉ cs.map (·.2) := fun z => by
  have q := (L.tabAt z).1
  rw [L.scr] at q
  have z' : Data.seq vs.toArray _ = Data.fields #[] := congrArg Obj.data (Option.some.inj q)
  cases z'
theorem AtLaw.same (L : AtLaw K mg cs s a vs ns) : Same (scrF K a vs ns) (scrH K cs a vs ns) := fun b o h => by
  obtain ⟨rfl, _, _⟩ := scrF_some h
  unfold scrH
  rw [if_neg L.noTab]
  exact h
theorem scrH_cases {b : Addr} {o : HO} (h : scrH K cs a vs ns b = some o) : (b ∈ cs.map (·.2) ∧ o = .tbl #[]) ∨ (b = a ∧ K.lookup a = none ∧ o = .frz (lsO vs) (.lst (ns.map V.int))) := by
  unfold scrH at h
  split at h
  · rename_i q
    cases h
    exact .inl ⟨q, rfl⟩
  · exact .inr (scrF_some h)
/-- all else is untouched -/
theorem AtLaw.free (L : AtLaw K mg cs s a vs ns) {b : Addr} {o : Obj} (e : s.heap.get? b = some o) (h1 : o.data ≠ .seq vs.toArray) (h2 : o.data ≠ .fields #[]) : scrH K cs a vs ns b = none := by
  cases q : scrH K cs a vs ns b with
  | none => rfl
  | some u =>
    rcases scrH_cases q with ⟨z, _⟩ | ⟨rfl, _, _⟩
    · rw [(L.tabAt z).1] at e
      cases e
      exact absurd rfl h2
    · rw [L.scr] at e
      cases e
      exact absurd rfl h1
theorem AtLaw.kfree (L : AtLaw K mg cs s a vs ns) {b : Addr} {o : Obj} (e : K.lookup b = some o) : scrH K cs a vs ns b = none := by
  cases q : scrH K cs a vs ns b with
  | none => rfl
  | some u =>
    rcases scrH_cases q with ⟨z, _⟩ | ⟨rfl, z, _⟩
    · rw [(L.tabAt z).2] at e; cases e
    · rw [z] at e; cases e
theorem AtLaw.nsx (L : AtLaw K mg cs s a vs ns) {b : Addr} {m : Str → Option Value} : s.heap.Ns b m → (hidT s.heap (scrH K cs a vs ns)).Ns b m := fun ⟨o, es, ep, e, d, r⟩ =>
  ⟨o, es, ep, hidT_get e (L.free e (fun z => by rw [d] at z; cases z) fun z => by rw [d] at z; cases z), d, r⟩
theorem AtLaw.kin' (L : AtLaw K mg cs s a vs ns) : K.In (hidT s.heap (scrH K cs a vs ns)) := fun b o e => hidT_get (L.kin b o e) (L.kfree e)
theorem AtLaw.tabB (L : AtLaw K mg cs s a vs ns) {p : Addr × Addr} (hp : p ∈ cs) : LamX.TabB (hidT s.heap (scrH K cs a vs ns)) mg p.1 p.2 := by
  have tE := L.emp p hp
  constructor
  · obtain ⟨o, us, file, tf, flags, tg, inF, text, tt, e1, r1, r2, r3, rest⟩ := L.hd p hp
    refine ⟨o, us, file, tf, flags, tg, inF, text, tt, hidT_get e1 (L.free e1 (fun z => by rw [r2] at z; cases z) fun z => ?_), r1, r2, r3, rest⟩
    rw [r2] at z
    cases z
    simp at r3
  · obtain ⟨b, o, b1, b2, b3, b4, b5, b6⟩ := L.bm
    refine ⟨b, o, b1, b2, fun q => ?_, fun q => ?_, hidT_get b3 (L.free b3 (fun z => by rw [b6] at z; cases z) fun z => by rw [b6] at z; cases z), b4, b5, b6⟩
    · obtain ⟨_, _, _, e, d, _⟩ := L.glo
      rw [← q, b3] at e
      cases e
      rw [b6] at d
      cases d
    · rw [q, tE] at b3
      cases b3
      cases b6
  · intro z
    obtain ⟨_, _, _, e, d, _⟩ := L.glo
    rw [z, tE] at e
    cases e
    cases d
theorem law_run {P : Program} {w : World} {k : Nat} {fa : Addr} {fd : FuncData} {x : Str} {sp : Sp} (L : AtLaw K mg cs s a vs ns) (room : Room k callerA)
    (F : ∀ base : Heap, K.In base → base.Ns mainGlobals mg → (∀ p ∈ cs, LamX.TabB base mg p.1 p.2) → FnG P w K mg base k fa fd [x] sp) (bnd : BindsTo s fd ⟨[.ref a], []⟩ [(x, .ref a)])
    (want : Same (scrF K a vs ns) (scrH K cs a vs ns) → (∀ p ∈ cs, scrH K cs a vs ns p.2 = some (.tbl #[])) → SqL K (scrF K a vs ns) a (ns.map V.int) → sp [.ref a] (scrH K cs a vs ns) (fun v _ => v = .bl true) noE) :
    codeAny (model P w) callerA (.call (.ref fa) ⟨[.ref a], []⟩) (fun r s' => r = .ok (.ret (.bool true)) ∧ OldK s.heap s'.heap ∧ s'.os = s.os ∧ AllBare s'.gens) s := by
  have rv := vals_ints L.inz
  have long : ns.length = vs.length := by rw [L.inz.length]
  have hT : ∀ p ∈ cs, scrH K cs a vs ns p.2 = some (.tbl #[]) := fun p hp => if_pos (List.mem_map.mpr ⟨p, hp, rfl⟩)
  have hS : SqL K (scrF K a vs ns) a (ns.map V.int) := by
    cases hk : K.lookup a with
    | none => exact .inl (.inr ⟨lsO vs, if_pos ⟨rfl, by rw [hk]; rfl⟩⟩)
    | some o =>
      have e := L.kin a o hk
      rw [L.scr] at e
      cases e
      exact .inr ⟨_, vs.toArray, _, hk, rfl, rfl, rfl, by rw [List.size_toArray, ← long]; exact L.few, by simpa using rv⟩
  have hok : HOk P w (scrH K cs a vs ns) s.heap := fun b o h => by
    rcases scrH_cases h with ⟨z, rfl⟩ | ⟨rfl, _, rfl⟩
    · exact (L.tabAt z).1
    · exact ⟨L.scr, by rw [List.length_map]; exact L.few, vs, _, rv, L.scr⟩
  obtain ⟨mb, nb, bb⟩ := L.blt
  have mod : L2.Mod K mg (hidT s.heap (scrH K cs a vs ns)) := ⟨L.kin', L.nsx L.glo, ⟨mb, L.nsx nb, bb⟩, by obtain ⟨mc, h1, h2⟩ := L.lim; exact ⟨mc, L.nsx h1, h2⟩⟩
  have env : Env0 P w K mg (hidT s.heap (scrH K cs a vs ns)) callerA [] s (scrH K cs a vs ns) :=
    { frames := rfl, mod := mod, bs := fun b o e => of_hidT e, bsz := Nat.le_of_eq (hidT_size _ _), funs := trivial, frf := fun b hb => absurd (show b ∈ ([] : List Addr) from hb) (by simp), hok := hok, bare := .of_eq L.gen }
  refine codeAny_mono ((F _ L.kin' (L.nsx L.glo) fun p hp => L.tabB hp).run callerA [] s _ ⟨[.ref a], []⟩ [.ref a] [.ref a] _ noE room rfl env bnd (.cons rfl .nil) (want L.same hT hS)) fun res t done => ?_
  match res, done with
  | .error e, done =>
    obtain ⟨_, _, _, _, _, _, _, _, _, _, _, _, z⟩ := done
    exact z.elim
  | .ok .next, done => exact done.elim
  | .ok .brk, done => exact done.elim
  | .ok .cont, done => exact done.elim
  | .ok (.ret u), done =>
    obtain ⟨v, H', os, bare, un, hok', rel, rfl⟩ := done
    cases (show u = Value.bool true from rel)
    have nil : ∀ b : Addr, b ∉ frs [] := fun b z => nomatch (show b ∈ ([] : List Addr) from z)
    have kept : ∀ b o, b ∉ cs.map (·.2) → s.heap.get? b = some o → t.heap.get? b = some o := fun b o out e => by
      cases q : scrH K cs a vs ns b with
      | none => exact un.keep b o e q (nil b) (by simp)
      | some u =>
        rcases scrH_cases q with ⟨z, _⟩ | ⟨_, _, rfl⟩
        · exact absurd z out
        · have z1 := (hok b _ q).1
          rw [e] at z1
          cases z1
          exact (hok' b _ (un.frzs b _ _ q)).1
    have more : ∀ p ∈ cs, ∃ m : Array Value, t.heap.get? p.2 = some { cls := .none, data := .fields m } := fun p hp => by
      obtain ⟨m, z⟩ := un.tbls p.2 #[] (hT p hp)
      exact ⟨_, hok' p.2 _ z⟩
    refine ⟨rfl, ⟨fun b o e => ?_, fun b o e => ?_⟩, os, bare⟩
    · by_cases hb : b ∈ cs.map (·.2)
      · obtain ⟨p, hp, rfl⟩ := List.mem_map.mp hb
        obtain ⟨m, hm⟩ := more p hp
        rw [L.emp p hp] at e
        cases e
        exact .inr (.inl ⟨((L.hd p hp).tab (L.emp p hp)).isCodeTable, rfl, #[], m, rfl, by rw [Array.empty_append]; exact hm⟩)
      · exact .inl (kept b o hb e)
    · by_cases hb : b ∈ cs.map (·.2)
      · obtain ⟨p, hp, rfl⟩ := List.mem_map.mp hb
        obtain ⟨m, hm⟩ := more p hp
        exact ⟨_, hm⟩
      · exact ⟨o, kept b o hb e⟩
end
end Rf

set_option Elab.async false
set_option linter.all false
set_option maxRecDepth 100000
set_option maxHeartbeats 4000000
namespace Rf
open PySem PySem.Spec PyProof.Rows L2

/-! ### a program by a Bool -/
theorem oexB_ok {K : PySem.W.Frag} {C : Addr} (h : oexB K C = true) : OexC K C := by
  unfold oexB at h
  simp only [Bool.and_eq_true, decide_eq_true_eq] at h
  obtain ⟨⟨⟨⟨h1, h2⟩, h3⟩, h4⟩, h5⟩ := h
  refine ⟨?_, h2, h3, h4, h5⟩
  split at h1
  · rename_i t dd c sl hk
    simp only [Bool.and_eq_true, decide_eq_true_eq, Bool.not_eq_true'] at h1
    obtain ⟨⟨⟨⟨rfl, m⟩, hd⟩, dl⟩, s⟩ := h1
    obtain ⟨nm, bs, mro, N, q, hdct, sn, sub, ab, col, del⟩ := c
    dsimp only at m hd dl hk
    subst hd dl
    split at m
    · rename_i C' bm
      rw [Bool.and_eq_true, decide_eq_true_eq] at m
      obtain ⟨rfl, mb⟩ := m
      split at s
      · rename_i k0 k1 k2 k3 id k5 hs
        rw [decide_eq_true_eq] at s
        subst s
        refine ⟨nm, q, N, bs, bm, sn, sub, ab, col, dd, k0, k1, k2, k3, k5, ?_, mb⟩
        rw [hk]
        have e : sl = #[k0, k1, k2, k3, some (.builtin "ValueError.__new__"), k5] := Array.toList_inj.mp hs
        rw [e]
      · cases s
    · cases m
  · cases h1
def EDef.textB (cx : CtxR) (e : EDef) : Bool := decide (e.ns.length ≤ 900) && !e.ns.isEmpty && scB e.d.ps e.d.ps e.d.scope && decide (e.d.ps.length = e.ns.length + 1) && iniB e.d.ps (visB e.d.scope) (e.ns.zipIdx 1) e.d.body && decide (cx.exc.lookup e.c = some e.ns) && decide (e.d.at_ = (e.c, some ("__init__" : Str)))
def PC.okD (p : PC) (d : PDef) : Bool := scB d.N d.ps d.scope && mSs (p.cc d) d.fn.body d.body && decide (d.fn.ps = d.ps.length) && decide (d.fn.n = d.N.length)
def PC.ftB (p : PC) : Bool := match p.ft with
  | some d => d.textB p.cx && decide (d.g.at_ = (("_law_fault" : Str), none)) && decide (d.k.at_ = (("_law_kinds" : Str), none)) && decide (d.m.at_ = (("_law_more_kinds" : Str), none)) && decide (d.g.ps = [("call" : Str)]) && decide (d.k.ps = [("e" : Str)]) && decide (d.m.ps = [("e" : Str)])
  | none => p.lam.isEmpty
def PC.ok (p : PC) : Bool := (p.P.all p.okD) && (p.fns.all fun f => p.P.any fun d => decide (d.f = f) && decide (d.at_ = (f, none))) &&
  (p.mks.all fun c => (p.cx.cls.map (·.1)).contains c && p.P.any fun d => decide (d.f = c ++ ".__init__") && decide (d.at_ = (c, some ("__init__" : Str)))) && decide (p.P.map (·.f)).Nodup && p.exs.all (EDef.textB p.cx) && p.ftB
def BindOk (d : PDef) : Prop := ∀ (kV doc pm : Value) (an : Option Addr) (cdv ct : Value) (us : List Value), us.length = d.ps.length → bindArgs (PySem.W.fnOf d.x d.qual d.params d.body d.scope .none kV doc pm an cdv ct) ⟨us, []⟩ = pure (d.ps.zip us)
inductive AllB : List PDef → Prop
  | nil : AllB []
  | cons {d : PDef} {l : List PDef} : BindOk d → AllB l → AllB (d :: l)
theorem AllB.app {l m : List PDef} : AllB l → AllB m → AllB (l ++ m)
  | .nil, h => h
  | .cons b r, h => .cons b (r.app h)
theorem AllB.all {l : List PDef} : AllB l → ∀ d ∈ l, BindOk d
  | .nil, _, h => nomatch h
  | .cons b r, d, h => by
    rcases List.mem_cons.mp h with rfl | h
    · exact b
    · exact r.all d h
/-- what the text alone does not say by a Bool -/
structure PC.Bd (p : PC) : Prop where
  b : ∀ d ∈ p.P, BindOk d
  x : ∀ e ∈ p.exs, BindOk e.d
  f : ∀ d, p.ft = some d → BindOk d.g ∧ BindOk d.k ∧ BindOk d.m ∧ FtTxt d.g.body
/-- the tables, told -/
def PC.tabT (p : PC) (K : PySem.W.Frag) : List (Addr × Str) := p.lamP.map fun d => ((He.cT K d.at_).2, d.qual ++ ".<locals>." ++ "<lambda>")
def PC.cs (p : PC) (K : PySem.W.Frag) : List (Addr × Addr) := p.lamP.map fun d => He.cT K d.at_
theorem nodup_key {α β γ : Type} {f : α → β} {g : α → γ} : ∀ {l : List α}, (l.map f).Nodup → ∀ {x y : α}, x ∈ l → y ∈ l → f y = f x → g y = g x
  | [], _, x, y, hx, _, _ => nomatch hx
  | z :: l, nd, x, y, hx, hy, h => by
    rw [List.map_cons, List.nodup_cons] at nd
    rcases List.mem_cons.mp hx with ex | h1 <;> rcases List.mem_cons.mp hy with ey | h2
    · rw [ex, ey]
    · exact absurd (ex ▸ h ▸ List.mem_map_of_mem (f := f) h2) nd.1
    · exact absurd (ey ▸ h.symm ▸ List.mem_map_of_mem (f := f) h1) nd.1
    · exact nodup_key nd.2 h1 h2 h
section
variable {p : PC} {w : World} {h : Heap} {K : PySem.W.Frag} {mg : Str → Option Value}
theorem mem_lamP {d : PDef} : d ∈ p.lamP ↔ d ∈ p.P ∧ d.f ∈ p.lam := by
  unfold PC.lamP
  rw [List.mem_filter, List.contains_iff_mem]
theorem prg_ok [Tb] (KX : K.In h) (G : h.Ns mainGlobals mg) (c : He.SaysX p.fa p.dds [] p.tf p.ex w h K) (hok : p.ok = true) (hb : p.Bd) : PrgOk K mg p := by
  have cd := He.SaysT.d c.t
  have ce := c.more
  unfold PC.ex at ce
  simp only [Bool.and_eq_true, decide_eq_true_eq] at ce
  obtain ⟨⟨⟨⟨⟨c1, c2⟩, c3⟩, c4⟩, c5⟩, c6⟩ := ce
  unfold PC.ok at hok
  simp only [Bool.and_eq_true, decide_eq_true_eq] at hok
  obtain ⟨⟨⟨⟨⟨k1, k2⟩, k3⟩, k4⟩, k5⟩, k6⟩ := hok
  have sys : ∃ o, K.lookup sysModules = some o := Option.isSome_iff_exists.mp c3
  have kd' : ∀ d ∈ p.P, scB d.N d.ps d.scope = true ∧ mSs (p.cc d) d.fn.body d.body = true ∧ d.fn.ps = d.ps.length ∧ d.fn.n = d.N.length := fun d hd => by
    have := List.all_eq_true.mp k1 d hd
    unfold PC.okD at this
    simp only [Bool.and_eq_true, decide_eq_true_eq] at this
    exact ⟨this.1.1.1, this.1.1.2, this.1.2, this.2⟩
  have fun_of : ∀ d ∈ p.P ++ (p.ftl ++ p.exs.map (·.d)), BindOk d → ∃ fd, FunD K d.x d.qual d.params d.body d.scope [] [] (He.fAd K d.at_) fd ∧ Binds K fd d.ps [] := fun d hd b => by
    obtain ⟨fd, F⟩ := cd.defs (d := d.dd) (List.mem_map_of_mem hd)
    exact ⟨fd, F, FunD.bindsN F b⟩
  have free : ∀ x ∈ frees ++ [("ValueError" : Str)], mg x = none := fun x hx => He.free_ok KX G (cd.facts (List.mem_append_left _ (List.mem_map_of_mem hx)))
  refine ⟨ownB_ok KX G c1, fun x hx => free x (List.mem_append_left _ hx), sys, fun hg => ?_, fun x i hx => He.int_ok KX G (cd.facts ?_), fun d hd => fun_of d (List.mem_append_left _ hd) (hb.b d hd), fun d hd => scB_ok (kd' d hd).1, fun d hd => (kd' d hd).2, fun f hf => ?_, fun cn hc => ?_, k4, fun e he => ?_, fun hl => ?_⟩
  · rw [hg] at c2
    exact PySem.W.mg_of KX G (of_decide_eq_true c2)
  · exact List.mem_append_right _ (List.mem_append_right _ (List.mem_map.mpr ⟨(x, i), look_mem hx, rfl⟩))
  · have := List.all_eq_true.mp k2 f hf
    obtain ⟨d, hd, q⟩ := List.any_eq_true.mp this
    rw [Bool.and_eq_true, decide_eq_true_eq, decide_eq_true_eq] at q
    exact ⟨d, hd, q.1, by rw [q.2]; rfl, He.glo_ok KX G (cd.facts (List.mem_append_right _ (List.mem_append_left _ (List.mem_map_of_mem hf))))⟩
  · have := List.all_eq_true.mp k3 cn hc
    rw [Bool.and_eq_true] at this
    obtain ⟨d, hd, q⟩ := List.any_eq_true.mp this.2
    rw [Bool.and_eq_true, decide_eq_true_eq, decide_eq_true_eq] at q
    exact ⟨mem_cls this.1, d, hd, q.1, by rw [q.2]; rfl⟩
  · have t := List.all_eq_true.mp k5 e he
    unfold EDef.textB at t
    simp only [Bool.and_eq_true, decide_eq_true_eq, Bool.not_eq_true'] at t
    obtain ⟨⟨⟨⟨⟨⟨t1, t2⟩, t3⟩, t4⟩, t5⟩, t6⟩, t7⟩ := t
    have u := List.all_eq_true.mp c4 e he
    unfold EDef.exB at u
    simp only [Bool.and_eq_true, decide_eq_true_eq] at u
    obtain ⟨⟨⟨⟨u1, u2⟩, u3⟩, u4⟩, u5⟩ := u
    obtain ⟨fd, F, B⟩ := fun_of e.d (List.mem_append_right _ (List.mem_append_right _ (List.mem_map_of_mem he))) (hb.x e he)
    rw [t7] at F
    exact ⟨t6, { few := t1, ne := (fun z => by rw [z] at t2; cases t2), own := oexB_ok u1, glo := PySem.W.mg_of KX G (of_decide_eq_true u2), nof := fun g hg => of_decide_eq_true (List.all_eq_true.mp u3 g hg), ini := ⟨_, fd, u4, u5, F, B⟩, sc := scB_ok t3, ps := t4, body := t5 }⟩
  · unfold PC.ftB at k6
    split at k6
    · rename_i d hd
      simp only [Bool.and_eq_true, decide_eq_true_eq] at k6
      obtain ⟨⟨⟨⟨⟨⟨a1, a2⟩, a3⟩, a4⟩, a5⟩, a6⟩, a7⟩ := k6
      obtain ⟨b1, b2, b3, b4⟩ := hb.f d hd
      have inl : ∀ q ∈ d.all, q ∈ p.P ++ (p.ftl ++ p.exs.map (·.d)) := fun q hq => List.mem_append_right _ (List.mem_append_left _ (by unfold PC.ftl; rw [hd]; exact hq))
      obtain ⟨fg, Fg, Bg⟩ := fun_of d.g (inl _ (by simp [FtD.all])) b1
      obtain ⟨fk, Fk, Bk⟩ := fun_of d.k (inl _ (by simp [FtD.all])) b2
      obtain ⟨fm, Fm, Bm⟩ := fun_of d.m (inl _ (by simp [FtD.all])) b3
      rw [a2] at Fg
      rw [a3] at Fk
      rw [a4] at Fm
      rw [a5] at Bg
      rw [a6] at Bk
      rw [a7] at Bm
      have ex : FtD.exB p.cx K = true := by rw [hd] at c5; simpa using c5
      exact ft_of a1 b4 (fun x v e => PySem.W.mg_of KX G e) ex Fg Bg Fk Bk Fm Bm (free _ (by decide)) (free _ (by decide)) (free _ (by decide)) (free _ (by decide)) sys
    · exact absurd (List.isEmpty_iff.mp k6) hl
theorem tab_ok {base : Heap} (c : He.SaysX p.fa p.dds [] p.tf p.ex w h K) (tb : ∀ q ∈ p.cs K, LamX.TabB base mg q.1 q.2) : @TabOk ⟨p.tabT K, fun _ => none⟩ K mg base p := by
  have ce := c.more
  unfold PC.ex at ce
  simp only [Bool.and_eq_true, decide_eq_true_eq] at ce
  have nd := ce.2
  refine @TabOk.mk ⟨p.tabT K, fun _ => none⟩ K mg base p (fun d hd hl => tb _ (List.mem_map.mpr ⟨d, mem_lamP.mpr ⟨hd, hl⟩, rfl⟩)) (fun d hd hl => List.mem_map.mpr ⟨d, mem_lamP.mpr ⟨hd, hl⟩, rfl⟩) fun d hd hl q hq e => ?_
  obtain ⟨d', hd', rfl⟩ := List.mem_map.mp hq
  exact nodup_key (f := fun d => (He.cT K d.at_).2) (g := fun d : PDef => d.qual ++ (".<locals>." : Str) ++ ("<lambda>" : Str)) nd (mem_lamP.mpr ⟨hd, hl⟩) hd' e
theorem FunD_inj {x qual : Str} {params : Arguments} {body : List Stmt} {scope : Scope} {dvs : List V} {kws : List (Str × V)} {f : Addr} {fd fd' : FuncData} (A : FunD K x qual params body scope dvs kws f fd) (B : FunD K x qual params body scope dvs kws f fd') : fd = fd' := by
  obtain ⟨_, _, _, _, _, _, _, _, _, _, _, l1, _⟩ := A.ex
  obtain ⟨_, _, _, _, _, _, _, _, _, _, _, l2, _⟩ := B.ex
  rw [l1] at l2
  cases l2
  rfl
/-- the law's call, once the program is known -/
theorem law_ok {d : PDef} {P : Program} {fa a : Addr} {s : Shared} {vs : List Value} {ns : List Int} (n : Nat) (c : He.SaysX p.fa p.dds [] p.tf p.ex w s.heap K) (hok : p.ok = true) (hb : p.Bd)
    (hd : d ∈ p.P) (hf : d.f = "law") (hl : ("law" : Str) ∈ p.fns) (hat : d.at_ = (("law" : Str), none)) (hp : d.ps = [("script" : Str)]) (hm : mg "law" = some (.ref fa)) (room : Room (4 * n + 1) callerA) (L : AtLaw K mg (p.cs K) s a vs ns)
    (law : ∃ Γ, (run0 p.cx p.prg n).ok "law" [.fr (.scr ns)] = some (.d (.bl true), Γ)) :
    codeAny (model P w) callerA (.call (.ref fa) ⟨[.ref a], []⟩) (fun r s' => r = .ok (.ret (.bool true)) ∧ OldK s.heap s'.heap ∧ s'.os = s.os ∧ AllBare s'.gens) s := by
  letI : Tb := ⟨p.tabT K, fun _ => none⟩
  have o := prg_ok L.kin L.glo c hok hb
  obtain ⟨d0, _, _, _, hm'⟩ := o.fns _ hl
  have hfa : He.ga K "law" = fa := by
    rw [hm] at hm'
    exact (Value.ref.inj (Option.some.inj hm')).symm
  obtain ⟨fd, F⟩ := (He.SaysT.d c.t).defs (d := d.dd) (List.mem_map_of_mem (List.mem_append_left _ hd))
  have bA := FunD.bindsA F (hb.b d hd) s [.ref a] (by rw [hp]; rfl)
  rw [hp] at bA
  refine law_run (k := 4 * n + 1) (fd := fd) (x := "script") (sp := spF K (run0 p.cx p.prg n) "law" d.fn.n) L room (fun base _ _ tb => ?_) bA fun same tabs sq => ?_
  · obtain ⟨fd', F', _, q⟩ := fn_ok (P := P) (w := w) (base := base) o (tab_ok c tb) n d hd
    have e : fd' = fd := FunD_inj F' F
    subst e
    rw [show He.fAd K d.at_ = fa by rw [hat]; exact hfa, hf, hp] at q
    exact q
  · obtain ⟨Γ, e⟩ := law
    letI : Wi := ⟨noE⟩
    have tab : TabF (p.tabT K) (scrF K a vs ns) (scrH K (p.cs K) a vs ns) := ⟨fun q hq => by
      obtain ⟨d', hd', rfl⟩ := List.mem_map.mp hq
      exact LamX.TabS.nil (tabs _ (List.mem_map.mpr ⟨d', hd', rfl⟩)), fun b ps z => by
      obtain ⟨_, _, z⟩ := scrF_some z
      cases z⟩
    refine ⟨scrF K a vs ns, [.fr (.scr ns)], rfl, at_args (ds := [.scr ns]) tab (fun _ _ z => nomatch z) same (.cons (.scr sq) .nil), rfl, .inl ⟨_, Γ, e, fun v σ' F' H' s1 A1 ss rr => ?_⟩⟩
    cases (show Rep K F' v (.bl true) from rr)
    rfl
end
/-! ### the head's hook: with the table of modules -/
/-- a law's row by all that -/
theorem law_walk {l : PySem.W.OpenLaw} {n m : Nat} {q : Program} {loose : List Str} {XP : (Str → Option Value) → Heap → Prop} {p : PC} {d : DefRec} {dl : PDef} (hn : l.most = some n) (hn2 : n ≤ sizeLine) (hdf : d.params.defaults = []) (nm : d.name = "law") (room : Room (4 * m + 1) callerA) (hok : p.ok = true) (hb : p.Bd)
    (hd : dl ∈ p.P) (hf : dl.f = "law") (hl : ("law" : Str) ∈ p.fns) (hat : dl.at_ = (("law" : Str), none)) (hp : dl.ps = [("script" : Str)])
    (law : ∀ ns : List Int, ns.length ≤ n → (∀ z ∈ ns, Builtin.Int.intBits z ≤ 1048576) → ∃ Γ, (run p.cx p.prg m).ok "law" [.fr (.scr ns)] = some (.d (.bl true), Γ)) :
    PySem.W.WalkO q loose XP (fun w h => (hookK 4 p.fa p.dds p.tf p.ex).says w h) l.row.toRowW d [] (fun f vs => PySem.call f vs) := by
  refine Att.attach_callB hn hdf fun w s₀ s₁ mg mb fa o pm cd doc a vs ns G Y ho hd' hcd hmg hobj hints hlen hbits hg => ?_
  obtain ⟨K, KX, c⟩ := Y
  rw [nm] at hmg
  refine law_ok m c hok hb hd hf hl hat hp hmg room { kin := KX, glo := G.T.g, blt := ⟨mb, G.T.b, G.T.builtins⟩, lim := G.T.nolimit, gen := hg, emp := fun r hr => ?_, out := fun r hr => ?_, hd := fun r hr => ?_, bm := G.T.bmain, scr := hobj, inz := hints, few := Nat.le_trans hlen hn2 } (by have q := law ns hlen hbits; rwa [run_def] at q)
  all_goals obtain ⟨e, he, rfl⟩ := List.mem_map.mp hr
  · exact c.empty e.at_ (List.mem_map_of_mem he)
  · exact c.out e.at_ (List.mem_map_of_mem he)
  · exact PySem.W.codeHd_of_K KX (c.hd e.at_ (List.mem_map_of_mem he))
end Rf

set_option Elab.async false
set_option linter.all false
set_option maxRecDepth 100000
set_option maxHeartbeats 0
namespace RfL
open PySem PySem.Spec PyProof.Rows L2 Rf
theorem b_is_integer : BindOk p_is_integer := fun _ _ _ _ _ _ us hl => match us, hl with | [_], _ => rfl
theorem b_is_ratio : BindOk p_is_ratio := fun _ _ _ _ _ _ us hl => match us, hl with | [_], _ => rfl
theorem b_pair : BindOk p_pair := fun _ _ _ _ _ _ us hl => match us, hl with | [_], _ => rfl
theorem b_in_lowest : BindOk p_in_lowest := fun _ _ _ _ _ _ us hl => match us, hl with | [_, _], _ => rfl
theorem b_ratio : BindOk p_ratio := fun _ _ _ _ _ _ us hl => match us, hl with | [_, _], _ => rfl
theorem b_need_ratios : BindOk p_need_ratios := fun _ _ _ _ _ _ us hl => match us, hl with | [_, _], _ => rfl
theorem b_plus : BindOk p_plus := fun _ _ _ _ _ _ us hl => match us, hl with | [_, _], _ => rfl
theorem b_added : BindOk p_added := fun _ _ _ _ _ _ us hl => match us, hl with | [_, _], _ => rfl
theorem b_minus : BindOk p_minus := fun _ _ _ _ _ _ us hl => match us, hl with | [_, _], _ => rfl
theorem b_opposite : BindOk p_opposite := fun _ _ _ _ _ _ us hl => match us, hl with | [_], _ => rfl
theorem b_times : BindOk p_times := fun _ _ _ _ _ _ us hl => match us, hl with | [_, _], _ => rfl
theorem b_multiplied : BindOk p_multiplied := fun _ _ _ _ _ _ us hl => match us, hl with | [_, _], _ => rfl
theorem b_over : BindOk p_over := fun _ _ _ _ _ _ us hl => match us, hl with | [_, _], _ => rfl
theorem b_divided : BindOk p_divided := fun _ _ _ _ _ _ us hl => match us, hl with | [_, _], _ => rfl
theorem b_sign : BindOk p_sign := fun _ _ _ _ _ _ us hl => match us, hl with | [_], _ => rfl
theorem b_sign_of : BindOk p_sign_of := fun _ _ _ _ _ _ us hl => match us, hl with | [_], _ => rfl
theorem b_below : BindOk p_below := fun _ _ _ _ _ _ us hl => match us, hl with | [_, _], _ => rfl
theorem b_is_below : BindOk p_is_below := fun _ _ _ _ _ _ us hl => match us, hl with | [_, _], _ => rfl
theorem b_dot : BindOk p_dot := fun _ _ _ _ _ _ us hl => match us, hl with | [_, _], _ => rfl
theorem b_summed : BindOk p_summed := fun _ _ _ _ _ _ us hl => match us, hl with | [_, _], _ => rfl
theorem b__law_pen : BindOk p__law_pen := fun _ _ _ _ _ _ us hl => match us, hl with | [_], _ => rfl
theorem b__law_draw : BindOk p__law_draw := fun _ _ _ _ _ _ us hl => match us, hl with | [_, _], _ => rfl
theorem b__law_pick : BindOk p__law_pick := fun _ _ _ _ _ _ us hl => match us, hl with | [_, _], _ => rfl
theorem b__law_is : BindOk p__law_is := fun _ _ _ _ _ _ us hl => match us, hl with | [_, _], _ => rfl
theorem b__law_says : BindOk p__law_says := fun _ _ _ _ _ _ us hl => match us, hl with | [_, _], _ => rfl
theorem b__law_divisor : BindOk p__law_divisor := fun _ _ _ _ _ _ us hl => match us, hl with | [_, _], _ => rfl
theorem b__law_low : BindOk p__law_low := fun _ _ _ _ _ _ us hl => match us, hl with | [_, _], _ => rfl
theorem b__law_pair : BindOk p__law_pair := fun _ _ _ _ _ _ us hl => match us, hl with | [_], _ => rfl
theorem b__law_plus : BindOk p__law_plus := fun _ _ _ _ _ _ us hl => match us, hl with | [_, _], _ => rfl
theorem b__law_opposite : BindOk p__law_opposite := fun _ _ _ _ _ _ us hl => match us, hl with | [_], _ => rfl
theorem b__law_minus : BindOk p__law_minus := fun _ _ _ _ _ _ us hl => match us, hl with | [_, _], _ => rfl
theorem b__law_times : BindOk p__law_times := fun _ _ _ _ _ _ us hl => match us, hl with | [_, _], _ => rfl
theorem b__law_over : BindOk p__law_over := fun _ _ _ _ _ _ us hl => match us, hl with | [_, _], _ => rfl
theorem b__law_sign : BindOk p__law_sign := fun _ _ _ _ _ _ us hl => match us, hl with | [_], _ => rfl
theorem b__law_less : BindOk p__law_less := fun _ _ _ _ _ _ us hl => match us, hl with | [_, _], _ => rfl
theorem b__law_dot : BindOk p__law_dot := fun _ _ _ _ _ _ us hl => match us, hl with | [_, _], _ => rfl
theorem b__law_is_list : BindOk p__law_is_list := fun _ _ _ _ _ _ us hl => match us, hl with | [_], _ => rfl
theorem b__law_is_ratio : BindOk p__law_is_ratio := fun _ _ _ _ _ _ us hl => match us, hl with | [_], _ => rfl
theorem b__law_is_whole : BindOk p__law_is_whole := fun _ _ _ _ _ _ us hl => match us, hl with | [_], _ => rfl
theorem b__law_is_any_row : BindOk p__law_is_any_row := fun _ _ _ _ _ _ us hl => match us, hl with | [_, _], _ => rfl
theorem b__law_number : BindOk p__law_number := fun _ _ _ _ _ _ us hl => match us, hl with | [_, _], _ => rfl
theorem b__law_wide : BindOk p__law_wide := fun _ _ _ _ _ _ us hl => match us, hl with | [_, _], _ => rfl
theorem b__law_size : BindOk p__law_size := fun _ _ _ _ _ _ us hl => match us, hl with | [_], _ => rfl
theorem b__law_row : BindOk p__law_row := fun _ _ _ _ _ _ us hl => match us, hl with | [_, _, _], _ => rfl
theorem b__law_odd : BindOk p__law_odd := fun _ _ _ _ _ _ us hl => match us, hl with | [_], _ => rfl
theorem b__law_bent_row : BindOk p__law_bent_row := fun _ _ _ _ _ _ us hl => match us, hl with | [_, _], _ => rfl
theorem b__law_made_right : BindOk p__law_made_right := fun _ _ _ _ _ _ us hl => match us, hl with | [_], _ => rfl
theorem b__law_reckoned_right : BindOk p__law_reckoned_right := fun _ _ _ _ _ _ us hl => match us, hl with | [_, _], _ => rfl
theorem b__law_refused_right : BindOk p__law_refused_right := fun _ _ _ _ _ _ us hl => match us, hl with | [_, _], _ => rfl
theorem b__law_rows_right : BindOk p__law_rows_right := fun _ _ _ _ _ _ us hl => match us, hl with | [_], _ => rfl
theorem b_law : BindOk p_law := fun _ _ _ _ _ _ us hl => match us, hl with | [_], _ => rfl
theorem bx_BadNumber : BindOk px_BadNumber := fun _ _ _ _ _ _ us hl => match us, hl with | [_, _, _], _ => rfl
theorem bx_BadRow : BindOk px_BadRow := fun _ _ _ _ _ _ us hl => match us, hl with | [_, _, _], _ => rfl
theorem bx_Unlike : BindOk px_Unlike := fun _ _ _ _ _ _ us hl => match us, hl with | [_, _], _ => rfl
theorem bt_law_fault : BindOk pt_law_fault := fun _ _ _ _ _ _ us hl => match us, hl with | [_], _ => rfl
theorem bt_law_kinds : BindOk pt_law_kinds := fun _ _ _ _ _ _ us hl => match us, hl with | [_], _ => rfl
theorem bt_law_more_kinds : BindOk pt_law_more_kinds := fun _ _ _ _ _ _ us hl => match us, hl with | [_], _ => rfl
theorem ftx : FtTxt pt_law_fault.body := ⟨_, _, _, _, _, _, _, _, _, _, _, _, _, _, rfl, _, _, _, _, _, _, _, _, _, _, _, _, _, _, _, _, _, _, _, _, _, _, _, _, _, _, _, _, _, _, rfl, rfl⟩
theorem pc_ok : pc.ok = true := by kernel_rfl
theorem bs0 : AllB ps0 := .cons b_is_integer (.cons b_is_ratio (.cons b_pair (.cons b_in_lowest (.cons b_ratio (.cons b_need_ratios (.cons b_plus (.cons b_added (.cons b_minus (.cons b_opposite (.cons b_times (.cons b_multiplied (.nil))))))))))))
theorem bs1 : AllB ps1 := .cons b_over (.cons b_divided (.cons b_sign (.cons b_sign_of (.cons b_below (.cons b_is_below (.cons b_dot (.cons b_summed (.cons b__law_pen (.cons b__law_draw (.cons b__law_pick (.cons b__law_is (.nil))))))))))))
theorem bs2 : AllB ps2 := .cons b__law_says (.cons b__law_divisor (.cons b__law_low (.cons b__law_pair (.cons b__law_plus (.cons b__law_opposite (.cons b__law_minus (.cons b__law_times (.cons b__law_over (.cons b__law_sign (.cons b__law_less (.cons b__law_dot (.nil))))))))))))
theorem bs3 : AllB ps3 := .cons b__law_is_list (.cons b__law_is_ratio (.cons b__law_is_whole (.cons b__law_is_any_row (.cons b__law_number (.cons b__law_wide (.cons b__law_size (.cons b__law_row (.cons b__law_odd (.cons b__law_bent_row (.cons b__law_made_right (.cons b__law_reckoned_right (.nil))))))))))))
theorem bs4 : AllB ps4 := .cons b__law_refused_right (.cons b__law_rows_right (.cons b_law (.nil)))
theorem pc_bind : pc.Bd where
  b := AllB.all (l := ps) (((((bs0).app bs1).app bs2).app bs3).app bs4)
  x := fun e he => match e, he with
    | _, .head _ => bx_BadNumber
    | _, .tail _ (.head _) => bx_BadRow
    | _, .tail _ (.tail _ (.head _)) => bx_Unlike
  f := fun d h => by cases h; exact ⟨bt_law_fault, bt_law_kinds, bt_law_more_kinds, ftx⟩
theorem law_in : p_law ∈ pc.P := List.mem_of_getElem? (show pc.P[50]? = some p_law from rfl)
theorem prg_eq : pc.prg = prg := by kernel_rfl
end RfL
set_option Elab.async false
set_option linter.all false
set_option maxRecDepth 100000
set_option maxHeartbeats 1000000
namespace Rf
open PySem PySem.Spec PyProof.Rows L2

/-! ### running over data -/
def fin : Fl → Option (R × En)
  | .rt r Γ => some (r, Γ)
  | .nx Γ => some (.d .non, Γ)
  | _ => none
theorem run_eq {cx : CtxR} {P : Prg} {n : Nat} {f : Str} {d : Fn} {args : List Sl} (h : P.lookup f = some d) (hl : args.length = d.ps) :
    Rf.run cx P (n + 1) f args = fin (exs cx (Rf.run cx P n) d.body (args.map some ++ List.replicate (d.n - d.ps) none)) := by
  have e : runF cx P (Rf.run cx P n) f args = exs cx (Rf.run cx P n) d.body (args.map some ++ List.replicate (d.n - d.ps) none) := by
    unfold runF
    rw [h]
    exact if_pos hl
  rw [run_succ]
  show (match runF cx P (Rf.run cx P n) f args with
    | .rt r Γ => some (r, Γ)
    | .nx Γ => some (.d .non, Γ)
    | _ => none) = _
  rw [e]
  cases exs cx (Rf.run cx P n) d.body (args.map some ++ List.replicate (d.n - d.ps) none) <;> rfl
/-- a comprehension whose test and element leave the slots alone -/
theorem compL_filter {tg : T} {mc : EM Bool} {me : EM D} {own : List Nat} {Γ : En} (p : D → Bool) (g : D → D) : ∀ {xs acc : List D},
    (∀ x ∈ xs, ∃ Γ1, asgT tg (.d x) (wipeE Γ own) = some Γ1 ∧ mc Γ1 = .ok (p x) Γ1 ∧ (p x = true → me Γ1 = .ok (g x) Γ1) ∧ wipeE Γ1 own = Γ) → acc.length + xs.length ≤ 1000000 →
    compL tg mc me own xs acc Γ = .ok (acc ++ (xs.filter p).map g) Γ
  | [], acc, _, _ => by unfold compL; simp
  | x :: xs, acc, h, hl => by
    obtain ⟨Γ1, h1, h2, h3, h4⟩ := h x List.mem_cons_self
    have ih := fun acc => compL_filter (mc := mc) (me := me) p g (xs := xs) (acc := acc) fun y hy => h y (List.mem_cons_of_mem _ hy)
    unfold compL
    rw [h1]
    dsimp only
    rw [h2]
    cases hp : p x with
    | false =>
      dsimp only
      rw [h4, ih acc (by rw [List.length_cons] at hl; omega), List.filter_cons_of_neg (by rw [hp]; simp)]
    | true =>
      dsimp only
      rw [h3 hp]
      dsimp only
      rw [List.length_cons] at hl
      rw [if_pos (by omega), h4, ih (acc ++ [g x]) (by rw [List.length_append]; simp; omega), List.filter_cons_of_pos hp]
      simp
theorem compL_map {tg : T} {mc : EM Bool} {me : EM D} {own : List Nat} {Γ : En} (g : D → D) {xs acc : List D}
    (h : ∀ x ∈ xs, ∃ Γ1, asgT tg (.d x) (wipeE Γ own) = some Γ1 ∧ mc Γ1 = .ok true Γ1 ∧ me Γ1 = .ok (g x) Γ1 ∧ wipeE Γ1 own = Γ) (hl : acc.length + xs.length ≤ 1000000) :
    compL tg mc me own xs acc Γ = .ok (acc ++ xs.map g) Γ := by
  have := compL_filter (mc := mc) (me := me) (tg := tg) (own := own) (Γ := Γ) (fun _ => true) g (xs := xs) (acc := acc) (fun x hx => by
    obtain ⟨Γ1, h1, h2, h3, h4⟩ := h x hx
    exact ⟨Γ1, h1, h2, fun _ => h3, h4⟩) hl
  rw [List.filter_eq_self.mpr fun _ _ => rfl] at this
  exact this
/-- a comprehension that hands a state on: f s x is the element and the next state -/
def foldS {S : Type} (f : S → D → D × S) : S → List D → List D × S
  | s, [] => ([], s)
  | s, x :: xs => ((f s x).1 :: (foldS f (f s x).2 xs).1, (foldS f (f s x).2 xs).2)
theorem compL_st {S : Type} {tg : T} {mc : EM Bool} {me : EM D} {own : List Nat} (E : S → En) (I : S → Prop) (f : S → D → D × S) : ∀ {xs acc : List D} {s : S}, I s →
    (∀ s, I s → ∀ x ∈ xs, I (f s x).2 ∧ ∃ Γ1 Γ2 Γ3, asgT tg (.d x) (wipeE (E s) own) = some Γ1 ∧ mc Γ1 = .ok true Γ2 ∧ me Γ2 = .ok (f s x).1 Γ3 ∧ wipeE Γ3 own = E (f s x).2) → acc.length + xs.length ≤ 1000000 →
    compL tg mc me own xs acc (E s) = .ok (acc ++ (foldS f s xs).1) (E (foldS f s xs).2)
  | [], acc, s, _, _, _ => by unfold compL foldS; simp
  | x :: xs, acc, s, hI, h, hl => by
    obtain ⟨hI2, Γ1, Γ2, Γ3, h1, h2, h3, h4⟩ := h s hI x List.mem_cons_self
    have ih := fun acc => compL_st (mc := mc) (me := me) E I f (xs := xs) (acc := acc) hI2 fun s hs y hy => h s hs y (List.mem_cons_of_mem _ hy)
    rw [List.length_cons] at hl
    unfold compL
    rw [h1]
    dsimp only
    rw [h2]
    dsimp only
    rw [h3]
    dsimp only
    rw [if_pos (by omega), h4, ih (acc ++ [(f s x).1]) (by rw [List.length_append]; simp; omega)]
    show _ = Out.ok (acc ++ ((f s x).1 :: (foldS f (f s x).2 xs).1)) (E (foldS f (f s x).2 xs).2)
    simp
/-- a loop that never leaves early -/
theorem forL_st {S : Type} {tg : T} {body : En → Fl} (E : S → En) (I : S → Prop) (f : S → D → S) : ∀ {xs : List D} {s : S}, I s →
    (∀ s, I s → ∀ x ∈ xs, I (f s x) ∧ ∃ Γ1, asgT tg (.d x) (E s) = some Γ1 ∧ (body Γ1 = .nx (E (f s x)) ∨ body Γ1 = .ct (E (f s x)))) →
    forL tg body xs (E s) = .nx (E (xs.foldl f s)) ∧ I (xs.foldl f s)
  | [], s, hI, _ => ⟨by unfold forL; rfl, hI⟩
  | x :: xs, s, hI, h => by
    obtain ⟨hI2, Γ1, h1, h2⟩ := h s hI x List.mem_cons_self
    have ih := forL_st E I f (tg := tg) (body := body) (xs := xs) hI2 fun s hs y hy => h s hs y (List.mem_cons_of_mem _ hy)
    refine ⟨?_, ih.2⟩
    unfold forL
    rw [h1]
    dsimp only
    rcases h2 with h2 | h2 <;> (rw [h2]; exact ih.1)
/-- a loop that leaves early at the first x of which q says so -/
theorem forL_find {tg : T} {body : En → Fl} {Γ : En} (q : D → Option R) (Γr : D → En) : ∀ {xs : List D} {Γe : En},
    (∀ x ∈ xs, ∀ Γ, ∃ Γ1, asgT tg (.d x) Γ = some Γ1 ∧ (match q x with
      | some r => ∃ G, body Γ1 = .rt r G
      | none => ∃ G, body Γ1 = .nx G ∨ body Γ1 = .ct G)) →
    (match xs.findSome? q with
      | some r => ∃ G, forL tg body xs Γe = .rt r G
      | none => ∃ G, forL tg body xs Γe = .nx G)
  | [], Γe, _ => ⟨Γe, by unfold forL; rfl⟩
  | x :: xs, Γe, h => by
    obtain ⟨Γ1, h1, h2⟩ := h x List.mem_cons_self Γe
    have e : forL tg body (x :: xs) Γe = (match body Γ1 with
      | .nx Γ2 => forL tg body xs Γ2
      | .ct Γ2 => forL tg body xs Γ2
      | .bk Γ2 => .nx Γ2
      | .rt r Γ2 => .rt r Γ2
      | .no => .no
      | .ex c => .ex c) := by
      show (match asgT tg (.d x) Γe with
        | none => Fl.no
        | some Γ1 => _) = _
      first | (rw [h1]; done) | (rw [h1]; rfl)
    rw [List.findSome?_cons]
    cases hq : q x with
    | some r =>
      rw [hq] at h2
      obtain ⟨G, h2⟩ := h2
      exact ⟨G, by rw [e, h2]⟩
    | none =>
      rw [hq] at h2
      obtain ⟨G, h2⟩ := h2
      have ih := forL_find (tg := tg) (body := body) (Γ := Γ) q Γr (xs := xs) (Γe := G) fun y hy => h y (List.mem_cons_of_mem _ hy)
      dsimp only
      rw [e]
      rcases h2 with h2 | h2 <;> (rw [h2]; exact ih)
end Rf

set_option Elab.async false
set_option linter.all false
set_option maxRecDepth 100000
set_option maxHeartbeats 2000000
namespace Rf
open PySem PySem.Spec PyProof.Rows L2
def d__law_pen : Fn := ⟨1, 3, (.cons (.asg (.var 1) (.int 0)) (.cons (.for (.var 2) (.val (.var 0)) (.cons (.asg (.var 1) (.bin .mod (.blt .int (.cons (.bin .add (.bin .mul (.var 1) (.int 47)) (.var 2)) .nil)) (.int 1000000007))) .nil)) (.cons (.ret (.dct ["cells", "at", "digits", "count", "fold"] (.cons (.blt .list (.cons (.var 0) .nil)) (.cons (.int 0) (.cons (.int 0) (.cons (.int 0) (.cons (.var 1) .nil))))))) .nil)))⟩
def d__law_draw : Fn := ⟨2, 5, (.cons (.put 0 (.str "count") (.bin .add (.ix (.var 0) (.str "count")) (.int 1))) (.cons (.ite (.bop true (.cons (.cmp .eq (.ix (.var 0) (.str "digits")) (.int 0)) (.cons (.cmp .lt (.ix (.var 0) (.str "at")) (.blt .len (.cons (.ix (.var 0) (.str "cells")) .nil))) .nil))) (.cons (.asg (.var 2) (.ix (.ix (.var 0) (.str "cells")) (.ix (.var 0) (.str "at")))) (.cons (.put 0 (.str "at") (.bin .add (.ix (.var 0) (.str "at")) (.int 1))) (.cons (.ite (.cmp .ge (.var 2) (.bin .pow (.int 10) (.int 18))) (.cons (.put 0 (.str "digits") (.bin .sub (.var 2) (.bin .pow (.int 10) (.int 18)))) .nil) (.cons (.put 0 (.str "fold") (.bin .mod (.blt .int (.cons (.bin .add (.bin .mul (.ix (.var 0) (.str "fold")) (.int 69069)) (.var 2)) .nil)) (.int 2147483587))) .nil)) .nil))) .nil) (.cons (.ite (.cmp .gt (.ix (.var 0) (.str "digits")) (.int 0)) (.cons (.asg (.var 3) (.bin .mod (.blt .int (.cons (.ix (.var 0) (.str "digits")) .nil)) (.var 1))) (.cons (.put 0 (.str "digits") (.bin .fdiv (.ix (.var 0) (.str "digits")) (.var 1))) (.cons (.ret (.var 3)) .nil))) .nil) (.cons (.asg (.var 4) (.bin .mod (.blt .int (.cons (.bin .add (.bin .add (.bin .mul (.ix (.var 0) (.str "fold")) (.int 48271)) (.bin .mul (.ix (.var 0) (.str "count")) (.int 7919))) (.int 13)) .nil)) (.int 2147483647))) (.cons (.asg (.var 4) (.bin .mod (.blt .int (.cons (.bin .add (.bin .add (.bin .mul (.var 4) (.var 4)) (.bin .mul (.int 31) (.var 4))) (.ix (.var 0) (.str "count"))) .nil)) (.int 2147483629))) (.cons (.put 0 (.str "fold") (.bin .mod (.blt .int (.cons (.bin .add (.bin .mul (.var 4) (.int 16807)) (.int 7)) .nil)) (.int 2147483647))) (.cons (.ret (.bin .mod (.blt .int (.cons (.bin .fdiv (.var 4) (.int 64)) .nil)) (.var 1))) .nil)))))))⟩
/-! ### the pen -/
structure Pen where
  cells : List Int
  at_ : Nat
  digits : Int
  count : Int
  fold : Int
def pks : List Key := [Sum.inr "cells", Sum.inr "at", Sum.inr "digits", Sum.inr "count", Sum.inr "fold"]
def Pen.toM (p : Pen) : M := .dct pks [.lst (p.cells.map D.int), .int p.at_, .int p.digits, .int p.count, .int p.fold]
/-- what a draw does with the digits -/
def Pen.out (p : Pen) (many : Int) : Int × Pen :=
  if 0 < p.digits then (p.digits.fmod many, { p with digits := p.digits.fdiv many }) else
    let b := (p.fold * 48271 + p.count * 7919 + 13).fmod 2147483647
    let b := (b * b + 31 * b + p.count).fmod 2147483629
    ((b.fdiv 64).fmod many, { p with fold := (b * 16807 + 7).fmod 2147483647 })
def Pen.feed (p : Pen) : Pen :=
  let p := { p with count := p.count + 1 }
  if p.digits = 0 ∧ p.at_ < p.cells.length then
    let c := p.cells.getD p.at_ 0
    if 10 ^ 18 ≤ c then { p with at_ := p.at_ + 1, digits := c - 10 ^ 18 } else { p with at_ := p.at_ + 1, fold := (p.fold * 69069 + c).fmod 2147483587 }
  else p
def Pen.draw (p : Pen) (many : Int) : Int × Pen := p.feed.out many
structure PenOk (k : Nat) (p : Pen) : Prop where
  f0 : 0 ≤ p.fold
  f1 : p.fold < 2147483647
  c0 : 0 ≤ p.count
  c1 : p.count ≤ k
theorem small_of {i : Int} (h : -(10 ^ 30) < i) (h2 : i < 10 ^ 30) : small i = true := by
  unfold small lim
  rw [Bool.and_eq_true, decide_eq_true_eq, decide_eq_true_eq]
  have : (10 : Int) ^ 30 ≤ 2 ^ 4000 := by decide +kernel
  exact ⟨by omega, by omega⟩
theorem feed_ok {k : Nat} {p : Pen} (h : PenOk k p) : PenOk (k + 1) p.feed := by
  obtain ⟨h1, h2, h3, h4⟩ := h
  have m1 : ∀ x : Int, 0 ≤ x.fmod 2147483587 ∧ x.fmod 2147483587 < 2147483587 := fun x => ⟨Int.fmod_nonneg_of_pos _ (by decide), Int.fmod_lt_of_pos _ (by decide)⟩
  unfold Pen.feed
  dsimp only
  split
  · split
    · exact ⟨h1, h2, by show 0 ≤ p.count + 1; omega, by show p.count + 1 ≤ ((k + 1 : Nat) : Int); omega⟩
    · exact ⟨(m1 _).1, Int.lt_trans (m1 _).2 (by decide), by show 0 ≤ p.count + 1; omega, by show p.count + 1 ≤ ((k + 1 : Nat) : Int); omega⟩
  · exact ⟨h1, h2, by show 0 ≤ p.count + 1; omega, by show p.count + 1 ≤ ((k + 1 : Nat) : Int); omega⟩
theorem draw_pen {k : Nat} {p : Pen} (h : PenOk k p) (many : Int) : PenOk (k + 1) (p.draw many).2 := by
  obtain ⟨h1, h2, h3, h4⟩ := feed_ok h
  have m1 : ∀ x : Int, 0 ≤ x.fmod 2147483647 ∧ x.fmod 2147483647 < 2147483647 := fun x => ⟨Int.fmod_nonneg_of_pos _ (by decide), Int.fmod_lt_of_pos _ (by decide)⟩
  unfold Pen.draw Pen.out
  split
  · exact ⟨h1, h2, h3, h4⟩
  · exact ⟨(m1 _).1, (m1 _).2, h3, h4⟩
theorem draw_lt {p : Pen} {many : Int} (hm : 0 < many) : 0 ≤ (p.draw many).1 ∧ (p.draw many).1 < many := by
  unfold Pen.draw Pen.out
  split
  · exact ⟨Int.fmod_nonneg_of_pos _ hm, Int.fmod_lt_of_pos _ hm⟩
  · exact ⟨Int.fmod_nonneg_of_pos _ hm, Int.fmod_lt_of_pos _ hm⟩
end Rf

set_option Elab.async false
set_option linter.all false
set_option maxRecDepth 100000
set_option maxHeartbeats 4000000
namespace Rf
open PySem PySem.Spec PyProof.Rows L2
theorem lk_cells (a b c d e : D) : lk (Sum.inr ("cells" : Str)) pks [a, b, c, d, e] = some a := by rfl
theorem lk_at (a b c d e : D) : lk (Sum.inr ("at" : Str)) pks [a, b, c, d, e] = some b := by rfl
theorem lk_digits (a b c d e : D) : lk (Sum.inr ("digits" : Str)) pks [a, b, c, d, e] = some c := by rfl
theorem lk_count (a b c d e : D) : lk (Sum.inr ("count" : Str)) pks [a, b, c, d, e] = some d := by rfl
theorem lk_fold (a b c d e : D) : lk (Sum.inr ("fold" : Str)) pks [a, b, c, d, e] = some e := by rfl
theorem pu_at (a b c d e x : D) : putM (.dct pks [a, b, c, d, e]) (.str "at") x = some (.dct pks [a, x, c, d, e]) := by rfl
theorem pu_digits (a b c d e x : D) : putM (.dct pks [a, b, c, d, e]) (.str "digits") x = some (.dct pks [a, b, x, d, e]) := by rfl
theorem pu_count (a b c d e x : D) : putM (.dct pks [a, b, c, d, e]) (.str "count") x = some (.dct pks [a, b, c, x, e]) := by rfl
theorem pu_fold (a b c d e x : D) : putM (.dct pks [a, b, c, d, e]) (.str "fold") x = some (.dct pks [a, b, c, d, x]) := by rfl
theorem atI_cells {p : Pen} (h : p.at_ < p.cells.length) : atI (p.cells.map D.int) (p.at_ : Int) = some (.int (p.cells.getD p.at_ 0)) := by
  unfold atI ixN
  have h0 : (0 : Int) ≤ (p.at_ : Int) := by omega
  rw [if_pos h0, if_pos (by rw [List.length_map]; omega)]
  simp [List.getD_eq_getElem?_getD, List.getElem?_eq_getElem h]
theorem run_draw {cx : CtxR} {P : Prg} {n k : Nat} (hP : List.lookup ("_law_draw" : Str) P = some d__law_draw) (p : Pen) (many : Int) (hm : 0 < many) (hm2 : many < 10000000) (h : PenOk k p) (hk : k < 1000000000) :
    ∃ rest, Rf.run cx P (n + 1) "_law_draw" [.bo p.toM, .fr (.int many)] = some (.d (.int (p.draw many).1), some (.bo (p.draw many).2.toM) :: rest) := by
  rw [run_eq hP rfl]
  unfold d__law_draw
  obtain ⟨cells, at_, digits, count, fold⟩ := p
  have hc := h.c0; have hc1 := h.c1; have hf := h.f0; have hf1 := h.f1
  dsimp only at hc hc1 hf hf1
  by_cases h1 : digits = 0 ∧ at_ < cells.length
  · obtain ⟨rfl, hat⟩ := h1
    have h4 : small many = true := small_of (by omega) (by omega)
    have h5 : many ≠ 0 := by omega
    have hcell := atI_cells (p := ⟨cells, at_, 0, count, fold⟩) hat
    dsimp only at hcell
    generalize hcc : cells.getD at_ 0 = c at hcell
    have m1 : ∀ x : Int, 0 ≤ x.fmod 2147483629 ∧ x.fmod 2147483629 < 2147483629 := fun x => ⟨Int.fmod_nonneg_of_pos _ (by decide), Int.fmod_lt_of_pos _ (by decide)⟩
    have m2 : ∀ x : Int, 0 ≤ x.fmod 2147483647 ∧ x.fmod 2147483647 < 2147483647 := fun x => ⟨Int.fmod_nonneg_of_pos _ (by decide), Int.fmod_lt_of_pos _ (by decide)⟩
    have s1 : ∀ x : Int, small (x.fmod 2147483629) = true := fun x => small_of (by have := m1 x; omega) (by have := m1 x; omega)
    have s2 : ∀ x : Int, small (x.fmod 2147483647) = true := fun x => small_of (by have := m2 x; omega) (by have := m2 x; omega)
    have s3 : small fold = true := small_of (by omega) (by omega)
    have s4 : small (count + 1) = true := small_of (by omega) (by omega)
    have l1 : small 48271 = true := by decide +kernel
    have l2 : small 7919 = true := by decide +kernel
    have l3 : small 31 = true := by decide +kernel
    have l4 : small 16807 = true := by decide +kernel
    have l5 : small 64 = true := by decide +kernel
    have m3 : ∀ x : Int, 0 ≤ x.fmod 2147483587 ∧ x.fmod 2147483587 < 2147483587 := fun x => ⟨Int.fmod_nonneg_of_pos _ (by decide), Int.fmod_lt_of_pos _ (by decide)⟩
    have s5 : ∀ x : Int, small (x.fmod 2147483587) = true := fun x => small_of (by have := m3 x; omega) (by have := m3 x; omega)
    have l6 : small 69069 = true := by decide +kernel
    unfold Pen.draw Pen.feed
    dsimp only
    rw [if_pos ⟨rfl, hat⟩, hcc]
    by_cases h6 : 10 ^ 18 ≤ c
    · rw [if_pos h6]
      have h7 : (1000000000000000000 : Int) ≤ c := by simpa using h6
      by_cases h8 : (1000000000000000000 : Int) < c
      · simp [hat, hcell, h7, h8, s5, l6, s1, s2, s3, s4, l1, l2, l3, l4, l5, lk_fold, lk_at, lk_cells, pu_fold, pu_at, bLen, h4, h5, rdV, asgTs, List.getElem?_set, Pen.toM, Pen.out, fin, exs, ex, mPut, obV, ev, evT, pk, pkO, ev2, evL, lB, lBT, mAndOr, mkR, EM.v, EM.bind, mIx, pkV, M.d, R.v, ixD, lk_count, lk_digits, EM.opt, EM.ret, binD, binI, pu_count, pu_digits, stV, mCmpE, mCmp, mCmpV, E.still, cmpD, eqD, D.okd, D.eqv, truD, lP, bltD, bInt, small_of, setV, asgT, E.slot, R.sl]
      · simp [hat, hcell, h7, h8, s5, l6, s1, s2, s3, s4, l1, l2, l3, l4, l5, lk_fold, lk_at, lk_cells, pu_fold, pu_at, bLen, h4, h5, rdV, asgTs, List.getElem?_set, Pen.toM, Pen.out, fin, exs, ex, mPut, obV, ev, evT, pk, pkO, ev2, evL, lB, lBT, mAndOr, mkR, EM.v, EM.bind, mIx, pkV, M.d, R.v, ixD, lk_count, lk_digits, EM.opt, EM.ret, binD, binI, pu_count, pu_digits, stV, mCmpE, mCmp, mCmpV, E.still, cmpD, eqD, D.okd, D.eqv, truD, lP, bltD, bInt, small_of, setV, asgT, E.slot, R.sl]
    · rw [if_neg h6]
      have h7 : (1000000000000000000 : Int) ≤ c ↔ False := by simp at h6 ⊢; omega
      simp [hat, hcell, h7, s5, l6, s1, s2, s3, s4, l1, l2, l3, l4, l5, lk_fold, lk_at, lk_cells, pu_fold, pu_at, bLen, h4, h5, rdV, asgTs, List.getElem?_set, Pen.toM, Pen.out, fin, exs, ex, mPut, obV, ev, evT, pk, pkO, ev2, evL, lB, lBT, mAndOr, mkR, EM.v, EM.bind, mIx, pkV, M.d, R.v, ixD, lk_count, lk_digits, EM.opt, EM.ret, binD, binI, pu_count, pu_digits, stV, mCmpE, mCmp, mCmpV, E.still, cmpD, eqD, D.okd, D.eqv, truD, lP, bltD, bInt, small_of, setV, asgT, E.slot, R.sl]
  · have e1 : (Pen.mk cells at_ digits count fold).feed = ⟨cells, at_, digits, count + 1, fold⟩ := by unfold Pen.feed; dsimp only; rw [if_neg h1]
    unfold Pen.draw
    rw [e1]
    by_cases h2 : 0 < digits
    · have h3 : (digits == 0) = false := by simp; omega
      have h4 : small many = true := small_of (by omega) (by omega)
      have h5 : many ≠ 0 := by omega
      simp [h4, h5, rdV, asgTs, List.getElem?_set, Pen.toM, Pen.out, h2, h3, fin, exs, ex, mPut, obV, ev, evT, pk, pkO, ev2, evL, lB, lBT, mAndOr, mkR, EM.v, EM.bind, mIx, pkV, M.d, R.v, ixD, lk_count, lk_digits, EM.opt, EM.ret, binD, binI, pu_count, pu_digits, stV, mCmpE, mCmp, mCmpV, E.still, cmpD, eqD, D.okd, D.eqv, truD, lP, bltD, bInt, small_of, setV, asgT, E.slot, R.sl]
    · have h3 : (0 : Int) < digits ↔ False := by simp; omega
      have h4 : small many = true := small_of (by omega) (by omega)
      have h5 : many ≠ 0 := by omega
      have h6 : ((digits == 0) && decide (at_ < cells.length)) = false := by simp; omega
      have m1 : ∀ x : Int, 0 ≤ x.fmod 2147483629 ∧ x.fmod 2147483629 < 2147483629 := fun x => ⟨Int.fmod_nonneg_of_pos _ (by decide), Int.fmod_lt_of_pos _ (by decide)⟩
      have m2 : ∀ x : Int, 0 ≤ x.fmod 2147483647 ∧ x.fmod 2147483647 < 2147483647 := fun x => ⟨Int.fmod_nonneg_of_pos _ (by decide), Int.fmod_lt_of_pos _ (by decide)⟩
      have s1 : ∀ x : Int, small (x.fmod 2147483629) = true := fun x => small_of (by have := m1 x; omega) (by have := m1 x; omega)
      have s2 : ∀ x : Int, small (x.fmod 2147483647) = true := fun x => small_of (by have := m2 x; omega) (by have := m2 x; omega)
      have s3 : small fold = true := small_of (by omega) (by omega)
      have s4 : small (count + 1) = true := small_of (by omega) (by omega)
      have l1 : small 48271 = true := by decide +kernel
      have l2 : small 7919 = true := by decide +kernel
      have l3 : small 31 = true := by decide +kernel
      have l4 : small 16807 = true := by decide +kernel
      have l5 : small 64 = true := by decide +kernel
      by_cases h7 : digits = 0
      · have h8 : (at_ < cells.length) ↔ False := by simp; omega
        simp [h7, h8, s1, s2, s3, s4, l1, l2, l3, l4, l5, lk_fold, lk_at, lk_cells, pu_fold, pu_at, bLen, h4, h5, rdV, asgTs, List.getElem?_set, Pen.toM, Pen.out, h3, fin, exs, ex, mPut, obV, ev, evT, pk, pkO, ev2, evL, lB, lBT, mAndOr, mkR, EM.v, EM.bind, mIx, pkV, M.d, R.v, ixD, lk_count, lk_digits, EM.opt, EM.ret, binD, binI, pu_count, pu_digits, stV, mCmpE, mCmp, mCmpV, E.still, cmpD, eqD, D.okd, D.eqv, truD, lP, bltD, bInt, small_of, setV, asgT, E.slot, R.sl]
      · have h9 : (digits == 0) = false := by simp; omega
        simp [h9, s1, s2, s3, s4, l1, l2, l3, l4, l5, lk_fold, lk_at, lk_cells, pu_fold, pu_at, bLen, h4, h5, rdV, asgTs, List.getElem?_set, Pen.toM, Pen.out, h3, fin, exs, ex, mPut, obV, ev, evT, pk, pkO, ev2, evL, lB, lBT, mAndOr, mkR, EM.v, EM.bind, mIx, pkV, M.d, R.v, ixD, lk_count, lk_digits, EM.opt, EM.ret, binD, binI, pu_count, pu_digits, stV, mCmpE, mCmp, mCmpV, E.still, cmpD, eqD, D.okd, D.eqv, truD, lP, bltD, bInt, small_of, setV, asgT, E.slot, R.sl]
end Rf

set_option Elab.async false
set_option linter.all false
set_option maxRecDepth 100000
set_option maxHeartbeats 4000000
namespace Rf
open PySem PySem.Spec PyProof.Rows L2
/-- the fold of a script -/
def fold0 (ns : List Int) : Int := ns.foldl (fun f c => (f * 47 + c).fmod 1000000007) 0
theorem fold0_ok : ∀ (ns : List Int) (f : Int), 0 ≤ f ∧ f < 1000000007 → 0 ≤ ns.foldl (fun f c => (f * 47 + c).fmod 1000000007) f ∧ ns.foldl (fun f c => (f * 47 + c).fmod 1000000007) f < 1000000007
  | [], f, h => h
  | n :: ns, f, h => fold0_ok ns _ ⟨Int.fmod_nonneg_of_pos _ (by decide), Int.fmod_lt_of_pos _ (by decide)⟩
theorem run_pen {cx : CtxR} {P : Prg} {n : Nat} (hP : List.lookup ("_law_pen" : Str) P = some d__law_pen) (ns : List Int) :
    (Rf.run cx P (n + 1) "_law_pen" [.fr (.scr ns)]).map (·.1) = some (.m (Pen.mk ns 0 0 0 (fold0 ns)).toM) := by
  rw [run_eq hP rfl]
  unfold d__law_pen
  have key : ∀ (l : List Int) (f : Int) (x : Option Sl), (0 ≤ f ∧ f < 1000000007) → (x = none ∨ ∃ d, x = some (.fr d)) → ∃ y, forL (.var 2) (exs cx (Rf.run cx P n) (.cons (.asg (.var 1) (.bin .mod (.blt .int (.cons (.bin .add (.bin .mul (.var 1) (.int 47)) (.var 2)) .nil)) (.int 1000000007))) .nil)) (l.map D.int) [some (.fr (.scr ns)), some (.fr (.int f)), x] = .nx [some (.fr (.scr ns)), some (.fr (.int (l.foldl (fun f c => (f * 47 + c).fmod 1000000007) f))), y] := by
    intro l
    induction l with
    | nil => intro f x _ _; exact ⟨x, by simp [forL]⟩
    | cons c l ih =>
      intro f x hf hx
      have s1 : small f = true := small_of (by omega) (by omega)
      have l1 : small 47 = true := by decide +kernel
      obtain ⟨y, hy⟩ := ih ((f * 47 + c).fmod 1000000007) (some (.fr (.int c))) ⟨Int.fmod_nonneg_of_pos _ (by decide), Int.fmod_lt_of_pos _ (by decide)⟩ (.inr ⟨_, rfl⟩)
      refine ⟨y, ?_⟩
      rcases hx with rfl | ⟨d, rfl⟩ <;>
      simp [forL, asgT, setV, exs, ex, ev, ev2, evL, mkR, EM.v, EM.bind, EM.opt, EM.ret, rdV, R.v, binD, binI, lP, bltD, bInt, pkO, s1, l1, R.sl] at hy ⊢ <;> exact hy
  obtain ⟨y, hy⟩ := key ns 0 none ⟨by decide, by decide⟩ (.inl rfl)
  simp [exs, ex, ev, ev2, evL, mkR, EM.v, EM.bind, EM.opt, EM.ret, rdV, R.v, setV, asgT, R.sl, mFor, evI, mIt, mIv, itV, D.seq?, lockO, lockE, freeO, freeE] at hy ⊢
  rw [hy]
  have nd : decide ((["cells", "at", "digits", "count", "fold"] : List Str).Nodup) = true := by decide +kernel
  simp only [fin, exs, ex, ev, ev2, evL, mkR, EM.v, EM.bind, EM.opt, EM.ret, rdV, R.v, E.slot, lS, nd, lP, pkO, pkV, bltD, bList, M.d]
  simp +decide [fin, exs, ex, ev, ev2, evL, mkR, EM.v, EM.bind, EM.opt, EM.ret, rdV, R.v, E.slot, lS, lP, pkO, bltD, bList, M.d, Pen.toM, pks, fold0, pkV]


end Rf

set_option Elab.async false
set_option linter.all false
set_option maxRecDepth 100000
set_option maxHeartbeats 1000000
namespace Rf
open PySem PySem.Spec PyProof.Rows L2

/-! ### what must hold ahead of a run so that Q holds behind it -/
def WP {α : Type} (m : EM α) (Γ : En) (Q : α → En → Prop) : Prop := ∃ a Γ', m Γ = .ok a Γ' ∧ Q a Γ'
section
variable {α β : Type} {m : EM α} {f : α → EM β} {Γ : En}
theorem WP.mono {Q Q' : α → En → Prop} (h : WP m Γ Q) (k : ∀ a Γ', Q a Γ' → Q' a Γ') : WP m Γ Q' := by
  obtain ⟨a, G, e, q⟩ := h
  exact ⟨a, G, e, k _ _ q⟩
theorem WP.bind {Q : β → En → Prop} (h : WP m Γ fun a Γ1 => WP (f a) Γ1 Q) : WP (m.bind f) Γ Q := by
  obtain ⟨a, G, e, b, G2, e2, q⟩ := h
  exact ⟨b, G2, by unfold EM.bind; rw [e]; exact e2, q⟩
theorem WP.ret {a : α} {Q : α → En → Prop} (h : Q a Γ) : WP (EM.ret a) Γ Q := ⟨a, Γ, rfl, h⟩
theorem WP.opt {o : Option α} {Q : α → En → Prop} (h : ∃ a, o = some a ∧ Q a Γ) : WP (EM.opt o) Γ Q := by
  obtain ⟨a, rfl, h⟩ := h
  exact ⟨a, Γ, rfl, h⟩
theorem WP.vv {x : EM R} {Q : D → En → Prop} (h : WP x Γ fun r Γ' => Q r.v Γ') : WP x.v Γ Q := by
  obtain ⟨a, G, e, q⟩ := h
  exact ⟨a.v, G, by unfold EM.v; rw [e], q⟩
end
def pkOf : Option Sl → Option D
  | some (.fr d) => some d
  | some (.mu m) => some m.d
  | some (.bo m) => some m.d
  | some (.lk m) => some m.d
  | _ => none
theorem pkV_eq {i : Nat} {Γ : En} {s : Option Sl} {d : D} (h : Γ[i]? = some s) (k : pkOf s = some d) : pkV i Γ = .ok d Γ := by
  unfold pkV
  rw [h]
  match s, k with
  | some (.fr _), k => cases k; rfl
  | some (.mu _), k => cases k; rfl
  | some (.bo _), k => cases k; rfl
  | some (.lk _), k => cases k; rfl
section
variable (cx : CtxR) (Φ : Phi)
def wE (e : E) (Γ : En) (Q : R → En → Prop) : Prop := WP (ev2 cx Φ e).r Γ Q
def wT (e : E) (Γ : En) (Q : Bool → En → Prop) : Prop := WP (ev2 cx Φ e).t Γ Q
def wK (e : E) (Γ : En) (Q : D → En → Prop) : Prop := WP (pkO e (ev2 cx Φ e).r) Γ Q
def wV (e : E) (Γ : En) (Q : D → En → Prop) : Prop := WP (ev2 cx Φ e).r.v Γ Q
def wL (as : Es) (Γ : En) (Q : List D → En → Prop) : Prop := WP (lS (evL cx Φ as)) Γ Q
def wB (as : Es) (Γ : En) (Q : List D → En → Prop) : Prop := WP (lP (evL cx Φ as)) Γ Q
def wR (as : Es) (Γ : En) (Q : List R → En → Prop) : Prop := WP (lR (evL cx Φ as)) Γ Q
def wO (as : Es) (Γ : En) (Q : Option Int → En → Prop) : Prop := WP (lO (evL cx Φ as)) Γ Q
def wI (it : It) (Γ : En) (Q : Option Nat × List D → En → Prop) : Prop := WP (evI cx Φ it) Γ Q
def wC (cs : Es) (Γ : En) (Q : Bool → En → Prop) : Prop := WP (lT (evL cx Φ cs)) Γ Q
/-- what a block comes to -/
structure Po where
  N : En → Prop
  T : R → En → Prop
  B : En → Prop
  C : En → Prop
  X : Xc → Prop
def Po.ok (p : Po) : Fl → Prop
  | .nx Γ => p.N Γ
  | .rt r Γ => p.T r Γ
  | .bk Γ => p.B Γ
  | .ct Γ => p.C Γ
  | .ex c => p.X c
  | .no => False
def wS (ss : Ss) (Γ : En) (p : Po) : Prop := p.ok (exs cx Φ ss Γ)
def w1 (s : S) (Γ : En) (p : Po) : Prop := p.ok (ex cx Φ s Γ)
end
section
variable {cx : CtxR} {Φ : Phi} {Γ : En} {e a b c t : E} {as : Es} {i : Nat}
variable {QR : R → En → Prop} {QD : D → En → Prop} {QB : Bool → En → Prop} {QL : List D → En → Prop}
theorem wE.mono {Q Q' : R → En → Prop} (h : wE cx Φ e Γ Q) (k : ∀ a Γ', Q a Γ' → Q' a Γ') : wE cx Φ e Γ Q' := WP.mono h k
theorem wV.mono {Q Q' : D → En → Prop} (h : wV cx Φ e Γ Q) (k : ∀ a Γ', Q a Γ' → Q' a Γ') : wV cx Φ e Γ Q' := WP.mono h k
theorem wT.mono {Q Q' : Bool → En → Prop} (h : wT cx Φ e Γ Q) (k : ∀ a Γ', Q a Γ' → Q' a Γ') : wT cx Φ e Γ Q' := WP.mono h k
/-! names -/
theorem wE_fr {d : D} (h : Γ[i]? = some (some (.fr d))) (q : QR (.d d) Γ) : wE cx Φ (.var i) Γ QR := ⟨.d d, Γ, by
  show (match rdV i Γ with | .ok d Γ' => Out.ok (R.d d) Γ' | .no => .no) = _
  unfold rdV; rw [h], q⟩
theorem wE_mu {m : M} (h : Γ[i]? = some (some (.mu m))) (q : QR (.d m.d) (Γ.set i (some (.fr m.d)))) : wE cx Φ (.var i) Γ QR := ⟨.d m.d, Γ.set i (some (.fr m.d)), by
  show (match rdV i Γ with | .ok d Γ' => Out.ok (R.d d) Γ' | .no => .no) = _
  unfold rdV; rw [h], q⟩
theorem wV_e (h : wE cx Φ e Γ fun r Γ' => QD r.v Γ') : wV cx Φ e Γ QD := WP.vv h
theorem wV_fr {d : D} (h : Γ[i]? = some (some (.fr d))) (q : QD d Γ) : wV cx Φ (.var i) Γ QD := wV_e (wE_fr h q)
theorem wV_mu {m : M} (h : Γ[i]? = some (some (.mu m))) (q : QD m.d (Γ.set i (some (.fr m.d)))) : wV cx Φ (.var i) Γ QD := wV_e (wE_mu h q)
theorem wK_var {s : Option Sl} {d : D} (h : Γ[i]? = some s) (k : pkOf s = some d) (q : QD d Γ) : wK cx Φ (.var i) Γ QD := ⟨d, Γ, pkV_eq h k, q⟩
theorem wT_var {s : Option Sl} {d : D} {x : Bool} (h : Γ[i]? = some s) (k : pkOf s = some d) (z : truD d = some x) (q : QB x Γ) : wT cx Φ (.var i) Γ QB :=
  WP.bind (m := pkV i) ⟨d, Γ, pkV_eq h k, WP.opt ⟨x, z, q⟩⟩
theorem wK_e (hs : e.slot = none) (h : wV cx Φ e Γ QD) : wK cx Φ e Γ QD := by
  have : pkO e (ev2 cx Φ e).r = (ev2 cx Φ e).r.v := by
    cases e <;> first | rfl | cases hs
  unfold wK
  rw [this]
  exact h
theorem wT_mk (hs : (ev2 cx Φ e).t = (mkR (ev2 cx Φ e).r).t) (h : wV cx Φ e Γ fun d Γ' => ∃ x, truD d = some x ∧ QB x Γ') : wT cx Φ e Γ QB := by
  unfold wT
  rw [hs]
  exact WP.bind (WP.mono h fun d G q => WP.opt q)
/-! constants -/
theorem wV_non (q : QD .non Γ) : wV cx Φ .non Γ QD := ⟨_, Γ, rfl, q⟩
theorem wV_bl {x : Bool} (q : QD (.bl x) Γ) : wV cx Φ (.bl x) Γ QD := ⟨_, Γ, rfl, q⟩
theorem wV_int {x : Int} (q : QD (.int x) Γ) : wV cx Φ (.int x) Γ QD := ⟨_, Γ, rfl, q⟩
theorem wV_str {x : Str} (q : QD (.str x) Γ) : wV cx Φ (.str x) Γ QD := ⟨_, Γ, rfl, q⟩
theorem wE_non (q : QR (.d .non) Γ) : wE cx Φ .non Γ QR := ⟨_, Γ, rfl, q⟩
theorem wE_bl {x : Bool} (q : QR (.d (.bl x)) Γ) : wE cx Φ (.bl x) Γ QR := ⟨_, Γ, rfl, q⟩
theorem wE_int {x : Int} (q : QR (.d (.int x)) Γ) : wE cx Φ (.int x) Γ QR := ⟨_, Γ, rfl, q⟩
theorem wE_str {x : Str} (q : QR (.d (.str x)) Γ) : wE cx Φ (.str x) Γ QR := ⟨_, Γ, rfl, q⟩
theorem wE_gint {x : Str} {k : Int} (h : cx.nums.lookup x = some k) (q : QR (.d (.int k)) Γ) : wE cx Φ (.gint x) Γ QR :=
  WP.opt (⟨R.d (.int k), by rw [h]; rfl, q⟩ : ∃ a, ((cx.nums.lookup x).map fun i => R.d (.int i)) = some a ∧ QR a Γ)
theorem wE_fnv {x : Str} (q : QR (.d (.fn x)) Γ) : wE cx Φ (.fnv x) Γ QR := ⟨_, Γ, rfl, q⟩
/-! operations -/
theorem wE_bin {op : BOp} (h : wV cx Φ a Γ fun x Γ1 => wV cx Φ b Γ1 fun y Γ2 => ∃ r, binD op x y = some r ∧ QR r Γ2) : wE cx Φ (.bin op a b) Γ QR :=
  WP.bind (WP.mono h fun x G q => WP.bind (WP.mono q fun y G2 q2 => WP.opt q2))
theorem wE_neg (h : wV cx Φ a Γ fun x Γ1 => ∃ i, x = .int i ∧ QR (.d (.int (-i))) Γ1) : wE cx Φ (.neg a) Γ QR :=
  WP.bind (WP.mono h fun x G ⟨i, e, q⟩ => WP.opt ⟨_, by rw [e]; rfl, q⟩)
theorem wE_nt (h : wK cx Φ a Γ fun x Γ1 => ∃ k, truD x = some k ∧ QR (.d (.bl (!k))) Γ1) : wE cx Φ (.nt a) Γ QR :=
  WP.bind (WP.mono h fun x G ⟨i, e, q⟩ => WP.opt ⟨_, by rw [e]; rfl, q⟩)
theorem wT_nt (h : wT cx Φ a Γ fun k Γ1 => QB (!k) Γ1) : wT cx Φ (.nt a) Γ QB :=
  WP.bind (WP.mono h fun x G q => WP.ret q)
theorem wE_bop1 {an : Bool} (h : wE cx Φ a Γ QR) : wE cx Φ (.bop an (.cons a .nil)) Γ QR := h
theorem wE_bop2 {an : Bool} (h : wV cx Φ a Γ fun x Γ1 => ∃ k, x = .bl k ∧ (k = an → wE cx Φ (.bop an (.cons b as)) Γ1 QR) ∧ (k = !an → QR (.d (.bl (!an))) Γ1)) : wE cx Φ (.bop an (.cons a (.cons b as))) Γ QR :=
  WP.bind (m := (ev2 cx Φ a).r.v) (WP.mono h fun x G ⟨k, e, q1, q2⟩ => by
    subst e
    dsimp only
    by_cases hk : k = an
    · rw [if_pos hk]; exact q1 hk
    · rw [if_neg hk]
      have e : k = !an := by cases k <;> cases an <;> first | rfl | exact absurd rfl hk
      have q := q2 e
      rw [← e] at q
      exact WP.ret q)
theorem wT_bop0 {an : Bool} (h : QB an Γ) : wT cx Φ (.bop an .nil) Γ QB := WP.ret h
theorem wT_bop1 {an : Bool} (h : wT cx Φ a Γ QB) : wT cx Φ (.bop an (.cons a .nil)) Γ QB := h
theorem wT_bop2 {an : Bool} (h : wT cx Φ a Γ fun k Γ1 => (k = an → wT cx Φ (.bop an (.cons b as)) Γ1 QB) ∧ (k = !an → QB (!an) Γ1)) : wT cx Φ (.bop an (.cons a (.cons b as))) Γ QB :=
  WP.bind (m := (ev2 cx Φ a).t) (WP.mono h fun k G ⟨q1, q2⟩ => by
    by_cases hk : k = an
    · rw [if_pos hk]; exact q1 hk
    · rw [if_neg hk]
      have e : k = !an := by cases k <;> cases an <;> first | rfl | exact absurd rfl hk
      have q := q2 e
      rw [← e] at q
      exact WP.ret q)
theorem wE_cmp {op : COp} (hs : a.slot = none ∨ b.still = false) (h : wV cx Φ a Γ fun x Γ1 => wK cx Φ b Γ1 fun y Γ2 => ∃ k, cmpD op x y = some k ∧ QR (.d (.bl k)) Γ2) : wE cx Φ (.cmp op a b) Γ QR := by
  have e : mCmpE op a b.still (ev2 cx Φ a).r.v (pkO b (ev2 cx Φ b).r) = mCmp op (ev2 cx Φ a).r.v (pkO b (ev2 cx Φ b).r) := by
    unfold mCmpE
    split
    · rename_i i h1 h2
      rcases hs with hs | hs
      · cases hs
      · rw [hs] at h2; cases h2
    · rfl
  have : WP (mCmp op (ev2 cx Φ a).r.v (pkO b (ev2 cx Φ b).r)) Γ QR :=
    WP.bind (WP.mono h fun x G q => WP.bind (WP.mono q fun y G2 ⟨k, e, q2⟩ => WP.bind (WP.ret (WP.opt ⟨_, by rw [e]; rfl, q2⟩))))
  rw [← e] at this
  exact this
theorem wE_cmpv {op : COp} {s : Option Sl} {x : D} (hb : b.still = true) (h1 : Γ[i]? = some s) (h2 : pkOf s = some x) (h : wK cx Φ b Γ fun y Γ2 => Γ2 = Γ ∧ ∃ k, cmpD op x y = some k ∧ QR (.d (.bl k)) Γ) : wE cx Φ (.cmp op (.var i) b) Γ QR := by
  have e : mCmpE op (.var i) b.still (ev2 cx Φ (.var i)).r.v (pkO b (ev2 cx Φ b).r) = mCmpV op i (pkO b (ev2 cx Φ b).r) := by rw [hb]; rfl
  have : WP (mCmpV op i (pkO b (ev2 cx Φ b).r)) Γ QR :=
    WP.bind (m := pkV i) ⟨x, Γ, pkV_eq h1 h2, WP.bind (WP.mono h fun y G2 ⟨e0, k, e, q2⟩ => by
      subst e0
      exact WP.bind (m := pkV i) ⟨x, G2, pkV_eq h1 h2, WP.opt ⟨_, by rw [e]; rfl, q2⟩⟩)⟩
  rw [← e] at this
  exact this
theorem wE_cmp2 {o1 o2 : COp} (h : wV cx Φ a Γ fun x Γ1 => wV cx Φ b Γ1 fun y Γ2 => ∃ k, cmpD o1 x y = some k ∧ (k = false → QR (.d (.bl false)) Γ2) ∧ (k = true → wV cx Φ c Γ2 fun z Γ3 => ∃ j, cmpD o2 y z = some j ∧ QR (.d (.bl j)) Γ3)) : wE cx Φ (.cmp2 o1 o2 a b c) Γ QR :=
  WP.bind (WP.mono h fun x G q => WP.bind (WP.mono q fun y G2 ⟨k, e, q1, q2⟩ => WP.bind (WP.opt ⟨k, e, by
    cases k with
    | false => exact WP.ret (q1 rfl)
    | true => exact WP.bind (WP.mono (q2 rfl) fun z G3 ⟨j, e, q3⟩ => WP.opt ⟨_, by rw [e]; rfl, q3⟩)⟩)))
theorem wE_isc {ng : Bool} {k : Option Bool} (h : wK cx Φ a Γ fun x Γ1 => QR (.d (.bl (if ng then !isC k x else isC k x))) Γ1) : wE cx Φ (.isc ng a k) Γ QR :=
  WP.bind (WP.mono h fun x G q => WP.ret q)
theorem wE_ite (h : wT cx Φ t Γ fun k Γ1 => (k = true → wE cx Φ a Γ1 QR) ∧ (k = false → wE cx Φ b Γ1 QR)) : wE cx Φ (.ite t a b) Γ QR :=
  WP.bind (m := (ev2 cx Φ t).t) (WP.mono h fun k G ⟨q1, q2⟩ => by
    cases k with
    | true => exact q1 rfl
    | false => exact q2 rfl)
theorem wT_ite (h : wT cx Φ t Γ fun k Γ1 => (k = true → wT cx Φ a Γ1 QB) ∧ (k = false → wT cx Φ b Γ1 QB)) : wT cx Φ (.ite t a b) Γ QB :=
  WP.bind (m := (ev2 cx Φ t).t) (WP.mono h fun k G ⟨q1, q2⟩ => by
    cases k with
    | true => exact q1 rfl
    | false => exact q2 rfl)
theorem wE_isi {one : Bool} {ts : List Ty} (h : wK cx Φ a Γ fun x Γ1 => ∃ k, isiD cx x ts = some k ∧ QR (.d (.bl k)) Γ1) : wE cx Φ (.isi a one ts) Γ QR :=
  WP.bind (WP.mono h fun x G ⟨i, e, q⟩ => WP.opt ⟨_, by rw [e]; rfl, q⟩)
theorem wE_blt {f : Bl} (h : wB cx Φ as Γ fun ds Γ1 => ∃ r, bltD f ds = some r ∧ QR r Γ1) : wE cx Φ (.blt f as) Γ QR :=
  WP.bind (WP.mono h fun x G q => WP.opt q)
theorem wE_attr {f : Str} (h : wK cx Φ a Γ fun x Γ1 => ∃ d, attrD cx x f = some d ∧ QR (.d d) Γ1) : wE cx Φ (.attr a f) Γ QR :=
  WP.bind (WP.mono h fun x G ⟨i, e, q⟩ => WP.opt ⟨_, by rw [e]; rfl, q⟩)
theorem wE_ix (hs : a.slot = none) (h : wV cx Φ a Γ fun x Γ1 => wV cx Φ b Γ1 fun y Γ2 => ∃ d, ixD x y = some d ∧ QR (.d d) Γ2) : wE cx Φ (.ix a b) Γ QR := by
  have e : mIx a (ev2 cx Φ a).r.v (ev2 cx Φ b).r.v = (ev2 cx Φ a).r.v.bind fun x => (ev2 cx Φ b).r.v.bind fun y => EM.opt ((ixD x y).map .d) := by
    cases a <;> first | rfl | cases hs
  have : WP ((ev2 cx Φ a).r.v.bind fun x => (ev2 cx Φ b).r.v.bind fun y => EM.opt ((ixD x y).map .d)) Γ QR :=
    WP.bind (WP.mono h fun x G q => WP.bind (WP.mono q fun y G2 ⟨k, e, q2⟩ => WP.opt ⟨_, by rw [e]; rfl, q2⟩))
  rw [← e] at this
  exact this
theorem wE_ixv {s : Option Sl} {x : D} (h1 : Γ[i]? = some s) (h2 : pkOf s = some x) (h : wV cx Φ b Γ fun y Γ2 => ∃ s2, Γ2[i]? = some s2 ∧ ∃ x2, pkOf s2 = some x2 ∧ ∃ d, ixD x2 y = some d ∧ QR (.d d) Γ2) : wE cx Φ (.ix (.var i) b) Γ QR :=
  WP.bind (m := pkV i) ⟨x, Γ, pkV_eq h1 h2, WP.bind (WP.mono h fun y G2 ⟨s2, e1, x2, e2, d, e3, q2⟩ =>
    WP.bind (m := pkV i) ⟨x2, G2, pkV_eq e1 e2, WP.opt ⟨_, by rw [e3]; rfl, q2⟩⟩)⟩
theorem wE_cut {lo hi : Es} (h : wV cx Φ a Γ fun x Γ1 => wO cx Φ lo Γ1 fun l Γ2 => wO cx Φ hi Γ2 fun u Γ3 => ∃ r, cutD x l u = some r ∧ QR r Γ3) : wE cx Φ (.cut a lo hi) Γ QR :=
  WP.bind (WP.mono h fun x G q => WP.bind (WP.mono q fun y G2 q2 => WP.bind (WP.mono q2 fun z G3 q3 => WP.opt q3)))
theorem wE_rev (h : wV cx Φ a Γ fun x Γ1 => ∃ r, revD x = some r ∧ QR r Γ1) : wE cx Φ (.rev a) Γ QR :=
  WP.bind (WP.mono h fun x G q => WP.opt q)
theorem wE_tup (h : wL cx Φ as Γ fun ds Γ1 => ds.length ≤ 1000 ∧ QR (.d (.tup ds)) Γ1) : wE cx Φ (.tup as) Γ QR :=
  WP.bind (WP.mono h fun x G q => WP.opt ⟨_, if_pos q.1, q.2⟩)
theorem wE_lst (h : wL cx Φ as Γ fun ds Γ1 => ds.length ≤ 1000 ∧ QR (.m (.lst ds)) Γ1) : wE cx Φ (.lst as) Γ QR :=
  WP.bind (WP.mono h fun x G q => WP.opt ⟨_, if_pos q.1, q.2⟩)
theorem wE_dct {ks : List Str} (hk : (decide (ks.length ≤ 15) && decide ks.Nodup) = true) (h : wL cx Φ as Γ fun ds Γ1 => ds.length = ks.length ∧ QR (.m (.dct (ks.map Sum.inr) ds)) Γ1) : wE cx Φ (.dct ks as) Γ QR :=
  WP.bind (WP.mono h fun x G q => WP.opt ⟨_, if_pos (by rw [Bool.and_eq_true] at hk; simp only [Bool.and_eq_true]; exact ⟨⟨decide_eq_true q.1, hk.1⟩, hk.2⟩), q.2⟩)
/-! lists of expressions -/
theorem wL_nil (q : QL [] Γ) : wL cx Φ .nil Γ QL := ⟨_, _, rfl, q⟩
theorem wL_cons (h : wV cx Φ a Γ fun x Γ1 => wL cx Φ as Γ1 fun xs Γ2 => QL (x :: xs) Γ2) : wL cx Φ (.cons a as) Γ QL :=
  WP.bind (m := (ev2 cx Φ a).r.v) (WP.mono h fun x G q => WP.bind (m := lS (evL cx Φ as)) (WP.mono q fun y G2 q2 => WP.ret q2))
theorem wB_nil (q : QL [] Γ) : wB cx Φ .nil Γ QL := ⟨_, _, rfl, q⟩
theorem wB_one (h : wK cx Φ a Γ fun x Γ1 => QL [x] Γ1) : wB cx Φ (.cons a .nil) Γ QL :=
  WP.bind (m := pkO a (ev2 cx Φ a).r) (WP.mono h fun x G q => WP.ret q)
theorem wB_cons (h : wV cx Φ a Γ fun x Γ1 => wB cx Φ (.cons b as) Γ1 fun xs Γ2 => QL (x :: xs) Γ2) : wB cx Φ (.cons a (.cons b as)) Γ QL :=
  WP.bind (m := (ev2 cx Φ a).r.v) (WP.mono h fun x G q => WP.bind (m := lP (evL cx Φ (.cons b as))) (WP.mono q fun y G2 q2 => WP.ret q2))
theorem wR_nil {Q : List R → En → Prop} (q : Q [] Γ) : wR cx Φ .nil Γ Q := ⟨_, _, rfl, q⟩
theorem wR_cons {Q : List R → En → Prop} (h : wE cx Φ a Γ fun x Γ1 => wR cx Φ as Γ1 fun xs Γ2 => Q (x :: xs) Γ2) : wR cx Φ (.cons a as) Γ Q :=
  WP.bind (m := (ev2 cx Φ a).r) (WP.mono h fun x G q => WP.bind (m := lR (evL cx Φ as)) (WP.mono q fun y G2 q2 => WP.ret q2))
theorem wO_nil {Q : Option Int → En → Prop} (q : Q none Γ) : wO cx Φ .nil Γ Q := ⟨_, _, rfl, q⟩
theorem wO_one {Q : Option Int → En → Prop} (h : wV cx Φ a Γ fun x Γ1 => ∃ i, x = .int i ∧ Q (some i) Γ1) : wO cx Φ (.cons a as) Γ Q :=
  WP.bind (m := (ev2 cx Φ a).r.v) (WP.mono h fun x G ⟨i, e, q⟩ => by subst e; exact WP.ret q)
/-! calls -/
theorem wE_call0 {f : Str} (h : ∃ r G, Φ f [] = some (r, G) ∧ QR r Γ) : wE cx Φ (.call f .nil) Γ QR := by
  obtain ⟨r, G, e, q⟩ := h
  exact WP.opt ⟨r, by rw [e]; rfl, q⟩
theorem wE_callM {f : Str} (h : wL cx Φ as Γ fun ds Γ1 => ∃ r G, Φ f (ds.map Sl.fr) = some (r, G) ∧ QR r Γ1) : WP (mCall Φ f (lS (evL cx Φ as))) Γ QR :=
  WP.bind (WP.mono h fun ds G ⟨r, G2, e, q⟩ => WP.opt ⟨r, by rw [e]; rfl, q⟩)
theorem wE_callS {f : Str} (hs : a.slot = none) (h : wL cx Φ (.cons a as) Γ fun ds Γ1 => ∃ r G, Φ f (ds.map Sl.fr) = some (r, G) ∧ QR r Γ1) : wE cx Φ (.call f (.cons a as)) Γ QR := by
  have e : mCallE Φ f (evL cx Φ (.cons a as)) = mCall Φ f (lS (evL cx Φ (.cons a as))) := by
    show (match a.slot with
      | some i => mBor Φ f i (lS (evL cx Φ as)) (mCall Φ f (lS ((a, ev2 cx Φ a) :: evL cx Φ as)))
      | none => mCall Φ f (lS ((a, ev2 cx Φ a) :: evL cx Φ as))) = _
    rw [hs]; rfl
  show WP (mCallE Φ f (evL cx Φ (.cons a as))) Γ QR
  rw [e]
  exact wE_callM h
def noD : Option M → Bool
  | some (.dct _ _) => false
  | _ => true
theorem wE_callV {f : Str} (hs : noD (obV i Γ) = true) (h : wL cx Φ (.cons (.var i) as) Γ fun ds Γ1 => ∃ r G, Φ f (ds.map Sl.fr) = some (r, G) ∧ QR r Γ1) : wE cx Φ (.call f (.cons (.var i) as)) Γ QR := by
  obtain ⟨r, G, e, q⟩ := wE_callM (f := f) h
  refine ⟨r, G, ?_, q⟩
  show mBor Φ f i (lS (evL cx Φ as)) (mCall Φ f (lS (evL cx Φ (.cons (.var i) as)))) Γ = _
  unfold mBor
  split
  · rename_i z; rw [z] at hs; cases hs
  · exact e
theorem wE_callB {f : Str} {ks : List Key} {es : List D} (hs : obV i Γ = some (.dct ks es)) (h : wL cx Φ as Γ fun ds Γ1 => ∃ m, obV i Γ1 = some m ∧ ∃ r m' G, Φ f (.bo m :: ds.map Sl.fr) = some (r, some (.bo m') :: G) ∧ QR r (stV i m' Γ1)) : wE cx Φ (.call f (.cons (.var i) as)) Γ QR := by
  obtain ⟨ds, G, e, m, e2, r, m', G2, e3, q⟩ := h
  refine ⟨r, stV i m' G, ?_, q⟩
  show mBor Φ f i (lS (evL cx Φ as)) (mCall Φ f (lS (evL cx Φ (.cons (.var i) as)))) Γ = _
  unfold mBor
  rw [hs]
  dsimp only
  rw [e]
  dsimp only
  rw [e2]
  dsimp only
  rw [e3]
theorem wE_make {C f : Str} (hf : C ++ ".__init__" = f) (h : wL cx Φ as Γ fun ds Γ1 => ∃ m G, Φ f (.bo (.ins C [] []) :: ds.map Sl.fr) = some (.d .non, some (.bo m) :: G) ∧ QR (.m m) Γ1) : wE cx Φ (.make C as) Γ QR := by
  refine WP.bind (m := lS (evL cx Φ as)) (WP.mono h fun ds G ⟨m, G2, e, q⟩ => WP.opt ⟨.m m, ?_, q⟩)
  rw [hf, e]
/-! methods -/
theorem wE_mut {m : Mn} {ds0 : List D} (h0 : obV i Γ = some (.lst ds0)) (h : wL cx Φ as Γ fun ds Γ1 => ∃ o, obV i Γ1 = some o ∧ ∃ r o', mutD m o ds = some (r, o') ∧ QR r (stV i o' Γ1)) : wE cx Φ (.mut m i as) Γ QR := by
  obtain ⟨ds, G, e, o, e1, r, o', e2, q⟩ := h
  refine ⟨r, stV i o' G, ?_, q⟩
  show mMut m i (lS (evL cx Φ as)) Γ = _
  unfold mMut
  rw [h0]
  dsimp only
  rw [e]
  dsimp only
  rw [e1]
  dsimp only
  rw [e2]
theorem wE_meth {m : Me} {s : Option Sl} {xs : List D} (h1 : Γ[i]? = some s) (h2 : pkOf s = some (.lst xs)) (h : wL cx Φ as Γ fun ds Γ2 => ∃ s2, Γ2[i]? = some s2 ∧ ∃ x2, pkOf s2 = some x2 ∧ ∃ r, methD m x2 ds = some r ∧ QR r Γ2) : wE cx Φ (.meth m (.var i) as) Γ QR :=
  WP.bind (m := pkV i) ⟨.lst xs, Γ, pkV_eq h1 h2, WP.bind (WP.opt ⟨(), rfl, WP.bind (WP.mono h fun y G2 ⟨s2, e1, x2, e2, q2⟩ =>
    WP.bind (m := pkV i) ⟨x2, G2, pkV_eq e1 e2, WP.opt q2⟩)⟩)⟩
/-! what is walked -/
variable {QI : Option Nat × List D → En → Prop}
def itOf : Option Sl → Option D
  | some (.fr d) => some d
  | some (.mu m) => some m.d
  | some (.lk m) => some m.d
  | _ => none
theorem wI_var {s : Option Sl} {d : D} {xs : List D} (h : Γ[i]? = some s) (k : itOf s = some d) (z : d.seq? = some xs) (q : QI (some i, xs) Γ) : wI cx Φ (.val (.var i)) Γ QI := by
  have e : itV i Γ = .ok d Γ := by
    unfold itV
    rw [h]
    match s, k with
    | some (.fr _), k => cases k; rfl
    | some (.mu _), k => cases k; rfl
    | some (.lk _), k => cases k; rfl
  exact WP.bind (m := itV i) ⟨d, Γ, e, WP.opt ⟨_, by rw [z]; rfl, q⟩⟩
theorem wI_val (hs : a.slot = none) (h : wV cx Φ a Γ fun x Γ1 => ∃ xs, x.seq? = some xs ∧ QI (none, xs) Γ1) : wI cx Φ (.val a) Γ QI := by
  have e : mIt a (ev2 cx Φ a).r.v = mIe (ev2 cx Φ a).r.v := by
    cases a <;> first | rfl | cases hs
  have : WP (mIe (ev2 cx Φ a).r.v) Γ QI := WP.bind (WP.mono h fun x G ⟨xs, z, q⟩ => WP.opt ⟨_, by rw [z]; rfl, q⟩)
  rw [← e] at this
  exact this
def natD (k : Nat) : D := .int (k : Int)
theorem wI_r1 (h : wV cx Φ a Γ fun x Γ1 => ∃ n, x = .int n ∧ n < 2 ^ 60 ∧ -2 ^ 60 < n ∧ QI (none, (List.range n.toNat).map natD) Γ1) : wI cx Φ (.r1 a) Γ QI :=
  WP.bind (WP.mono h fun x G ⟨n, z, h1, h2, q⟩ => by
    subst z
    refine WP.opt ⟨_, ?_, q⟩
    have e : (decide (n < 2 ^ 60) && decide (-2 ^ 60 < n)) = true := by rw [Bool.and_eq_true]; exact ⟨decide_eq_true h1, decide_eq_true h2⟩
    unfold r1D
    dsimp only
    rw [if_pos e]
    rfl)
theorem wI_r2 (h : wV cx Φ a Γ fun x Γ1 => wV cx Φ b Γ1 fun y Γ2 => ∃ i j, x = .int i ∧ y = .int j ∧ i < 2 ^ 60 ∧ -2 ^ 60 < i ∧ j < 2 ^ 60 ∧ -2 ^ 60 < j ∧ QI (none, (List.range (j - i).toNat).map fun (k : Nat) => D.int (i + (k : Int))) Γ2) : wI cx Φ (.r2 a b) Γ QI :=
  WP.bind (WP.mono h fun x G q => WP.bind (WP.mono q fun y G2 ⟨i, j, z1, z2, h1, h2, h3, h4, q3⟩ => by
    subst z1; subst z2
    refine WP.opt ⟨_, ?_, q3⟩
    have e : (decide (i < 2 ^ 60) && decide (-2 ^ 60 < i) && decide (j < 2 ^ 60) && decide (-2 ^ 60 < j)) = true := by simp only [Bool.and_eq_true]; exact ⟨⟨⟨decide_eq_true h1, decide_eq_true h2⟩, decide_eq_true h3⟩, decide_eq_true h4⟩
    unfold r2D
    dsimp only
    rw [if_pos e]
    rfl))
theorem wI_zip (h : wV cx Φ a Γ fun x Γ1 => wV cx Φ b Γ1 fun y Γ2 => ∃ xs, zipA x y = some xs ∧ QI (none, xs) Γ2) : wI cx Φ (.zip a b) Γ QI :=
  WP.bind (WP.mono h fun x G q => WP.bind (WP.mono q fun y G2 ⟨xs, e, q⟩ => WP.opt ⟨_, by rw [e]; rfl, q⟩))
theorem wI_zipr (h : wV cx Φ a Γ fun x Γ1 => ∃ n, x.int? = some n ∧ wV cx Φ b Γ1 fun y Γ2 => ∃ xs, ziprD x y = some xs ∧ QI (none, xs) Γ2) : wI cx Φ (.zipr a b) Γ QI :=
  WP.bind (WP.mono h fun x G ⟨n, e, q⟩ => WP.bind (WP.opt ⟨n, e, WP.bind (WP.mono q fun y G2 ⟨xs, e, q⟩ => WP.opt ⟨_, by rw [e]; rfl, q⟩)⟩))
theorem wI_enum (h : wV cx Φ a Γ fun x Γ1 => ∃ xs, enumD x = some xs ∧ QI (none, xs) Γ1) : wI cx Φ (.enum a) Γ QI :=
  WP.bind (WP.mono h fun x G ⟨xs, e, q⟩ => WP.opt ⟨_, by rw [e]; rfl, q⟩)
/-! comprehensions -/
theorem wT_none (q : QB true Γ) : wC cx Φ .nil Γ QB := ⟨true, Γ, rfl, q⟩
theorem wC_one (h : wT cx Φ a Γ QB) : wC cx Φ (.cons a .nil) Γ QB := h
theorem backE_get (Γ0 : En) : ∀ (vs : List Nat) (Γ : En) (i : Nat), Γ.length = Γ0.length → (backE Γ0 vs Γ)[i]? = if i ∈ vs then Γ0[i]? else Γ[i]?
  | [], Γ, i, _ => by simp [backE]
  | v :: vs, Γ, i, h => by
    have ih := backE_get Γ0 vs Γ i h
    have hl : (backE Γ0 vs Γ).length = Γ0.length := by
      clear ih
      induction vs with
      | nil => exact h
      | cons w ws ihw => unfold backE; rw [List.length_set]; exact ihw
    unfold backE
    rw [List.getElem?_set]
    by_cases hv : v = i
    · subst hv
      simp only [if_true, List.mem_cons, true_or]
      by_cases hi : v < Γ0.length
      · rw [if_pos (by omega), List.getElem?_eq_getElem hi]
        simp [List.getD_eq_getElem?_getD, List.getElem?_eq_getElem hi]
      · rw [if_neg (by omega), List.getElem?_eq_none (by omega)]
    · rw [if_neg hv, ih]
      have : (i ∈ v :: vs) = (i ∈ vs) := by
        apply propext
        rw [List.mem_cons]
        exact ⟨fun z => z.resolve_left (fun q => hv q.symm), .inr⟩
      simp only [this]
theorem wipeE_leng (Γ : En) : ∀ vs : List Nat, (wipeE Γ vs).length = Γ.length
  | [] => rfl
  | v :: vs => by unfold wipeE; rw [List.length_set]; exact wipeE_leng Γ vs
theorem wipeE_get (Γ : En) : ∀ (vs : List Nat) (i : Nat), i ∉ vs → (wipeE Γ vs)[i]? = Γ[i]?
  | [], i, _ => rfl
  | v :: vs, i, h => by
    unfold wipeE
    have hv : ¬ v = i := fun z => h (by rw [z]; exact List.mem_cons_self)
    rw [List.getElem?_set, if_neg hv, wipeE_get Γ vs i fun z => h (List.mem_cons_of_mem _ z)]
theorem back_wipe (Γ : En) (vs : List Nat) : backE Γ vs (wipeE Γ vs) = Γ := by
  apply List.ext_getElem?
  intro i
  rw [backE_get _ _ _ _ (wipeE_leng _ _)]
  split
  · rfl
  · rename_i h; exact wipeE_get _ _ _ h
theorem free_lock (Γ : En) (o : Option Nat) : freeO o Γ (lockO o Γ) = Γ := by
  cases o with
  | none => rfl
  | some i =>
    show freeE i Γ (lockE i Γ) = Γ
    unfold lockE
    split
    · rename_i m h
      have hi : i < Γ.length := (List.getElem?_eq_some_iff.mp h).1
      unfold freeE
      rw [h, List.getElem?_set, if_pos rfl, if_pos hi]
      dsimp only
      rw [List.set_set]
      apply List.ext_getElem?
      intro j
      rw [List.getElem?_set]
      split
      · rename_i z; subst z; rw [h]
      · rfl
    · rename_i hn
      unfold freeE
      split
      · rename_i z _; exact absurd z (hn _)
      · rfl
/-- a comprehension that leaves all as it is -/
theorem wE_comp {α : Type} {tg : T} {it : It} {cs : Es} {own : List (Str × Nat)} (enc : α → D) (p : α → Bool) (g : α → D)
    (h : wI cx Φ it Γ fun q Γ1 => ∃ ys : List α, q.2 = ys.map enc ∧ bareE (lockO q.1 Γ1) (own.map (·.2)) = true ∧ ys.length ≤ 1000000 ∧
      (∀ y ∈ ys, ∃ Γ2, asgT tg (.d (enc y)) (wipeE (wipeE (lockO q.1 Γ1) (own.map (·.2))) (own.map (·.2))) = some Γ2 ∧ wC cx Φ cs Γ2 (fun k Γ3 => Γ3 = Γ2 ∧ k = p y) ∧ (p y = true → wV cx Φ e Γ2 fun d Γ3 => Γ3 = Γ2 ∧ d = g y) ∧ wipeE Γ2 (own.map (·.2)) = wipeE (lockO q.1 Γ1) (own.map (·.2))) ∧
      QR (.m (.lst ((ys.filter p).map g))) Γ1) : wE cx Φ (.comp e tg it cs own) Γ QR := by
  obtain ⟨⟨ls, xs⟩, Γ1, e1, ys, rfl, hb, hl, hbody, q⟩ := h
  refine ⟨_, Γ1, ?_, q⟩
  show mComp tg (own.map (·.2)) (evI cx Φ it) (lT (evL cx Φ cs)) (ev2 cx Φ e).r.v Γ = _
  unfold mComp
  rw [e1]
  dsimp only
  rw [if_pos hb]
  have key : ∀ (ys : List α) (acc : List D), acc.length + ys.length ≤ 1000000 → (∀ y ∈ ys, ∃ Γ2, asgT tg (.d (enc y)) (wipeE (wipeE (lockO ls Γ1) (own.map (·.2))) (own.map (·.2))) = some Γ2 ∧ wC cx Φ cs Γ2 (fun k Γ3 => Γ3 = Γ2 ∧ k = p y) ∧ (p y = true → wV cx Φ e Γ2 fun d Γ3 => Γ3 = Γ2 ∧ d = g y) ∧ wipeE Γ2 (own.map (·.2)) = wipeE (lockO ls Γ1) (own.map (·.2))) →
      compL tg (lT (evL cx Φ cs)) (ev2 cx Φ e).r.v (own.map (·.2)) (ys.map enc) acc (wipeE (lockO ls Γ1) (own.map (·.2))) = .ok (acc ++ (ys.filter p).map g) (wipeE (lockO ls Γ1) (own.map (·.2))) := by
    intro ys
    induction ys with
    | nil => intro acc _ _; unfold compL; simp
    | cons y ys ih =>
      intro acc hl h
      obtain ⟨Γ2, h1, ⟨k, G3, h2, rfl, rfl⟩, h3, h4⟩ := h y List.mem_cons_self
      rw [List.length_cons] at hl
      rw [List.map_cons]
      unfold compL
      rw [h1]
      dsimp only
      rw [h2]
      cases hp : p y with
      | false =>
        dsimp only
        rw [h4, ih acc (by omega) fun z hz => h z (List.mem_cons_of_mem _ hz), List.filter_cons_of_neg (by rw [hp]; simp)]
      | true =>
        obtain ⟨d, G4, h5, rfl, rfl⟩ := h3 hp
        dsimp only
        rw [h5]
        dsimp only
        rw [if_pos (by omega), h4, ih (acc ++ [g y]) (by rw [List.length_append]; simp; omega) fun z hz => h z (List.mem_cons_of_mem _ hz), List.filter_cons_of_pos hp]
        simp
  rw [key ys [] (by simpa using hl) hbody]
  dsimp only
  rw [back_wipe, free_lock]
  rfl
/-- a comprehension that hands a state on: I (what is left) (what is made) -/
theorem wE_compI {α : Type} {tg : T} {it : It} {cs : Es} {own : List (Str × Nat)} (enc : α → D) (I : List α → List D → En → Prop)
    (h : wI cx Φ it Γ fun q Γ1 => ∃ ys : List α, q.2 = ys.map enc ∧ bareE (lockO q.1 Γ1) (own.map (·.2)) = true ∧ I ys [] (wipeE (lockO q.1 Γ1) (own.map (·.2))) ∧
      (∀ y ys acc Γ', I (y :: ys) acc Γ' → acc.length < 1000000 ∧ ∃ Γ2, asgT tg (.d (enc y)) (wipeE Γ' (own.map (·.2))) = some Γ2 ∧ wC cx Φ cs Γ2 (fun k Γ3 => (k = false → I ys acc (wipeE Γ3 (own.map (·.2)))) ∧ (k = true → wV cx Φ e Γ3 fun d Γ4 => I ys (acc ++ [d]) (wipeE Γ4 (own.map (·.2)))))) ∧
      (∀ ds Γ2, I [] ds Γ2 → QR (.m (.lst ds)) (freeO q.1 Γ1 (backE (lockO q.1 Γ1) (own.map (·.2)) Γ2)))) : wE cx Φ (.comp e tg it cs own) Γ QR := by
  obtain ⟨⟨ls, xs⟩, Γ1, e1, ys, rfl, hb, h0, hbody, q⟩ := h
  have key : ∀ (ys : List α) (acc : List D) (Γ' : En), I ys acc Γ' → ∃ ds Γ2, compL tg (lT (evL cx Φ cs)) (ev2 cx Φ e).r.v (own.map (·.2)) (ys.map enc) acc Γ' = .ok ds Γ2 ∧ I [] ds Γ2 := by
    intro ys
    induction ys with
    | nil => intro acc Γ' h; exact ⟨acc, Γ', by unfold compL; rfl, h⟩
    | cons y ys ih =>
      intro acc Γ' h
      obtain ⟨hl, Γ2, h1, k, G3, h2, h3, h4⟩ := hbody y ys acc Γ' h
      cases k with
      | false =>
        obtain ⟨ds, G, e, q⟩ := ih _ _ (h3 rfl)
        refine ⟨ds, G, ?_, q⟩
        rw [List.map_cons]
        unfold compL
        rw [h1]
        dsimp only
        rw [h2]
        exact e
      | true =>
        obtain ⟨d, G4, h5, h6⟩ := h4 rfl
        obtain ⟨ds, G, e, q⟩ := ih _ _ h6
        refine ⟨ds, G, ?_, q⟩
        rw [List.map_cons]
        unfold compL
        rw [h1]
        dsimp only
        rw [h2]
        dsimp only
        rw [h5]
        dsimp only
        rw [if_pos hl]
        exact e
  obtain ⟨ds, G, e, q2⟩ := key ys [] _ h0
  refine ⟨_, _, ?_, q ds G q2⟩
  show mComp tg (own.map (·.2)) (evI cx Φ it) (lT (evL cx Φ cs)) (ev2 cx Φ _).r.v Γ = _
  unfold mComp
  rw [e1]
  dsimp only
  rw [if_pos hb, e]
/-- a comprehension that leaves all as it is: P (thing) (element) -/
theorem wE_compP {α : Type} {tg : T} {it : It} {cs : Es} {own : List (Str × Nat)} (enc : α → D) (P : α → D → Prop)
    (h : wI cx Φ it Γ fun q Γ1 => ∃ ys : List α, q.2 = ys.map enc ∧ bareE (lockO q.1 Γ1) (own.map (·.2)) = true ∧ ys.length ≤ 1000000 ∧
      (∀ y ∈ ys, ∃ Γ2, asgT tg (.d (enc y)) (wipeE (wipeE (lockO q.1 Γ1) (own.map (·.2))) (own.map (·.2))) = some Γ2 ∧ wC cx Φ cs Γ2 (fun k Γ3 => Γ3 = Γ2 ∧ k = true) ∧ (wV cx Φ e Γ2 fun d Γ3 => Γ3 = Γ2 ∧ P y d) ∧ wipeE Γ2 (own.map (·.2)) = wipeE (lockO q.1 Γ1) (own.map (·.2))) ∧
      (∀ ds, ds.length = ys.length → (∀ d ∈ ds, ∃ y ∈ ys, P y d) → QR (.m (.lst ds)) Γ1)) : wE cx Φ (.comp e tg it cs own) Γ QR := by
  obtain ⟨⟨ls, xs⟩, Γ1, e1, ys, hx, hb, hl, hbody, q⟩ := h
  have hb' : ∀ y, ∃ d, y ∈ ys → (∃ Γ2, asgT tg (.d (enc y)) (wipeE (wipeE (lockO ls Γ1) (own.map (·.2))) (own.map (·.2))) = some Γ2 ∧ wC cx Φ cs Γ2 (fun k Γ3 => Γ3 = Γ2 ∧ k = true) ∧ (wV cx Φ e Γ2 fun d' Γ3 => Γ3 = Γ2 ∧ d' = d) ∧ wipeE Γ2 (own.map (·.2)) = wipeE (lockO ls Γ1) (own.map (·.2))) ∧ P y d := fun y => by
    by_cases hy : y ∈ ys
    · obtain ⟨Γ2, h1, h2, ⟨d, G, e, rfl, hp⟩, h4⟩ := hbody y hy
      exact ⟨d, fun _ => ⟨⟨_, h1, h2, ⟨d, _, e, rfl, rfl⟩, h4⟩, hp⟩⟩
    · exact ⟨.non, fun z => absurd z hy⟩
  refine wE_comp enc (fun _ => true) (fun y => (hb' y).choose) ⟨(ls, xs), Γ1, e1, ys, hx, hb, hl, fun y hy => ?_, ?_⟩
  · obtain ⟨⟨Γ2, h1, h2, h3, h4⟩, _⟩ := (hb' y).choose_spec hy
    exact ⟨Γ2, h1, h2, fun _ => h3, h4⟩
  · refine q _ (by simp) fun d hd => ?_
    obtain ⟨y, hy, rfl⟩ := List.mem_map.mp hd
    have hy := (List.mem_filter.mp hy).1
    exact ⟨y, hy, ((hb' y).choose_spec hy).2⟩
/-! statements -/
variable {N : En → Prop} {Z : R → En → Prop} {B C : En → Prop} {Y : Xc → Prop} {s : S} {ss : Ss}
theorem wS_nil (h : N Γ) : wS cx Φ .nil Γ ⟨N, Z, B, C, Y⟩ := h
theorem wS_cons (h : w1 cx Φ s Γ ⟨fun Γ1 => wS cx Φ ss Γ1 ⟨N, Z, B, C, Y⟩, Z, B, C, Y⟩) : wS cx Φ (.cons s ss) Γ ⟨N, Z, B, C, Y⟩ := by
  unfold wS exs
  unfold w1 at h
  cases hx : ex cx Φ s Γ <;> rw [hx] at h <;> exact h
theorem w1_asg {tg : T} (h : wE cx Φ e Γ fun r Γ1 => ∃ Γ2, asgT tg r Γ1 = some Γ2 ∧ N Γ2) : w1 cx Φ (.asg tg e) Γ ⟨N, Z, B, C, Y⟩ := by
  obtain ⟨r, G, e1, Γ2, e2, q⟩ := h
  have e1 : ev cx Φ e Γ = .ok r G := e1
  unfold w1 ex
  rw [e1]
  dsimp only
  rw [e2]
  exact q
theorem w1_asgs {ts : List T} {es : Es} (h : wR cx Φ es Γ fun rs Γ1 => ∃ Γ2, asgTs ts rs Γ1 = some Γ2 ∧ N Γ2) : w1 cx Φ (.asgs ts es) Γ ⟨N, Z, B, C, Y⟩ := by
  obtain ⟨r, G, e1, Γ2, e2, q⟩ := h
  have e1 : evr cx Φ es Γ = .ok r G := e1
  unfold w1 ex
  rw [e1]
  dsimp only
  rw [e2]
  exact q
theorem w1_put {k v : E} {m0 : M} (h0 : obV i Γ = some m0) (h : wV cx Φ v Γ fun x Γ1 => wV cx Φ k Γ1 fun y Γ2 => ∃ o, obV i Γ2 = some o ∧ ∃ o', putM o y x = some o' ∧ N (stV i o' Γ2)) : w1 cx Φ (.put i k v) Γ ⟨N, Z, B, C, Y⟩ := by
  obtain ⟨x, G, e1, y, G2, e2, o, e3, o', e4, q⟩ := h
  have e1 : (ev cx Φ v).v Γ = .ok x G := e1
  have e2 : (ev cx Φ k).v G = .ok y G2 := e2
  unfold w1 ex mPut
  rw [h0]
  dsimp only
  rw [e1]
  dsimp only
  rw [e2]
  dsimp only
  rw [e3]
  dsimp only [Option.bind]
  rw [e4]
  exact q
theorem w1_fld {f : Str} (h : wV cx Φ e Γ fun x Γ1 => ∃ o, obV i Γ1 = some o ∧ ∃ o', fldM cx o f x = some o' ∧ N (stV i o' Γ1)) : w1 cx Φ (.fld i f e) Γ ⟨N, Z, B, C, Y⟩ := by
  obtain ⟨x, G, e1, o, e3, o', e4, q⟩ := h
  have e1 : (ev cx Φ e).v Γ = .ok x G := e1
  unfold w1 ex mFld
  rw [e1]
  dsimp only
  rw [e3]
  dsimp only [Option.bind]
  rw [e4]
  exact q
theorem w1_aug {op : BOp} {s0 : Option Sl} {n : Int} (h1 : Γ[i]? = some s0) (h2 : pkOf s0 = some (.int n)) (h : wV cx Φ e Γ fun y Γ1 => ∃ m, y = .int m ∧ ∃ k, binI op n m = some k ∧ ∃ Γ2, setV i (.d (.int k)) Γ1 = some Γ2 ∧ N Γ2) : w1 cx Φ (.aug i op e) Γ ⟨N, Z, B, C, Y⟩ := by
  obtain ⟨y, G, e1, m, rfl, k, e3, Γ2, e4, q⟩ := h
  have e1 : (ev cx Φ e).v Γ = .ok (.int m) G := e1
  unfold w1 ex
  simp only [EM.bind, pkV_eq h1 h2, e1, EM.opt, e3, Option.map, e4]
  exact q
theorem w1_exp (h : wE cx Φ e Γ fun _ Γ1 => N Γ1) : w1 cx Φ (.exp e) Γ ⟨N, Z, B, C, Y⟩ := by
  obtain ⟨r, G, e1, q⟩ := h
  have e1 : ev cx Φ e Γ = .ok r G := e1
  unfold w1 ex
  rw [e1]
  exact q
theorem w1_ret (hs : e.slot = none) (h : wE cx Φ e Γ Z) : w1 cx Φ (.ret e) Γ ⟨N, Z, B, C, Y⟩ := by
  obtain ⟨r, G, e1, q⟩ := h
  have e1 : ev cx Φ e Γ = .ok r G := e1
  unfold w1 ex
  rw [hs]
  dsimp only
  rw [e1]
  exact q
theorem w1_retM {m : M} (h : Γ[i]? = some (some (.mu m))) (q : Z (.m m) (Γ.set i none)) : w1 cx Φ (.ret (.var i)) Γ ⟨N, Z, B, C, Y⟩ := by
  unfold w1 ex E.slot
  dsimp only
  rw [h]
  exact q
theorem w1_retF {d : D} (h : Γ[i]? = some (some (.fr d))) (q : Z (.d d) Γ) : w1 cx Φ (.ret (.var i)) Γ ⟨N, Z, B, C, Y⟩ := by
  unfold w1 ex E.slot
  dsimp only
  rw [h]
  exact q
theorem w1_retN (q : Z (.d .non) Γ) : w1 cx Φ .retN Γ ⟨N, Z, B, C, Y⟩ := q
theorem w1_ite {x y : Ss} (h : wT cx Φ c Γ fun k Γ1 => (k = true → wS cx Φ x Γ1 ⟨N, Z, B, C, Y⟩) ∧ (k = false → wS cx Φ y Γ1 ⟨N, Z, B, C, Y⟩)) : w1 cx Φ (.ite c x y) Γ ⟨N, Z, B, C, Y⟩ := by
  obtain ⟨k, G, e1, q1, q2⟩ := h
  have e1 : evT cx Φ c Γ = .ok k G := e1
  unfold w1 ex
  rw [e1]
  cases k with
  | true => exact q1 rfl
  | false => exact q2 rfl
theorem w1_pass (q : N Γ) : w1 cx Φ .pass Γ ⟨N, Z, B, C, Y⟩ := q
theorem w1_brk (q : B Γ) : w1 cx Φ .brk Γ ⟨N, Z, B, C, Y⟩ := q
theorem w1_cont (q : C Γ) : w1 cx Φ .cont Γ ⟨N, Z, B, C, Y⟩ := q
/-- a loop: I (what is left) -/
theorem w1_for {α : Type} {tg : T} {it : It} {b : Ss} (enc : α → D) (I : List α → En → Prop)
    (h : wI cx Φ it Γ fun q Γ1 => ∃ ys : List α, q.2 = ys.map enc ∧ I ys (lockO q.1 Γ1) ∧
      (∀ y ys Γ', I (y :: ys) Γ' → ∃ Γ2, asgT tg (.d (enc y)) Γ' = some Γ2 ∧ wS cx Φ b Γ2 ⟨I ys, Z, fun Γ3 => N (freeO q.1 Γ1 Γ3), I ys, Y⟩) ∧
      (∀ Γ2, I [] Γ2 → N (freeO q.1 Γ1 Γ2))) : w1 cx Φ (.for tg it b) Γ ⟨N, Z, B, C, Y⟩ := by
  obtain ⟨⟨ls, xs⟩, Γ1, e1, ys, rfl, h0, hbody, q⟩ := h
  have key : ∀ (ys : List α) (Γ' : En), I ys Γ' → (Po.mk (fun Γ3 => N (freeO ls Γ1 Γ3)) Z B C Y).ok (forL tg (exs cx Φ b) (ys.map enc) Γ') := by
    intro ys
    induction ys with
    | nil => intro Γ' h; exact q _ h
    | cons y ys ih =>
      intro Γ' h
      obtain ⟨Γ2, h1, h2⟩ := hbody y ys Γ' h
      rw [List.map_cons]
      unfold forL
      rw [h1]
      dsimp only
      unfold wS at h2
      cases hx : exs cx Φ b Γ2 with
      | nx G => rw [hx] at h2; exact ih _ h2
      | rt r G => rw [hx] at h2; exact h2
      | bk G => rw [hx] at h2; exact h2
      | ct G => rw [hx] at h2; exact ih _ h2
      | no => rw [hx] at h2; exact h2.elim
      | ex c => rw [hx] at h2; exact h2
  have k2 := key ys _ h0
  unfold w1 ex mFor
  rw [e1]
  dsimp only
  cases hx : forL tg (exs cx Φ b) (ys.map enc) (lockO ls Γ1) <;> rw [hx] at k2 <;> exact k2
/-- a while: by a measure -/
theorem w1_while {b : Ss} (I : Nat → En → Prop) (n : Nat) (hn : n < cx.fuel) (h0 : I n Γ)
    (h : ∀ n Γ', I n Γ' → wT cx Φ c Γ' fun k Γ2 => (k = false → N Γ2) ∧ (k = true → wS cx Φ b Γ2 ⟨fun Γ3 => ∃ m, m < n ∧ I m Γ3, Z, N, fun Γ3 => ∃ m, m < n ∧ I m Γ3, Y⟩)) : w1 cx Φ (.whil c b) Γ ⟨N, Z, B, C, Y⟩ := by
  have key : ∀ (f n : Nat) (Γ' : En), n < f → I n Γ' → Po.ok ⟨N, Z, B, C, Y⟩ (whL (evT cx Φ c) (exs cx Φ b) f Γ') := by
    intro f
    induction f with
    | zero => intro n Γ' hn; omega
    | succ f ih =>
      intro n Γ' hn hI
      obtain ⟨k, Γ2, e1, q1, q2⟩ := h n Γ' hI
      have e1 : evT cx Φ c Γ' = .ok k Γ2 := e1
      unfold whL
      rw [e1]
      cases k with
      | false => exact q1 rfl
      | true =>
        dsimp only
        have h2 := q2 rfl
        unfold wS at h2
        cases hx : exs cx Φ b Γ2 with
        | nx G => rw [hx] at h2; obtain ⟨m, hm, z⟩ := h2; exact ih m G (by omega) z
        | rt r G => rw [hx] at h2; exact h2
        | bk G => rw [hx] at h2; exact h2
        | ct G => rw [hx] at h2; obtain ⟨m, hm, z⟩ := h2; exact ih m G (by omega) z
        | no => rw [hx] at h2; exact h2.elim
        | ex c => rw [hx] at h2; exact h2
  exact key cx.fuel n Γ hn h0
end
/-! ### the same, closed -/
@[irreducible] def WE (cx : CtxR) (Φ : Phi) (e : E) (Γ : En) (Q : R → En → Prop) : Prop := wE cx Φ e Γ Q
@[irreducible] def WT (cx : CtxR) (Φ : Phi) (e : E) (Γ : En) (Q : Bool → En → Prop) : Prop := wT cx Φ e Γ Q
@[irreducible] def WK (cx : CtxR) (Φ : Phi) (e : E) (Γ : En) (Q : D → En → Prop) : Prop := wK cx Φ e Γ Q
@[irreducible] def WV (cx : CtxR) (Φ : Phi) (e : E) (Γ : En) (Q : D → En → Prop) : Prop := wV cx Φ e Γ Q
@[irreducible] def WL (cx : CtxR) (Φ : Phi) (e : Es) (Γ : En) (Q : (List D) → En → Prop) : Prop := wL cx Φ e Γ Q
@[irreducible] def WB (cx : CtxR) (Φ : Phi) (e : Es) (Γ : En) (Q : (List D) → En → Prop) : Prop := wB cx Φ e Γ Q
@[irreducible] def WR (cx : CtxR) (Φ : Phi) (e : Es) (Γ : En) (Q : (List R) → En → Prop) : Prop := wR cx Φ e Γ Q
@[irreducible] def WO (cx : CtxR) (Φ : Phi) (e : Es) (Γ : En) (Q : (Option Int) → En → Prop) : Prop := wO cx Φ e Γ Q
@[irreducible] def WI (cx : CtxR) (Φ : Phi) (e : It) (Γ : En) (Q : (Option Nat × List D) → En → Prop) : Prop := wI cx Φ e Γ Q
@[irreducible] def WC (cx : CtxR) (Φ : Phi) (e : Es) (Γ : En) (Q : Bool → En → Prop) : Prop := wC cx Φ e Γ Q
@[irreducible] def WS (cx : CtxR) (Φ : Phi) (ss : Ss) (Γ : En) (p : Po) : Prop := wS cx Φ ss Γ p
@[irreducible] def W1 (cx : CtxR) (Φ : Phi) (s : S) (Γ : En) (p : Po) : Prop := w1 cx Φ s Γ p
section
variable {cx : CtxR} {Φ : Phi} {Γ : En} {e a b c t : E} {as : Es} {i : Nat}
variable {QR : R → En → Prop} {QD : D → En → Prop} {QB : Bool → En → Prop} {QL : List D → En → Prop}
theorem WE.mono {Q Q' : R → En → Prop} (h : WE cx Φ e Γ Q) (k : ∀ a Γ', Q a Γ' → Q' a Γ') : WE cx Φ e Γ Q' := by
  simp only [WE, WT, WK, WV, WL, WB, WR, WO, WI, WS, W1, WC] at *
  exact wE.mono h k
theorem WV.mono {Q Q' : D → En → Prop} (h : WV cx Φ e Γ Q) (k : ∀ a Γ', Q a Γ' → Q' a Γ') : WV cx Φ e Γ Q' := by
  simp only [WE, WT, WK, WV, WL, WB, WR, WO, WI, WS, W1, WC] at *
  exact wV.mono h k
theorem WT.mono {Q Q' : Bool → En → Prop} (h : WT cx Φ e Γ Q) (k : ∀ a Γ', Q a Γ' → Q' a Γ') : WT cx Φ e Γ Q' := by
  simp only [WE, WT, WK, WV, WL, WB, WR, WO, WI, WS, W1, WC] at *
  exact wT.mono h k
theorem WE_fr {d : D} (h : Γ[i]? = some (some (.fr d))) (q : QR (.d d) Γ) : WE cx Φ (.var i) Γ QR := by
  simp only [WE, WT, WK, WV, WL, WB, WR, WO, WI, WS, W1, WC] at *
  exact wE_fr h q
theorem WE_mu {m : M} (h : Γ[i]? = some (some (.mu m))) (q : QR (.d m.d) (Γ.set i (some (.fr m.d)))) : WE cx Φ (.var i) Γ QR := by
  simp only [WE, WT, WK, WV, WL, WB, WR, WO, WI, WS, W1, WC] at *
  exact wE_mu h q
theorem WV_e (h : WE cx Φ e Γ fun r Γ' => QD r.v Γ') : WV cx Φ e Γ QD := by
  simp only [WE, WT, WK, WV, WL, WB, WR, WO, WI, WS, W1, WC] at *
  exact wV_e h
theorem WV_fr {d : D} (h : Γ[i]? = some (some (.fr d))) (q : QD d Γ) : WV cx Φ (.var i) Γ QD := by
  simp only [WE, WT, WK, WV, WL, WB, WR, WO, WI, WS, W1, WC] at *
  exact wV_fr h q
theorem WV_mu {m : M} (h : Γ[i]? = some (some (.mu m))) (q : QD m.d (Γ.set i (some (.fr m.d)))) : WV cx Φ (.var i) Γ QD := by
  simp only [WE, WT, WK, WV, WL, WB, WR, WO, WI, WS, W1, WC] at *
  exact wV_mu h q
theorem WK_var {s : Option Sl} {d : D} (h : Γ[i]? = some s) (k : pkOf s = some d) (q : QD d Γ) : WK cx Φ (.var i) Γ QD := by
  simp only [WE, WT, WK, WV, WL, WB, WR, WO, WI, WS, W1, WC] at *
  exact wK_var h k q
theorem WT_var {s : Option Sl} {d : D} {x : Bool} (h : Γ[i]? = some s) (k : pkOf s = some d) (z : truD d = some x) (q : QB x Γ) : WT cx Φ (.var i) Γ QB := by
  simp only [WE, WT, WK, WV, WL, WB, WR, WO, WI, WS, W1, WC] at *
  exact wT_var h k z q
theorem WK_e (hs : e.slot = none) (h : WV cx Φ e Γ QD) : WK cx Φ e Γ QD := by
  simp only [WE, WT, WK, WV, WL, WB, WR, WO, WI, WS, W1, WC] at *
  exact wK_e hs h
theorem WT_mk (hs : (ev2 cx Φ e).t = (mkR (ev2 cx Φ e).r).t) (h : WV cx Φ e Γ fun d Γ' => ∃ x, truD d = some x ∧ QB x Γ') : WT cx Φ e Γ QB := by
  simp only [WE, WT, WK, WV, WL, WB, WR, WO, WI, WS, W1, WC] at *
  exact wT_mk hs h
theorem WV_non (q : QD .non Γ) : WV cx Φ .non Γ QD := by
  simp only [WE, WT, WK, WV, WL, WB, WR, WO, WI, WS, W1, WC] at *
  exact wV_non q
theorem WV_bl {x : Bool} (q : QD (.bl x) Γ) : WV cx Φ (.bl x) Γ QD := by
  simp only [WE, WT, WK, WV, WL, WB, WR, WO, WI, WS, W1, WC] at *
  exact wV_bl q
theorem WV_int {x : Int} (q : QD (.int x) Γ) : WV cx Φ (.int x) Γ QD := by
  simp only [WE, WT, WK, WV, WL, WB, WR, WO, WI, WS, W1, WC] at *
  exact wV_int q
theorem WV_str {x : Str} (q : QD (.str x) Γ) : WV cx Φ (.str x) Γ QD := by
  simp only [WE, WT, WK, WV, WL, WB, WR, WO, WI, WS, W1, WC] at *
  exact wV_str q
theorem WE_non (q : QR (.d .non) Γ) : WE cx Φ .non Γ QR := by
  simp only [WE, WT, WK, WV, WL, WB, WR, WO, WI, WS, W1, WC] at *
  exact wE_non q
theorem WE_bl {x : Bool} (q : QR (.d (.bl x)) Γ) : WE cx Φ (.bl x) Γ QR := by
  simp only [WE, WT, WK, WV, WL, WB, WR, WO, WI, WS, W1, WC] at *
  exact wE_bl q
theorem WE_int {x : Int} (q : QR (.d (.int x)) Γ) : WE cx Φ (.int x) Γ QR := by
  simp only [WE, WT, WK, WV, WL, WB, WR, WO, WI, WS, W1, WC] at *
  exact wE_int q
theorem WE_str {x : Str} (q : QR (.d (.str x)) Γ) : WE cx Φ (.str x) Γ QR := by
  simp only [WE, WT, WK, WV, WL, WB, WR, WO, WI, WS, W1, WC] at *
  exact wE_str q
theorem WE_gint {x : Str} {k : Int} (h : cx.nums.lookup x = some k) (q : QR (.d (.int k)) Γ) : WE cx Φ (.gint x) Γ QR := by
  simp only [WE, WT, WK, WV, WL, WB, WR, WO, WI, WS, W1, WC] at *
  exact wE_gint h q
theorem WE_fnv {x : Str} (q : QR (.d (.fn x)) Γ) : WE cx Φ (.fnv x) Γ QR := by
  simp only [WE, WT, WK, WV, WL, WB, WR, WO, WI, WS, W1, WC] at *
  exact wE_fnv q
theorem WE_bin {op : BOp} (h : WV cx Φ a Γ fun x Γ1 => WV cx Φ b Γ1 fun y Γ2 => ∃ r, binD op x y = some r ∧ QR r Γ2) : WE cx Φ (.bin op a b) Γ QR := by
  simp only [WE, WT, WK, WV, WL, WB, WR, WO, WI, WS, W1, WC] at *
  exact wE_bin h
theorem WE_neg (h : WV cx Φ a Γ fun x Γ1 => ∃ i, x = .int i ∧ QR (.d (.int (-i))) Γ1) : WE cx Φ (.neg a) Γ QR := by
  simp only [WE, WT, WK, WV, WL, WB, WR, WO, WI, WS, W1, WC] at *
  exact wE_neg h
theorem WE_nt (h : WK cx Φ a Γ fun x Γ1 => ∃ k, truD x = some k ∧ QR (.d (.bl (!k))) Γ1) : WE cx Φ (.nt a) Γ QR := by
  simp only [WE, WT, WK, WV, WL, WB, WR, WO, WI, WS, W1, WC] at *
  exact wE_nt h
theorem WT_nt (h : WT cx Φ a Γ fun k Γ1 => QB (!k) Γ1) : WT cx Φ (.nt a) Γ QB := by
  simp only [WE, WT, WK, WV, WL, WB, WR, WO, WI, WS, W1, WC] at *
  exact wT_nt h
theorem WE_bop1 {an : Bool} (h : WE cx Φ a Γ QR) : WE cx Φ (.bop an (.cons a .nil)) Γ QR := by
  simp only [WE, WT, WK, WV, WL, WB, WR, WO, WI, WS, W1, WC] at *
  exact wE_bop1 h
theorem WE_bop2 {an : Bool} (h : WV cx Φ a Γ fun x Γ1 => ∃ k, x = .bl k ∧ (k = an → WE cx Φ (.bop an (.cons b as)) Γ1 QR) ∧ (k = !an → QR (.d (.bl (!an))) Γ1)) : WE cx Φ (.bop an (.cons a (.cons b as))) Γ QR := by
  simp only [WE, WT, WK, WV, WL, WB, WR, WO, WI, WS, W1, WC] at *
  exact wE_bop2 h
theorem WT_bop0 {an : Bool} (h : QB an Γ) : WT cx Φ (.bop an .nil) Γ QB := by
  simp only [WE, WT, WK, WV, WL, WB, WR, WO, WI, WS, W1, WC] at *
  exact wT_bop0 h
theorem WT_bop1 {an : Bool} (h : WT cx Φ a Γ QB) : WT cx Φ (.bop an (.cons a .nil)) Γ QB := by
  simp only [WE, WT, WK, WV, WL, WB, WR, WO, WI, WS, W1, WC] at *
  exact wT_bop1 h
theorem WT_bop2 {an : Bool} (h : WT cx Φ a Γ fun k Γ1 => (k = an → WT cx Φ (.bop an (.cons b as)) Γ1 QB) ∧ (k = !an → QB (!an) Γ1)) : WT cx Φ (.bop an (.cons a (.cons b as))) Γ QB := by
  simp only [WE, WT, WK, WV, WL, WB, WR, WO, WI, WS, W1, WC] at *
  exact wT_bop2 h
theorem WE_cmp {op : COp} (hs : a.slot = none ∨ b.still = false) (h : WV cx Φ a Γ fun x Γ1 => WK cx Φ b Γ1 fun y Γ2 => ∃ k, cmpD op x y = some k ∧ QR (.d (.bl k)) Γ2) : WE cx Φ (.cmp op a b) Γ QR := by
  simp only [WE, WT, WK, WV, WL, WB, WR, WO, WI, WS, W1, WC] at *
  exact wE_cmp hs h
theorem WE_cmpv {op : COp} {s : Option Sl} {x : D} (hb : b.still = true) (h1 : Γ[i]? = some s) (h2 : pkOf s = some x) (h : WK cx Φ b Γ fun y Γ2 => Γ2 = Γ ∧ ∃ k, cmpD op x y = some k ∧ QR (.d (.bl k)) Γ) : WE cx Φ (.cmp op (.var i) b) Γ QR := by
  simp only [WE, WT, WK, WV, WL, WB, WR, WO, WI, WS, W1, WC] at *
  exact wE_cmpv hb h1 h2 h
theorem WE_cmp2 {o1 o2 : COp} (h : WV cx Φ a Γ fun x Γ1 => WV cx Φ b Γ1 fun y Γ2 => ∃ k, cmpD o1 x y = some k ∧ (k = false → QR (.d (.bl false)) Γ2) ∧ (k = true → WV cx Φ c Γ2 fun z Γ3 => ∃ j, cmpD o2 y z = some j ∧ QR (.d (.bl j)) Γ3)) : WE cx Φ (.cmp2 o1 o2 a b c) Γ QR := by
  simp only [WE, WT, WK, WV, WL, WB, WR, WO, WI, WS, W1, WC] at *
  exact wE_cmp2 h
theorem WE_isc {ng : Bool} {k : Option Bool} (h : WK cx Φ a Γ fun x Γ1 => QR (.d (.bl (if ng then !isC k x else isC k x))) Γ1) : WE cx Φ (.isc ng a k) Γ QR := by
  simp only [WE, WT, WK, WV, WL, WB, WR, WO, WI, WS, W1, WC] at *
  exact wE_isc h
theorem WE_ite (h : WT cx Φ t Γ fun k Γ1 => (k = true → WE cx Φ a Γ1 QR) ∧ (k = false → WE cx Φ b Γ1 QR)) : WE cx Φ (.ite t a b) Γ QR := by
  simp only [WE, WT, WK, WV, WL, WB, WR, WO, WI, WS, W1, WC] at *
  exact wE_ite h
theorem WT_ite (h : WT cx Φ t Γ fun k Γ1 => (k = true → WT cx Φ a Γ1 QB) ∧ (k = false → WT cx Φ b Γ1 QB)) : WT cx Φ (.ite t a b) Γ QB := by
  simp only [WE, WT, WK, WV, WL, WB, WR, WO, WI, WS, W1, WC] at *
  exact wT_ite h
theorem WE_isi {one : Bool} {ts : List Ty} (h : WK cx Φ a Γ fun x Γ1 => ∃ k, isiD cx x ts = some k ∧ QR (.d (.bl k)) Γ1) : WE cx Φ (.isi a one ts) Γ QR := by
  simp only [WE, WT, WK, WV, WL, WB, WR, WO, WI, WS, W1, WC] at *
  exact wE_isi h
theorem WE_blt {f : Bl} (h : WB cx Φ as Γ fun ds Γ1 => ∃ r, bltD f ds = some r ∧ QR r Γ1) : WE cx Φ (.blt f as) Γ QR := by
  simp only [WE, WT, WK, WV, WL, WB, WR, WO, WI, WS, W1, WC] at *
  exact wE_blt h
theorem WE_attr {f : Str} (h : WK cx Φ a Γ fun x Γ1 => ∃ d, attrD cx x f = some d ∧ QR (.d d) Γ1) : WE cx Φ (.attr a f) Γ QR := by
  simp only [WE, WT, WK, WV, WL, WB, WR, WO, WI, WS, W1, WC] at *
  exact wE_attr h
theorem WE_ix (hs : a.slot = none) (h : WV cx Φ a Γ fun x Γ1 => WV cx Φ b Γ1 fun y Γ2 => ∃ d, ixD x y = some d ∧ QR (.d d) Γ2) : WE cx Φ (.ix a b) Γ QR := by
  simp only [WE, WT, WK, WV, WL, WB, WR, WO, WI, WS, W1, WC] at *
  exact wE_ix hs h
theorem WE_ixv {s : Option Sl} {x : D} (h1 : Γ[i]? = some s) (h2 : pkOf s = some x) (h : WV cx Φ b Γ fun y Γ2 => ∃ s2, Γ2[i]? = some s2 ∧ ∃ x2, pkOf s2 = some x2 ∧ ∃ d, ixD x2 y = some d ∧ QR (.d d) Γ2) : WE cx Φ (.ix (.var i) b) Γ QR := by
  simp only [WE, WT, WK, WV, WL, WB, WR, WO, WI, WS, W1, WC] at *
  exact wE_ixv h1 h2 h
theorem WE_cut {lo hi : Es} (h : WV cx Φ a Γ fun x Γ1 => WO cx Φ lo Γ1 fun l Γ2 => WO cx Φ hi Γ2 fun u Γ3 => ∃ r, cutD x l u = some r ∧ QR r Γ3) : WE cx Φ (.cut a lo hi) Γ QR := by
  simp only [WE, WT, WK, WV, WL, WB, WR, WO, WI, WS, W1, WC] at *
  exact wE_cut h
theorem WE_rev (h : WV cx Φ a Γ fun x Γ1 => ∃ r, revD x = some r ∧ QR r Γ1) : WE cx Φ (.rev a) Γ QR := by
  simp only [WE, WT, WK, WV, WL, WB, WR, WO, WI, WS, W1, WC] at *
  exact wE_rev h
theorem WE_tup (h : WL cx Φ as Γ fun ds Γ1 => ds.length ≤ 1000 ∧ QR (.d (.tup ds)) Γ1) : WE cx Φ (.tup as) Γ QR := by
  simp only [WE, WT, WK, WV, WL, WB, WR, WO, WI, WS, W1, WC] at *
  exact wE_tup h
theorem WE_lst (h : WL cx Φ as Γ fun ds Γ1 => ds.length ≤ 1000 ∧ QR (.m (.lst ds)) Γ1) : WE cx Φ (.lst as) Γ QR := by
  simp only [WE, WT, WK, WV, WL, WB, WR, WO, WI, WS, W1, WC] at *
  exact wE_lst h
theorem WE_dct {ks : List Str} (hk : (decide (ks.length ≤ 15) && decide ks.Nodup) = true) (h : WL cx Φ as Γ fun ds Γ1 => ds.length = ks.length ∧ QR (.m (.dct (ks.map Sum.inr) ds)) Γ1) : WE cx Φ (.dct ks as) Γ QR := by
  simp only [WE, WT, WK, WV, WL, WB, WR, WO, WI, WS, W1, WC] at *
  exact wE_dct hk h
theorem WL_nil (q : QL [] Γ) : WL cx Φ .nil Γ QL := by
  simp only [WE, WT, WK, WV, WL, WB, WR, WO, WI, WS, W1, WC] at *
  exact wL_nil q
theorem WL_cons (h : WV cx Φ a Γ fun x Γ1 => WL cx Φ as Γ1 fun xs Γ2 => QL (x :: xs) Γ2) : WL cx Φ (.cons a as) Γ QL := by
  simp only [WE, WT, WK, WV, WL, WB, WR, WO, WI, WS, W1, WC] at *
  exact wL_cons h
theorem WB_nil (q : QL [] Γ) : WB cx Φ .nil Γ QL := by
  simp only [WE, WT, WK, WV, WL, WB, WR, WO, WI, WS, W1, WC] at *
  exact wB_nil q
theorem WB_one (h : WK cx Φ a Γ fun x Γ1 => QL [x] Γ1) : WB cx Φ (.cons a .nil) Γ QL := by
  simp only [WE, WT, WK, WV, WL, WB, WR, WO, WI, WS, W1, WC] at *
  exact wB_one h
theorem WB_cons (h : WV cx Φ a Γ fun x Γ1 => WB cx Φ (.cons b as) Γ1 fun xs Γ2 => QL (x :: xs) Γ2) : WB cx Φ (.cons a (.cons b as)) Γ QL := by
  simp only [WE, WT, WK, WV, WL, WB, WR, WO, WI, WS, W1, WC] at *
  exact wB_cons h
theorem WR_nil {Q : List R → En → Prop} (q : Q [] Γ) : WR cx Φ .nil Γ Q := by
  simp only [WE, WT, WK, WV, WL, WB, WR, WO, WI, WS, W1, WC] at *
  exact wR_nil q
theorem WR_cons {Q : List R → En → Prop} (h : WE cx Φ a Γ fun x Γ1 => WR cx Φ as Γ1 fun xs Γ2 => Q (x :: xs) Γ2) : WR cx Φ (.cons a as) Γ Q := by
  simp only [WE, WT, WK, WV, WL, WB, WR, WO, WI, WS, W1, WC] at *
  exact wR_cons h
theorem WO_nil {Q : Option Int → En → Prop} (q : Q none Γ) : WO cx Φ .nil Γ Q := by
  simp only [WE, WT, WK, WV, WL, WB, WR, WO, WI, WS, W1, WC] at *
  exact wO_nil q
theorem WO_one {Q : Option Int → En → Prop} (h : WV cx Φ a Γ fun x Γ1 => ∃ i, x = .int i ∧ Q (some i) Γ1) : WO cx Φ (.cons a as) Γ Q := by
  simp only [WE, WT, WK, WV, WL, WB, WR, WO, WI, WS, W1, WC] at *
  exact wO_one h
theorem WE_call0 {f : Str} (h : ∃ r G, Φ f [] = some (r, G) ∧ QR r Γ) : WE cx Φ (.call f .nil) Γ QR := by
  simp only [WE, WT, WK, WV, WL, WB, WR, WO, WI, WS, W1, WC] at *
  exact wE_call0 h
theorem WE_callS {f : Str} (hs : a.slot = none) (h : WL cx Φ (.cons a as) Γ fun ds Γ1 => ∃ r G, Φ f (ds.map Sl.fr) = some (r, G) ∧ QR r Γ1) : WE cx Φ (.call f (.cons a as)) Γ QR := by
  simp only [WE, WT, WK, WV, WL, WB, WR, WO, WI, WS, W1, WC] at *
  exact wE_callS hs h
theorem WE_callV {f : Str} (hs : noD (obV i Γ) = true) (h : WL cx Φ (.cons (.var i) as) Γ fun ds Γ1 => ∃ r G, Φ f (ds.map Sl.fr) = some (r, G) ∧ QR r Γ1) : WE cx Φ (.call f (.cons (.var i) as)) Γ QR := by
  simp only [WE, WT, WK, WV, WL, WB, WR, WO, WI, WS, W1, WC] at *
  exact wE_callV hs h
theorem WE_callB {f : Str} {ks : List Key} {es : List D} (hs : obV i Γ = some (.dct ks es)) (h : WL cx Φ as Γ fun ds Γ1 => ∃ m, obV i Γ1 = some m ∧ ∃ r m' G, Φ f (.bo m :: ds.map Sl.fr) = some (r, some (.bo m') :: G) ∧ QR r (stV i m' Γ1)) : WE cx Φ (.call f (.cons (.var i) as)) Γ QR := by
  simp only [WE, WT, WK, WV, WL, WB, WR, WO, WI, WS, W1, WC] at *
  exact wE_callB hs h
theorem WE_make {C f : Str} (hf : C ++ ".__init__" = f) (h : WL cx Φ as Γ fun ds Γ1 => ∃ m G, Φ f (.bo (.ins C [] []) :: ds.map Sl.fr) = some (.d .non, some (.bo m) :: G) ∧ QR (.m m) Γ1) : WE cx Φ (.make C as) Γ QR := by
  simp only [WE, WT, WK, WV, WL, WB, WR, WO, WI, WS, W1, WC] at *
  exact wE_make hf h
theorem WE_mut {m : Mn} {ds0 : List D} (h0 : obV i Γ = some (.lst ds0)) (h : WL cx Φ as Γ fun ds Γ1 => ∃ o, obV i Γ1 = some o ∧ ∃ r o', mutD m o ds = some (r, o') ∧ QR r (stV i o' Γ1)) : WE cx Φ (.mut m i as) Γ QR := by
  simp only [WE, WT, WK, WV, WL, WB, WR, WO, WI, WS, W1, WC] at *
  exact wE_mut h0 h
theorem WE_meth {m : Me} {s : Option Sl} {xs : List D} (h1 : Γ[i]? = some s) (h2 : pkOf s = some (.lst xs)) (h : WL cx Φ as Γ fun ds Γ2 => ∃ s2, Γ2[i]? = some s2 ∧ ∃ x2, pkOf s2 = some x2 ∧ ∃ r, methD m x2 ds = some r ∧ QR r Γ2) : WE cx Φ (.meth m (.var i) as) Γ QR := by
  simp only [WE, WT, WK, WV, WL, WB, WR, WO, WI, WS, W1, WC] at *
  exact wE_meth h1 h2 h
variable {QI : Option Nat × List D → En → Prop}
theorem WI_var {s : Option Sl} {d : D} {xs : List D} (h : Γ[i]? = some s) (k : itOf s = some d) (z : d.seq? = some xs) (q : QI (some i, xs) Γ) : WI cx Φ (.val (.var i)) Γ QI := by
  simp only [WE, WT, WK, WV, WL, WB, WR, WO, WI, WS, W1, WC] at *
  exact wI_var h k z q
theorem WI_val (hs : a.slot = none) (h : WV cx Φ a Γ fun x Γ1 => ∃ xs, x.seq? = some xs ∧ QI (none, xs) Γ1) : WI cx Φ (.val a) Γ QI := by
  simp only [WE, WT, WK, WV, WL, WB, WR, WO, WI, WS, W1, WC] at *
  exact wI_val hs h
theorem WI_r1 (h : WV cx Φ a Γ fun x Γ1 => ∃ n, x = .int n ∧ n < 2 ^ 60 ∧ -2 ^ 60 < n ∧ QI (none, (List.range n.toNat).map natD) Γ1) : WI cx Φ (.r1 a) Γ QI := by
  simp only [WE, WT, WK, WV, WL, WB, WR, WO, WI, WS, W1, WC] at *
  exact wI_r1 h
theorem WI_r2 (h : WV cx Φ a Γ fun x Γ1 => WV cx Φ b Γ1 fun y Γ2 => ∃ i j, x = .int i ∧ y = .int j ∧ i < 2 ^ 60 ∧ -2 ^ 60 < i ∧ j < 2 ^ 60 ∧ -2 ^ 60 < j ∧ QI (none, (List.range (j - i).toNat).map fun (k : Nat) => D.int (i + (k : Int))) Γ2) : WI cx Φ (.r2 a b) Γ QI := by
  simp only [WE, WT, WK, WV, WL, WB, WR, WO, WI, WS, W1, WC] at *
  exact wI_r2 h
theorem WI_zip (h : WV cx Φ a Γ fun x Γ1 => WV cx Φ b Γ1 fun y Γ2 => ∃ xs, zipA x y = some xs ∧ QI (none, xs) Γ2) : WI cx Φ (.zip a b) Γ QI := by
  simp only [WE, WT, WK, WV, WL, WB, WR, WO, WI, WS, W1, WC] at *
  exact wI_zip h
theorem WI_zipr (h : WV cx Φ a Γ fun x Γ1 => ∃ n, x.int? = some n ∧ WV cx Φ b Γ1 fun y Γ2 => ∃ xs, ziprD x y = some xs ∧ QI (none, xs) Γ2) : WI cx Φ (.zipr a b) Γ QI := by
  simp only [WE, WT, WK, WV, WL, WB, WR, WO, WI, WS, W1, WC] at *
  exact wI_zipr h
theorem WI_enum (h : WV cx Φ a Γ fun x Γ1 => ∃ xs, enumD x = some xs ∧ QI (none, xs) Γ1) : WI cx Φ (.enum a) Γ QI := by
  simp only [WE, WT, WK, WV, WL, WB, WR, WO, WI, WS, W1, WC] at *
  exact wI_enum h
theorem WT_none (q : QB true Γ) : WC cx Φ .nil Γ QB := by
  simp only [WE, WT, WK, WV, WL, WB, WR, WO, WI, WS, W1, WC] at *
  exact wT_none q
theorem WC_one (h : WT cx Φ a Γ QB) : WC cx Φ (.cons a .nil) Γ QB := by
  simp only [WE, WT, WK, WV, WL, WB, WR, WO, WI, WS, W1, WC] at *
  exact wC_one h
theorem WE_comp {α : Type} {tg : T} {it : It} {cs : Es} {own : List (Str × Nat)} (enc : α → D) (p : α → Bool) (g : α → D)
    (h : WI cx Φ it Γ fun q Γ1 => ∃ ys : List α, q.2 = ys.map enc ∧ bareE (lockO q.1 Γ1) (own.map (·.2)) = true ∧ ys.length ≤ 1000000 ∧
      (∀ y ∈ ys, ∃ Γ2, asgT tg (.d (enc y)) (wipeE (wipeE (lockO q.1 Γ1) (own.map (·.2))) (own.map (·.2))) = some Γ2 ∧ WC cx Φ cs Γ2 (fun k Γ3 => Γ3 = Γ2 ∧ k = p y) ∧ (p y = true → WV cx Φ e Γ2 fun d Γ3 => Γ3 = Γ2 ∧ d = g y) ∧ wipeE Γ2 (own.map (·.2)) = wipeE (lockO q.1 Γ1) (own.map (·.2))) ∧
      QR (.m (.lst ((ys.filter p).map g))) Γ1) : WE cx Φ (.comp e tg it cs own) Γ QR := by
  simp only [WE, WT, WK, WV, WL, WB, WR, WO, WI, WS, W1, WC] at *
  exact wE_comp enc p g h
theorem WE_compP {α : Type} {tg : T} {it : It} {cs : Es} {own : List (Str × Nat)} (enc : α → D) (P : α → D → Prop)
    (h : WI cx Φ it Γ fun q Γ1 => ∃ ys : List α, q.2 = ys.map enc ∧ bareE (lockO q.1 Γ1) (own.map (·.2)) = true ∧ ys.length ≤ 1000000 ∧
      (∀ y ∈ ys, ∃ Γ2, asgT tg (.d (enc y)) (wipeE (wipeE (lockO q.1 Γ1) (own.map (·.2))) (own.map (·.2))) = some Γ2 ∧ WC cx Φ cs Γ2 (fun k Γ3 => Γ3 = Γ2 ∧ k = true) ∧ (WV cx Φ e Γ2 fun d Γ3 => Γ3 = Γ2 ∧ P y d) ∧ wipeE Γ2 (own.map (·.2)) = wipeE (lockO q.1 Γ1) (own.map (·.2))) ∧
      (∀ ds, ds.length = ys.length → (∀ d ∈ ds, ∃ y ∈ ys, P y d) → QR (.m (.lst ds)) Γ1)) : WE cx Φ (.comp e tg it cs own) Γ QR := by
  simp only [WE, WT, WK, WV, WL, WB, WR, WO, WI, WS, W1, WC] at *
  exact wE_compP enc P h
theorem WE_compI {α : Type} {tg : T} {it : It} {cs : Es} {own : List (Str × Nat)} (enc : α → D) (I : List α → List D → En → Prop)
    (h : WI cx Φ it Γ fun q Γ1 => ∃ ys : List α, q.2 = ys.map enc ∧ bareE (lockO q.1 Γ1) (own.map (·.2)) = true ∧ I ys [] (wipeE (lockO q.1 Γ1) (own.map (·.2))) ∧
      (∀ y ys acc Γ', I (y :: ys) acc Γ' → acc.length < 1000000 ∧ ∃ Γ2, asgT tg (.d (enc y)) (wipeE Γ' (own.map (·.2))) = some Γ2 ∧ WC cx Φ cs Γ2 (fun k Γ3 => (k = false → I ys acc (wipeE Γ3 (own.map (·.2)))) ∧ (k = true → WV cx Φ e Γ3 fun d Γ4 => I ys (acc ++ [d]) (wipeE Γ4 (own.map (·.2)))))) ∧
      (∀ ds Γ2, I [] ds Γ2 → QR (.m (.lst ds)) (freeO q.1 Γ1 (backE (lockO q.1 Γ1) (own.map (·.2)) Γ2)))) : WE cx Φ (.comp e tg it cs own) Γ QR := by
  simp only [WE, WT, WK, WV, WL, WB, WR, WO, WI, WS, W1, WC] at *
  exact wE_compI enc I h
variable {N : En → Prop} {Z : R → En → Prop} {B C : En → Prop} {Y : Xc → Prop} {s : S} {ss : Ss}
theorem WS_nil (h : N Γ) : WS cx Φ .nil Γ ⟨N, Z, B, C, Y⟩ := by
  simp only [WE, WT, WK, WV, WL, WB, WR, WO, WI, WS, W1, WC] at *
  exact wS_nil h
theorem WS_cons (h : W1 cx Φ s Γ ⟨fun Γ1 => WS cx Φ ss Γ1 ⟨N, Z, B, C, Y⟩, Z, B, C, Y⟩) : WS cx Φ (.cons s ss) Γ ⟨N, Z, B, C, Y⟩ := by
  simp only [WE, WT, WK, WV, WL, WB, WR, WO, WI, WS, W1, WC] at *
  exact wS_cons h
theorem W1_asg {tg : T} (h : WE cx Φ e Γ fun r Γ1 => ∃ Γ2, asgT tg r Γ1 = some Γ2 ∧ N Γ2) : W1 cx Φ (.asg tg e) Γ ⟨N, Z, B, C, Y⟩ := by
  simp only [WE, WT, WK, WV, WL, WB, WR, WO, WI, WS, W1, WC] at *
  exact w1_asg h
theorem W1_asgs {ts : List T} {es : Es} (h : WR cx Φ es Γ fun rs Γ1 => ∃ Γ2, asgTs ts rs Γ1 = some Γ2 ∧ N Γ2) : W1 cx Φ (.asgs ts es) Γ ⟨N, Z, B, C, Y⟩ := by
  simp only [WE, WT, WK, WV, WL, WB, WR, WO, WI, WS, W1, WC] at *
  exact w1_asgs h
theorem W1_put {k v : E} {m0 : M} (h0 : obV i Γ = some m0) (h : WV cx Φ v Γ fun x Γ1 => WV cx Φ k Γ1 fun y Γ2 => ∃ o, obV i Γ2 = some o ∧ ∃ o', putM o y x = some o' ∧ N (stV i o' Γ2)) : W1 cx Φ (.put i k v) Γ ⟨N, Z, B, C, Y⟩ := by
  simp only [WE, WT, WK, WV, WL, WB, WR, WO, WI, WS, W1, WC] at *
  exact w1_put h0 h
theorem W1_fld {f : Str} (h : WV cx Φ e Γ fun x Γ1 => ∃ o, obV i Γ1 = some o ∧ ∃ o', fldM cx o f x = some o' ∧ N (stV i o' Γ1)) : W1 cx Φ (.fld i f e) Γ ⟨N, Z, B, C, Y⟩ := by
  simp only [WE, WT, WK, WV, WL, WB, WR, WO, WI, WS, W1, WC] at *
  exact w1_fld h
theorem W1_aug {op : BOp} {s0 : Option Sl} {n : Int} (h1 : Γ[i]? = some s0) (h2 : pkOf s0 = some (.int n)) (h : WV cx Φ e Γ fun y Γ1 => ∃ m, y = .int m ∧ ∃ k, binI op n m = some k ∧ ∃ Γ2, setV i (.d (.int k)) Γ1 = some Γ2 ∧ N Γ2) : W1 cx Φ (.aug i op e) Γ ⟨N, Z, B, C, Y⟩ := by
  simp only [WE, WT, WK, WV, WL, WB, WR, WO, WI, WS, W1, WC] at *
  exact w1_aug h1 h2 h
theorem W1_exp (h : WE cx Φ e Γ fun _ Γ1 => N Γ1) : W1 cx Φ (.exp e) Γ ⟨N, Z, B, C, Y⟩ := by
  simp only [WE, WT, WK, WV, WL, WB, WR, WO, WI, WS, W1, WC] at *
  exact w1_exp h
theorem W1_ret (hs : e.slot = none) (h : WE cx Φ e Γ Z) : W1 cx Φ (.ret e) Γ ⟨N, Z, B, C, Y⟩ := by
  simp only [WE, WT, WK, WV, WL, WB, WR, WO, WI, WS, W1, WC] at *
  exact w1_ret hs h
theorem W1_retM {m : M} (h : Γ[i]? = some (some (.mu m))) (q : Z (.m m) (Γ.set i none)) : W1 cx Φ (.ret (.var i)) Γ ⟨N, Z, B, C, Y⟩ := by
  simp only [WE, WT, WK, WV, WL, WB, WR, WO, WI, WS, W1, WC] at *
  exact w1_retM h q
theorem W1_retF {d : D} (h : Γ[i]? = some (some (.fr d))) (q : Z (.d d) Γ) : W1 cx Φ (.ret (.var i)) Γ ⟨N, Z, B, C, Y⟩ := by
  simp only [WE, WT, WK, WV, WL, WB, WR, WO, WI, WS, W1, WC] at *
  exact w1_retF h q
theorem W1_retN (q : Z (.d .non) Γ) : W1 cx Φ .retN Γ ⟨N, Z, B, C, Y⟩ := by
  simp only [WE, WT, WK, WV, WL, WB, WR, WO, WI, WS, W1, WC] at *
  exact w1_retN q
theorem W1_ite {x y : Ss} (h : WT cx Φ c Γ fun k Γ1 => (k = true → WS cx Φ x Γ1 ⟨N, Z, B, C, Y⟩) ∧ (k = false → WS cx Φ y Γ1 ⟨N, Z, B, C, Y⟩)) : W1 cx Φ (.ite c x y) Γ ⟨N, Z, B, C, Y⟩ := by
  simp only [WE, WT, WK, WV, WL, WB, WR, WO, WI, WS, W1, WC] at *
  exact w1_ite h
theorem W1_pass (q : N Γ) : W1 cx Φ .pass Γ ⟨N, Z, B, C, Y⟩ := by
  simp only [WE, WT, WK, WV, WL, WB, WR, WO, WI, WS, W1, WC] at *
  exact w1_pass q
theorem W1_brk (q : B Γ) : W1 cx Φ .brk Γ ⟨N, Z, B, C, Y⟩ := by
  simp only [WE, WT, WK, WV, WL, WB, WR, WO, WI, WS, W1, WC] at *
  exact w1_brk q
theorem W1_cont (q : C Γ) : W1 cx Φ .cont Γ ⟨N, Z, B, C, Y⟩ := by
  simp only [WE, WT, WK, WV, WL, WB, WR, WO, WI, WS, W1, WC] at *
  exact w1_cont q
theorem W1_for {α : Type} {tg : T} {it : It} {b : Ss} (enc : α → D) (I : List α → En → Prop)
    (h : WI cx Φ it Γ fun q Γ1 => ∃ ys : List α, q.2 = ys.map enc ∧ I ys (lockO q.1 Γ1) ∧
      (∀ y ys Γ', I (y :: ys) Γ' → ∃ Γ2, asgT tg (.d (enc y)) Γ' = some Γ2 ∧ WS cx Φ b Γ2 ⟨I ys, Z, fun Γ3 => N (freeO q.1 Γ1 Γ3), I ys, Y⟩) ∧
      (∀ Γ2, I [] Γ2 → N (freeO q.1 Γ1 Γ2))) : W1 cx Φ (.for tg it b) Γ ⟨N, Z, B, C, Y⟩ := by
  simp only [WE, WT, WK, WV, WL, WB, WR, WO, WI, WS, W1, WC] at *
  exact w1_for enc I h
theorem W1_while {b : Ss} (I : Nat → En → Prop) (n : Nat) (hn : n < cx.fuel) (h0 : I n Γ)
    (h : ∀ n Γ', I n Γ' → WT cx Φ c Γ' fun k Γ2 => (k = false → N Γ2) ∧ (k = true → WS cx Φ b Γ2 ⟨fun Γ3 => ∃ m, m < n ∧ I m Γ3, Z, N, fun Γ3 => ∃ m, m < n ∧ I m Γ3, Y⟩)) : W1 cx Φ (.whil c b) Γ ⟨N, Z, B, C, Y⟩ := by
  simp only [WE, WT, WK, WV, WL, WB, WR, WO, WI, WS, W1, WC] at *
  exact w1_while I n hn h0 h
end
section
variable {cx : CtxR} {Φ : Phi} {Γ : En}
theorem WP.of_WS {ss : Ss} {p : Po} (h : WS cx Φ ss Γ p) : WS cx Φ ss Γ p := h
theorem WP.of_W1 {s : S} {p : Po} (h : W1 cx Φ s Γ p) : W1 cx Φ s Γ p := h
theorem WP.of_WE {e : E} {Q : R → En → Prop} (h : WE cx Φ e Γ Q) : WE cx Φ e Γ Q := h
theorem WP.of_WV {e : E} {Q : D → En → Prop} (h : WV cx Φ e Γ Q) : WV cx Φ e Γ Q := h
theorem WP.of_WK {e : E} {Q : D → En → Prop} (h : WK cx Φ e Γ Q) : WK cx Φ e Γ Q := h
theorem WP.of_WT {e : E} {Q : Bool → En → Prop} (h : WT cx Φ e Γ Q) : WT cx Φ e Γ Q := h
theorem WP.of_WL {e : Es} {Q : List D → En → Prop} (h : WL cx Φ e Γ Q) : WL cx Φ e Γ Q := h
theorem WP.of_WB {e : Es} {Q : List D → En → Prop} (h : WB cx Φ e Γ Q) : WB cx Φ e Γ Q := h
theorem WP.of_WR {e : Es} {Q : List R → En → Prop} (h : WR cx Φ e Γ Q) : WR cx Φ e Γ Q := h
theorem WP.of_WO {e : Es} {Q : Option Int → En → Prop} (h : WO cx Φ e Γ Q) : WO cx Φ e Γ Q := h
theorem WP.of_WC {e : Es} {Q : Bool → En → Prop} (h : WC cx Φ e Γ Q) : WC cx Φ e Γ Q := h
theorem WP.of_WI {e : It} {Q : Option Nat × List D → En → Prop} (h : WI cx Φ e Γ Q) : WI cx Φ e Γ Q := h
theorem stV_bo0 {m m' : M} {Γ : En} : stV 0 m' (some (.bo m) :: Γ) = some (.bo m') :: Γ := rfl
theorem stV_mu0 {m m' : M} {Γ : En} : stV 0 m' (some (.mu m) :: Γ) = some (.mu m') :: Γ := rfl
theorem stV_mu1 {m m' : M} {a : Option Sl} {Γ : En} : stV 1 m' (a :: some (.mu m) :: Γ) = a :: some (.mu m') :: Γ := rfl
/-- a slot with a value or none -/
def fzO (o : Option D) : Option Sl := o.map Sl.fr
theorem setV_fz {Γ : En} {i : Nat} {o : Option D} {r : R} (h : Γ[i]? = some (fzO o)) : setV i r Γ = some (Γ.set i (some r.sl)) := by
  unfold setV
  rw [h]
  cases o <;> rfl
theorem asg_fz {Γ : En} {i : Nat} {o : Option D} {r : R} {P : En → Prop} (h : Γ[i]? = some (fzO o)) (q : P (Γ.set i (some r.sl))) : ∃ Γ2, asgT (.var i) r Γ = some Γ2 ∧ P Γ2 := ⟨_, setV_fz h, q⟩
/-- a slot that may be stored to -/
def ownS : Option Sl → Bool
  | some (.bo _) => false
  | some (.lk _) => false
  | _ => true
theorem asg_own {Γ : En} {i : Nat} {s : Option Sl} {r : R} {P : En → Prop} (h : Γ[i]? = some s) (hs : ownS s = true) (q : P (Γ.set i (some r.sl))) : ∃ Γ2, asgT (.var i) r Γ = some Γ2 ∧ P Γ2 := by
  refine ⟨_, ?_, q⟩
  show setV i r Γ = _
  unfold setV
  rw [h]
  match s, hs with
  | none, _ => rfl
  | some (.fr _), _ => rfl
  | some (.mu _), _ => rfl
theorem asg_cons {Γ : En} {t : T} {ts : List T} {r : R} {rs : List R} {P : En → Prop} (h : ∃ Γ1, asgT t r Γ = some Γ1 ∧ ∃ Γ2, asgTs ts rs Γ1 = some Γ2 ∧ P Γ2) : ∃ Γ2, asgTs (t :: ts) (r :: rs) Γ = some Γ2 ∧ P Γ2 := by
  obtain ⟨Γ1, e1, Γ2, e2, q⟩ := h
  exact ⟨Γ2, by unfold asgTs; rw [e1]; exact e2, q⟩
theorem asg_tup {Γ : En} {ts : List T} {ds : List D} {P : En → Prop} (h : ∃ Γ2, asgTs ts (ds.map R.d) Γ = some Γ2 ∧ P Γ2) : ∃ Γ2, asgT (.tup ts) (.d (.tup ds)) Γ = some Γ2 ∧ P Γ2 := h
theorem bare_fz {Γ : En} {i : Nat} {o : Option D} (h : Γ[i]? = some (fzO o)) : bareE Γ [i] = true := by
  unfold bareE
  simp only [List.all_cons, List.all_nil, Bool.and_true]
  rw [h]
  cases o <;> rfl
theorem W1t {A B : Prop} (h : A) : (true = true → A) ∧ (true = false → B) := ⟨fun _ => h, fun z => (nomatch z)⟩
theorem W1f {A B : Prop} (h : A) : (false = false → A) ∧ (false = true → B) := ⟨fun _ => h, fun z => (nomatch z)⟩
theorem W2t {A B : Prop} (h : B) : (true = false → A) ∧ (true = true → B) := ⟨fun z => (nomatch z), fun _ => h⟩
theorem W2f {A B : Prop} (h : B) : (false = true → A) ∧ (false = false → B) := ⟨fun z => (nomatch z), fun _ => h⟩
theorem Wd1 {P : Prop} [Decidable P] {A B : Prop} (h : P → A) (h2 : ¬ P → B) : (decide P = true → A) ∧ (decide P = false → B) := ⟨fun z => h (of_decide_eq_true z), fun z => h2 (of_decide_eq_false z)⟩
theorem Wd2 {P : Prop} [Decidable P] {A B : Prop} (h : ¬ P → A) (h2 : P → B) : (decide P = false → A) ∧ (decide P = true → B) := ⟨fun z => h (of_decide_eq_false z), fun z => h2 (of_decide_eq_true z)⟩
theorem Wn1 {k : Bool} {A B : Prop} (h : (k = false → A) ∧ (k = true → B)) : ((!k) = true → A) ∧ ((!k) = false → B) := ⟨fun z => h.1 (by simpa using z), fun z => h.2 (by simpa using z)⟩
theorem Wn2 {k : Bool} {A B : Prop} (h : (k = true → A) ∧ (k = false → B)) : ((!k) = false → A) ∧ ((!k) = true → B) := ⟨fun z => h.1 (by simpa using z), fun z => h.2 (by simpa using z)⟩
theorem Wb1 {a b : Int} {A B : Prop} (h : a = b → A) (h2 : a ≠ b → B) : ((a == b) = true → A) ∧ ((a == b) = false → B) := ⟨fun z => h (by simpa using z), fun z => h2 (by simpa using z)⟩
theorem Wb2 {a b : Int} {A B : Prop} (h : a ≠ b → A) (h2 : a = b → B) : ((a == b) = false → A) ∧ ((a == b) = true → B) := ⟨fun z => h (by simpa using z), fun z => h2 (by simpa using z)⟩
theorem Wif {k a b : Bool} {A B : Prop} (h1 : k = a → A) (h2 : k = b → B) : (k = a → A) ∧ (k = b → B) := ⟨h1, h2⟩
end
theorem WS_inv {cx : CtxR} {Φ : Phi} {Γ : En} {N B C : En → Prop} {Y : Xc → Prop} {Z : R → En → Prop} {s : S} {ss : Ss} (h : WS cx Φ (.cons s ss) Γ ⟨N, Z, B, C, Y⟩) : W1 cx Φ s Γ ⟨fun Γ1 => WS cx Φ ss Γ1 ⟨N, Z, B, C, Y⟩, Z, B, C, Y⟩ := by
  simp only [WS, W1, wS, w1] at *
  unfold exs at h
  cases hx : ex cx Φ s Γ <;> rw [hx] at h <;> exact h
/-! a def -/
theorem run_of {cx : CtxR} {P : Prg} {n : Nat} {f : Str} {d : Fn} {args : List Sl} {Q : R → En → Prop} (h : P.lookup f = some d) (hl : args.length = d.ps)
    (w : WS cx (Rf.run cx P n) d.body (args.map some ++ List.replicate (d.n - d.ps) none) ⟨Q (.d .non), Q, fun _ => False, fun _ => False, fun _ => False⟩) : ∃ r G, Rf.run cx P (n + 1) f args = some (r, G) ∧ Q r G := by
  rw [run_eq h hl]
  simp only [WS, wS] at w
  cases hx : exs cx (Rf.run cx P n) d.body (args.map some ++ List.replicate (d.n - d.ps) none) <;> rw [hx] at w
  · exact ⟨_, _, rfl, w⟩
  · exact ⟨_, _, rfl, w⟩
  · exact w.elim
  · exact w.elim
  · exact w.elim
  · exact w.elim
/-! ### what is raised -/
/-- a call that raises -/
def Rx (Φ : Phi) (f : Str) (as : List Sl) (Y : Xc → Prop) : Prop := Φ.ok f as = none ∧ ∃ c, Φ.ex f as = some c ∧ Y c
theorem run_ofX {cx : CtxR} {P : Prg} {n : Nat} {f : Str} {d : Fn} {args : List Sl} {Y : Xc → Prop} (h : P.lookup f = some d) (hl : args.length = d.ps)
    (w : WS cx (Rf.run cx P n) d.body (args.map some ++ List.replicate (d.n - d.ps) none) ⟨fun _ => False, fun _ _ => False, fun _ => False, fun _ => False, Y⟩) : Rx (Rf.run cx P (n + 1)) f args Y := by
  simp only [WS, wS] at w
  have e : runF cx P (Rf.run cx P n) f args = exs cx (Rf.run cx P n) d.body (args.map some ++ List.replicate (d.n - d.ps) none) := by
    unfold runF
    rw [h]
    exact if_pos hl
  cases hx : exs cx (Rf.run cx P n) d.body (args.map some ++ List.replicate (d.n - d.ps) none) <;> rw [hx] at w
  all_goals first | exact w.elim | skip
  rw [hx] at e
  rw [run_succ]
  constructor
  · show (match runF cx P (Rf.run cx P n) f args with
      | .rt r Γ => some (r, Γ)
      | .nx Γ => some (.d .non, Γ)
      | _ => none) = none
    rw [e]
  · refine ⟨_, ?_, w⟩
    show (match runF cx P (Rf.run cx P n) f args with
      | .ex c => some c
      | _ => none) = _
    rw [e]
/-- an expression that raises -/
@[irreducible] def WX (cx : CtxR) (Φ : Phi) (e : E) (Γ : En) (Y : Xc → Prop) : Prop := ev cx Φ e Γ = .no ∧ ∃ c, xe cx Φ e Γ = some c ∧ Y c
section
variable {cx : CtxR} {Φ : Phi} {Γ : En} {e a : E} {as : Es} {i : Nat} {N B C : En → Prop} {Z : R → En → Prop} {Y : Xc → Prop} {QR : R → En → Prop}
theorem W1_expX (h : WX cx Φ e Γ Y) : W1 cx Φ (.exp e) Γ ⟨N, Z, B, C, Y⟩ := by
  simp only [WX, W1, w1] at *
  obtain ⟨h1, c, h2, h3⟩ := h
  unfold ex
  rw [h1]
  dsimp only
  unfold xr
  rw [h2]
  exact h3
theorem W1_asgX {tg : T} (h : WX cx Φ e Γ Y) : W1 cx Φ (.asg tg e) Γ ⟨N, Z, B, C, Y⟩ := by
  simp only [WX, W1, w1] at *
  obtain ⟨h1, c, h2, h3⟩ := h
  unfold ex
  rw [h1]
  dsimp only
  unfold xr
  rw [h2]
  exact h3
theorem W1_retX (hs : e.slot = none) (h : WX cx Φ e Γ Y) : W1 cx Φ (.ret e) Γ ⟨N, Z, B, C, Y⟩ := by
  simp only [WX, W1, w1] at *
  obtain ⟨h1, c, h2, h3⟩ := h
  unfold ex
  rw [hs]
  dsimp only
  rw [h1]
  dsimp only
  unfold xr
  rw [h2]
  exact h3
theorem W1_raise {C0 : Str} (h : WL cx Φ as Γ fun ds _ => ∃ ns, cx.exc.lookup C0 = some ns ∧ ns.length = ds.length ∧ Y ⟨C0, ns, ds⟩) : W1 cx Φ (.raise C0 as) Γ ⟨N, Z, B, C, Y⟩ := by
  simp only [WL, W1, w1, wL] at *
  obtain ⟨ds, G, e1, ns, e2, e3, q⟩ := h
  have e1 : evs cx Φ as Γ = .ok ds G := e1
  unfold ex mRaise
  rw [e1]
  dsimp only
  rw [e2]
  dsimp only
  rw [if_pos e3]
  exact q
def noDs : Es → En → Bool
  | .cons (.var i) _, Γ => noD (obV i Γ)
  | _, _ => true
theorem callE_eq {f : Str} : ∀ {as : Es}, noDs as Γ = true → as ≠ .nil → mCallE Φ f (evL cx Φ as) Γ = mCall Φ f (lS (evL cx Φ as)) Γ
  | .nil, _, h => absurd rfl h
  | .cons a as, h, _ => by
    show (match a.slot with
      | some i => mBor Φ f i (lS (evL cx Φ as)) (mCall Φ f (lS ((a, ev2 cx Φ a) :: evL cx Φ as)))
      | none => mCall Φ f (lS ((a, ev2 cx Φ a) :: evL cx Φ as))) Γ = _
    cases hs : a.slot with
    | none => rfl
    | some i =>
      have ea : a = .var i := by cases a <;> first | (cases hs; rfl) | cases hs
      subst ea
      have h : noD (obV i Γ) = true := h
      show mBor Φ f i (lS (evL cx Φ as)) (mCall Φ f (lS (evL cx Φ (.cons (.var i) as)))) Γ = _
      unfold mBor
      split
      · rename_i z; rw [z] at h; cases h
      · rfl
theorem WX_call {f : Str} (hn : noDs (.cons a as) Γ = true) (h : WL cx Φ (.cons a as) Γ fun ds _ => Rx Φ f (ds.map Sl.fr) Y) : WX cx Φ (.call f (.cons a as)) Γ Y := by
  simp only [WL, WX, wL] at *
  obtain ⟨ds, G, e1, h1, c, h2, h3⟩ := h
  have e1 : evs cx Φ (.cons a as) Γ = .ok ds G := e1
  constructor
  · show mCallE Φ f (evL cx Φ (.cons a as)) Γ = _
    rw [callE_eq hn (fun z => nomatch z)]
    have e1 : lS (evL cx Φ (.cons a as)) Γ = .ok ds G := e1
    unfold mCall EM.bind
    rw [e1]
    dsimp only
    unfold EM.opt
    rw [h1]
    rfl
  · refine ⟨c, ?_, h3⟩
    show (match evs cx Φ (.cons a as) Γ with
      | .ok ds _ => Φ.ex f (ds.map Sl.fr)
      | .no => xl cx Φ (.cons a as) Γ) = _
    rw [e1]
    exact h2
theorem WX_make {C0 f : Str} (hf : C0 ++ ".__init__" = f) (h : WL cx Φ as Γ fun ds _ => Rx Φ f (.bo (.ins C0 [] []) :: ds.map Sl.fr) Y) : WX cx Φ (.make C0 as) Γ Y := by
  subst hf
  simp only [WL, WX, wL] at *
  obtain ⟨ds, G, e1, h1, c, h2, h3⟩ := h
  have e1 : lS (evL cx Φ as) Γ = .ok ds G := e1
  constructor
  · show mMake Φ C0 (C0 ++ ".__init__") (lS (evL cx Φ as)) Γ = _
    unfold mMake EM.bind
    rw [e1]
    dsimp only
    unfold EM.opt
    have h1 : Φ (C0 ++ ".__init__") (.bo (.ins C0 [] []) :: ds.map Sl.fr) = none := h1
    rw [h1]
  · refine ⟨c, ?_, h3⟩
    show (match evs cx Φ as Γ with
      | .ok ds _ => Φ.ex (C0 ++ ".__init__") (.bo (.ins C0 [] []) :: ds.map Sl.fr)
      | .no => xl cx Φ as Γ) = _
    have e1 : evs cx Φ as Γ = .ok ds G := e1
    rw [e1]
    exact h2
/-! ### what is told of a raise -/
/-- _law_fault of a call: nothing, or the error told -/
def FaR (cx : CtxR) (Φ : Phi) (f : Str) (args : List Sl) (Q : R → Prop) : Prop := (∃ r G, Φ.ok f args = some (r, G) ∧ Q (.d .non)) ∨ Rx Φ f args fun c => ∃ t, kindD cx c = some t ∧ Q (.d t)
theorem FaR.m {f : Str} {args : List Sl} {Q : R → Prop} (h : FaR cx Φ f args Q) : ∃ r, (match Φ.ok f args with
    | some _ => some (R.d .non)
    | none => ((Φ.ex f args).bind (kindD cx)).map R.d) = some r ∧ Q r := by
  rcases h with ⟨r, G, e, q⟩ | ⟨h1, c, h2, t, h3, q⟩
  · exact ⟨_, by rw [e], q⟩
  · exact ⟨_, by rw [h1, h2]; show ((kindD cx c).map R.d) = _; rw [h3]; rfl, q⟩
theorem wE_faultM {f : Str} (h : WP (lS (evL cx Φ as)) Γ fun ds Γ1 => FaR cx Φ f (ds.map Sl.fr) fun r => QR r Γ1) : WP (mFault cx Φ f (lS (evL cx Φ as))) Γ QR :=
  WP.bind (WP.mono h fun ds G q => WP.opt q.m)
theorem WE_fault {f : Str} (h : WL cx Φ as Γ fun ds Γ1 => FaR cx Φ f (ds.map Sl.fr) fun r => QR r Γ1) : WE cx Φ (.fault f as) Γ QR := by
  simp only [WL, WE, wL, wE] at *
  exact wE_faultM h
theorem WE_faultV {f : Str} {s : Option Sl} (h1 : Γ[i]? = some s) (h2 : pkOf s = some (.fn f)) (h3 : cx.fnl.contains f = true) (h : WL cx Φ as Γ fun ds Γ1 => FaR cx Φ f (ds.map Sl.fr) fun r => QR r Γ1) : WE cx Φ (.faultV i as) Γ QR := by
  simp only [WL, WE, wL, wE] at *
  refine WP.bind (m := pkV i) ⟨.fn f, Γ, pkV_eq h1 h2, ?_⟩
  obtain ⟨r, G, e1, q⟩ := wE_faultM (cx := cx) h
  have e : (if cx.fnl.contains f = true then mFault cx Φ f (lS (evL cx Φ as)) else (fun _ => Out.no : EM R)) = mFault cx Φ f (lS (evL cx Φ as)) := if_pos h3
  exact ⟨r, G, (congrFun e Γ).trans e1, q⟩
theorem WE_repr (h : WK cx Φ a Γ fun x Γ1 => ∃ s, reprD x = some s ∧ QR (.d (.str s)) Γ1) : WE cx Φ (.repr a) Γ QR := by
  simp only [WK, WE, wK, wE] at *
  exact WP.bind (WP.mono h fun x G ⟨s, e, q⟩ => WP.opt ⟨_, by rw [e]; rfl, q⟩)
end
end Rf

set_option Elab.async false
set_option linter.all false
set_option maxRecDepth 100000
set_option maxHeartbeats 1000000
namespace Rf
open PySem PySem.Spec PyProof.Rows L2
theorem natD_eq {a b : Nat} : natD a = natD b ↔ a = b := by
  unfold natD
  constructor
  · intro h; injection h with h; omega
  · rintro rfl; rfl
mutual
def tupd : D → D
  | .lst ds => .tup (tupds ds)
  | .tup ds => .tup (tupds ds)
  | d => d
def tupds : List D → List D
  | [] => []
  | d :: ds => tupd d :: tupds ds
end
theorem tupds_eq : ∀ ds, tupds ds = ds.map tupd
  | [] => rfl
  | d :: ds => by unfold tupds; rw [tupds_eq ds]; rfl
mutual
def okT : Nat → D → Bool
  | _, .non => true
  | _, .bl _ => true
  | _, .int _ => true
  | _, .str _ => true
  | _, .dct _ _ => true
  | n + 1, .lst ds => decide (ds.length ≤ 1000000) && okTs n ds
  | n + 1, .tup ds => decide (ds.length ≤ 1000000) && okTs n ds
  | _, _ => false
def okTs : Nat → List D → Bool
  | _, [] => true
  | n, d :: ds => okT n d && okTs n ds
end
theorem okTs_mem {n : Nat} : ∀ {ds : List D}, okTs n ds = true → ∀ d ∈ ds, okT n d = true
  | [], _, _, h => nomatch h
  | d :: ds, h, x, hx => by
    unfold okTs at h
    rw [Bool.and_eq_true] at h
    rcases List.mem_cons.mp hx with rfl | hx
    · exact h.1
    · exact okTs_mem h.2 x hx
theorem okTs_of {n : Nat} : ∀ {ds : List D}, (∀ d ∈ ds, okT n d = true) → okTs n ds = true
  | [], _ => by unfold okTs; rfl
  | d :: ds, h => by
    unfold okTs
    rw [Bool.and_eq_true]
    exact ⟨h d List.mem_cons_self, okTs_of fun x hx => h x (List.mem_cons_of_mem _ hx)⟩
theorem okT_nat {n k : Nat} : okT n (natD k) = true := by unfold natD okT; rfl
theorem tupds_nat (l : List Nat) : tupds (l.map natD) = l.map natD := by
  rw [tupds_eq, List.map_map]
  rfl
def isSeq : D → Bool
  | .lst _ => true
  | .tup _ => true
  | _ => false
theorem isi_lt (cx : CtxR) {m : Nat} {v : D} (h : okT m v = true) : isiD cx v [.list, .tuple] = some (isSeq v) := by
  cases v <;> first | rfl | (unfold okT at h; cases h)
theorem seq_cases {k : Nat} {v : D} (h : okT k v = true) : (∃ k' ds, k = k' + 1 ∧ v.seq? = some ds ∧ isSeq v = true ∧ bTuple [v] = some (.d (.tup ds)) ∧ ds.length ≤ 1000000 ∧ okTs k' ds = true ∧ tupd v = .tup (tupds ds)) ∨ (isSeq v = false ∧ tupd v = v) := by
  cases v with
  | lst ds =>
    cases k with
    | zero => unfold okT at h; cases h
    | succ k =>
      unfold okT at h
      rw [Bool.and_eq_true] at h
      exact .inl ⟨k, ds, rfl, rfl, rfl, rfl, of_decide_eq_true h.1, h.2, by unfold tupd; rfl⟩
  | tup ds =>
    cases k with
    | zero => unfold okT at h; cases h
    | succ k =>
      unfold okT at h
      rw [Bool.and_eq_true] at h
      exact .inl ⟨k, ds, rfl, rfl, rfl, rfl, of_decide_eq_true h.1, h.2, by unfold tupd; rfl⟩
  | _ => exact .inr ⟨rfl, by unfold tupd; rfl⟩

theorem atI_map {α : Type} {f : α → D} {l : List α} {k : Nat} {i : Int} (d : α) (hi : i = (k : Int)) (h : k < l.length) : atI (l.map f) i = some (f (l.getD k d)) := by
  subst hi
  unfold atI ixN
  have h0 : (0 : Int) ≤ (k : Int) := by omega
  rw [if_pos h0, if_pos (by rw [List.length_map]; omega)]
  simp [List.getD_eq_getElem?_getD, List.getElem?_eq_getElem h]
theorem bLen_map {α : Type} (f : α → D) (l : List α) : bltD .len [.lst (l.map f)] = some (.d (.int l.length)) := by show some (R.d (D.int ((l.map f).length : Nat))) = _; rw [List.length_map]
theorem allB_map {α : Type} (f : α → Bool) : ∀ l : List α, allB (l.map fun y => D.bl (f y)) = some (l.map f)
  | [] => rfl
  | x :: l => by
    have ih := allB_map f l
    unfold allB at ih ⊢
    rw [List.map_cons, List.mapM_cons, ih]
    rfl
theorem bAll_map {α : Type} (f : α → Bool) (l : List α) : bltD .all [.lst (l.map fun y => D.bl (f y))] = some (.d (.bl (l.all f))) := by
  show ((allB (l.map fun y => D.bl (f y))).map fun bs => R.d (.bl (bs.all id))) = _
  rw [allB_map]
  simp [Function.comp_def]
theorem allI_map {α : Type} (f : α → Int) : ∀ l : List α, allI (l.map fun y => D.int (f y)) = some (l.map f)
  | [] => rfl
  | x :: l => by
    have ih := allI_map f l
    unfold allI at ih ⊢
    rw [List.map_cons, List.mapM_cons, ih]
    rfl
theorem bTup_map (ds : List D) : bltD .tuple [.lst ds] = some (.d (.tup ds)) := rfl
theorem filt_true {α : Type} (l : List α) : l.filter (fun _ => true) = l := List.filter_eq_self.mpr fun _ _ => rfl
theorem okd_nat (n k : Nat) : (natD k).okd n = true := by unfold natD D.okd; rfl
theorem okd_nats (n : Nat) (l : List Nat) : (l.map natD).all (D.okd n) = true := by
  rw [List.all_eq_true]
  intro d hd
  obtain ⟨k, _, rfl⟩ := List.mem_map.mp hd
  exact okd_nat n k
theorem eqv_nat (a b : Nat) : D.eqv (natD a) (natD b) = decide (a = b) := by
  unfold natD D.eqv
  rw [Bool.eq_iff_iff]
  simp
  omega
theorem in_nats (l : List Nat) (b : Nat) : (l.map natD).any (fun d => d.eqv (natD b)) = decide (b ∈ l) := by
  rw [Bool.eq_iff_iff, List.any_eq_true, decide_eq_true_eq]
  constructor
  · rintro ⟨d, hd, e⟩
    obtain ⟨k, hk, rfl⟩ := List.mem_map.mp hd
    rw [eqv_nat, decide_eq_true_eq] at e
    exact e ▸ hk
  · intro h
    exact ⟨natD b, List.mem_map_of_mem h, by rw [eqv_nat]; simp⟩
theorem eqvs_nats : ∀ (a b : List Nat), D.eqvs (a.map natD) (b.map natD) = decide (a = b)
  | [], [] => rfl
  | [], b :: bs => rfl
  | a :: as, [] => rfl
  | a :: as, b :: bs => by
    rw [List.map_cons, List.map_cons]
    unfold D.eqvs
    rw [eqvs_nats as bs, eqv_nat, Bool.eq_iff_iff]
    simp
theorem small_nat {k : Nat} (h : k < 10 ^ 9) : small (k : Int) = true := small_of (by omega) (by omega)
def risB (l : List Nat) : Bool := (List.range (l.length - 1)).all fun k => decide (l.getD k 0 < l.getD (k + 1) 0)
theorem risB_of {l : List Nat} (h : l.Pairwise (· < ·)) : risB l = true := by
  unfold risB
  rw [List.all_eq_true]
  intro k hk
  rw [List.mem_range] at hk
  rw [decide_eq_true_eq, List.getD_eq_getElem?_getD, List.getD_eq_getElem?_getD, List.getElem?_eq_getElem (by omega), List.getElem?_eq_getElem (by omega)]
  exact List.pairwise_iff_getElem.mp h k (k + 1) (by omega) (by omega) (by omega)
structure RowsOk (rows : List (List Nat)) (w : Nat) : Prop where
  asc : ∀ r ∈ rows, r.Pairwise (· < ·)
  lt : ∀ r ∈ rows, ∀ b ∈ r, b < w
theorem asc_len : ∀ {l : List Nat} {a w : Nat}, l.Pairwise (· < ·) → (∀ b ∈ l, a ≤ b ∧ b < w) → l.length ≤ w - a
  | [], _, _, _, _ => by simp
  | x :: l, a, w, h, k => by
    rw [List.pairwise_cons] at h
    have hx := k x List.mem_cons_self
    have := asc_len (a := x + 1) (w := w) h.2 fun b hb => ⟨h.1 b hb, (k b (List.mem_cons_of_mem _ hb)).2⟩
    rw [List.length_cons]
    omega
theorem RowsOk.len {rows : List (List Nat)} {w : Nat} (h : RowsOk rows w) : ∀ r ∈ rows, r.length ≤ w := fun r hr => by
  have := asc_len (a := 0) (w := w) (h.asc r hr) fun b hb => ⟨Nat.zero_le _, h.lt r hr b hb⟩
  omega
theorem bin_mul {i j : Int} {Q : R → Prop} (hi : small i = true) (hj : small j = true) (h : Q (.d (.int (i * j)))) : ∃ r, binD .mul (.int i) (.int j) = some r ∧ Q r :=
  ⟨_, by unfold binD Rf.binI; simp [hi, hj], h⟩
theorem bin_addL {xs ys : List D} {Q : R → Prop} (hl : xs.length + ys.length ≤ 1000000) (h : Q (.m (.lst (xs ++ ys)))) : ∃ r, binD .add (.lst xs) (.lst ys) = some r ∧ Q r :=
  ⟨_, if_pos hl, h⟩
theorem bin_addT {xs ys : List D} {Q : R → Prop} (hl : xs.length + ys.length ≤ 1000000) (h : Q (.d (.tup (xs ++ ys)))) : ∃ r, binD .add (.tup xs) (.tup ys) = some r ∧ Q r :=
  ⟨_, if_pos hl, h⟩
theorem mut_app {xs : List D} {a : D} {P : R → M → Prop} (h : xs.length < 1000000) (q : P (.d .non) (.lst (xs ++ [a]))) : ∃ r o', mutD .append (.lst xs) [a] = some (r, o') ∧ P r o' :=
  ⟨_, _, if_pos h, q⟩
theorem mut_ext {xs ys : List D} {P : R → M → Prop} (h : xs.length + ys.length ≤ 1000000) (q : P (.d .non) (.lst (xs ++ ys))) : ∃ r o', mutD .extend (.lst xs) [.lst ys] = some (r, o') ∧ P r o' :=
  ⟨_, _, if_pos h, q⟩

theorem range_cons {a c y : Nat} {ys : List Nat} (h : y :: ys = List.range' a c) : y = a ∧ ∃ c', c = c' + 1 ∧ ys = List.range' (a + 1) c' := by
  cases c with
  | zero => cases h
  | succ c =>
    rw [List.range'_succ] at h
    injection h with h1 h2
    exact ⟨h1, c, rfl, h2⟩
theorem range_nil {a c : Nat} (h : [] = List.range' a c) : c = 0 := by
  cases c with
  | zero => rfl
  | succ c => rw [List.range'_succ] at h; cases h
theorem PenOk.up {k m : Nat} {p : Pen} (h : PenOk k p) (hm : k ≤ m) : PenOk m p := ⟨h.f0, h.f1, h.c0, by have := h.c1; omega⟩
theorem wp_draw {cx : CtxR} {P : Prg} {n k : Nat} (hP : List.lookup ("_law_draw" : Str) P = some d__law_draw) {p : Pen} {many : Nat} (h : PenOk k p) (hk : k < 1000000000) (hm : 0 < many) (hm2 : many < 10000000) {Q : R → M → Prop}
    (q : ∀ (v : Nat) (p' : Pen), v < many → PenOk (k + 1) p' → Q (.d (natD v)) p'.toM) : ∃ r m' G, Rf.run cx P (n + 1) "_law_draw" [.bo p.toM, .fr (.int (many : Int))] = some (r, some (.bo m') :: G) ∧ Q r m' := by
  obtain ⟨rest, e⟩ := run_draw (cx := cx) (n := n) hP p (many : Int) (by omega) (by omega) h hk
  have hd := draw_lt (p := p) (many := (many : Int)) (by omega)
  have hv : (((p.draw many).1.toNat : Nat) : Int) = (p.draw many).1 := Int.toNat_of_nonneg hd.1
  have := q (p.draw many).1.toNat (p.draw many).2 (by omega) (draw_pen h many)
  unfold natD at this
  rw [hv] at this
  exact ⟨_, _, rest, e, this⟩
namespace Lb
/-! ### typed data -/
def lotD (l : List Nat) : D := .tup (l.map natD)
def rowsD (rs : List (List Nat)) : D := .tup (rs.map lotD)
def litD (l : List Nat) : D := .lst (l.map natD)
theorem okT_lot {n : Nat} {l : List Nat} (h : l.length ≤ 1000000) : okT (n + 1) (lotD l) = true := by
  unfold lotD okT
  rw [Bool.and_eq_true]
  refine ⟨decide_eq_true (by rw [List.length_map]; exact h), okTs_of fun d hd => ?_⟩
  obtain ⟨k, _, rfl⟩ := List.mem_map.mp hd
  exact okT_nat
theorem okT_lit {n : Nat} {l : List Nat} (h : l.length ≤ 1000000) : okT (n + 1) (litD l) = true := by
  unfold litD okT
  rw [Bool.and_eq_true]
  refine ⟨decide_eq_true (by rw [List.length_map]; exact h), okTs_of fun d hd => ?_⟩
  obtain ⟨k, _, rfl⟩ := List.mem_map.mp hd
  exact okT_nat
theorem tupd_lot (l : List Nat) : tupd (lotD l) = lotD l := by unfold lotD tupd; rw [tupds_nat]
theorem tupd_lit (l : List Nat) : tupd (litD l) = lotD l := by unfold litD lotD tupd; rw [tupds_nat]
theorem tupd_rows (rs : List (List Nat)) : tupd (rowsD rs) = rowsD rs := by
  unfold rowsD tupd
  rw [tupds_eq, List.map_map]
  congr 1
  exact List.map_congr_left fun l _ => tupd_lot l
theorem tupd_lits (rs : List (List Nat)) : tupd (.lst (rs.map litD)) = rowsD rs := by
  unfold rowsD tupd
  rw [tupds_eq, List.map_map]
  congr 1
  exact List.map_congr_left fun l _ => tupd_lit l
theorem ix_lot {l : List Nat} {k : Nat} {i : Int} (hi : i = (k : Int)) (h : k < l.length) : ixD (lotD l) (.int i) = some (natD (l.getD k 0)) := atI_map 0 hi h
theorem ix_lit {l : List Nat} {k : Nat} {i : Int} (hi : i = (k : Int)) (h : k < l.length) : ixD (litD l) (.int i) = some (natD (l.getD k 0)) := atI_map 0 hi h
theorem ix_rows {l : List (List Nat)} {k : Nat} {i : Int} (hi : i = (k : Int)) (h : k < l.length) : ixD (rowsD l) (.int i) = some (lotD (l.getD k [])) := atI_map [] hi h
theorem bLen_lot (l : List Nat) : bltD .len [lotD l] = some (.d (.int l.length)) := by show some (R.d (D.int ((l.map natD).length : Nat))) = _; rw [List.length_map]
theorem bLen_lit (l : List Nat) : bltD .len [litD l] = some (.d (.int l.length)) := by show some (R.d (D.int ((l.map natD).length : Nat))) = _; rw [List.length_map]
theorem bLen_rows (l : List (List Nat)) : bltD .len [rowsD l] = some (.d (.int l.length)) := by show some (R.d (D.int ((l.map lotD).length : Nat))) = _; rw [List.length_map]
theorem okd_lot (n : Nat) (l : List Nat) : (lotD l).okd (n + 1) = true := okd_nats n l
theorem okd_lit (n : Nat) (l : List Nat) : (litD l).okd (n + 1) = true := okd_nats n l
theorem okd_rows (n : Nat) (l : List (List Nat)) : (rowsD l).okd (n + 2) = true := by
  show (l.map lotD).all (D.okd (n + 1)) = true
  rw [List.all_eq_true]
  intro d hd
  obtain ⟨k, _, rfl⟩ := List.mem_map.mp hd
  exact okd_lot n k
theorem in_lot (l : List Nat) (b : Nat) : cmpD .inn (natD b) (lotD l) = some (decide (b ∈ l)) := by
  unfold lotD cmpD inD
  dsimp only
  rw [okd_nat, okd_nats, in_nats]
  rfl
theorem nin_lot (l : List Nat) (b : Nat) : cmpD .nin (natD b) (lotD l) = some (!decide (b ∈ l)) := by
  have h : inD (natD b) (lotD l) = some (decide (b ∈ l)) := in_lot l b
  show (inD (natD b) (lotD l)).map (!·) = _
  rw [h]
  rfl
theorem eqv_lot (a b : List Nat) : D.eqv (lotD a) (lotD b) = decide (a = b) := eqvs_nats a b
theorem eqvs_lots : ∀ (a b : List (List Nat)), D.eqvs (a.map lotD) (b.map lotD) = decide (a = b)
  | [], [] => rfl
  | [], b :: bs => rfl
  | a :: as, [] => rfl
  | a :: as, b :: bs => by
    rw [List.map_cons, List.map_cons]
    unfold D.eqvs
    rw [eqvs_lots as bs, eqv_lot, Bool.eq_iff_iff]
    simp
theorem eq_rows (a b : List (List Nat)) : cmpD .eq (rowsD a) (rowsD b) = some (decide (a = b)) := by
  have h1 := okd_rows 58 a
  have h2 := okd_rows 58 b
  unfold cmpD eqD
  dsimp only
  rw [h1, h2]
  show some (D.eqvs (a.map lotD) (b.map lotD)) = _
  rw [eqvs_lots]
theorem bList_lot (l : List Nat) : bltD .list [lotD l] = some (.m (.lst (l.map natD))) := rfl
theorem isi_lot (cx : CtxR) (l : List Nat) : isiD cx (lotD l) [.tuple] = some true := rfl
theorem seq_lot (l : List Nat) : (lotD l).seq? = some (l.map natD) := rfl
theorem seq_rows (l : List (List Nat)) : (rowsD l).seq? = some (l.map lotD) := rfl
theorem tup_nats (l : List Nat) : (D.tup (l.map natD)) = lotD l := rfl
theorem tup_lots (l : List (List Nat)) : (D.tup (l.map lotD)) = rowsD l := rfl
theorem lst_nats (l : List Nat) : (D.lst (l.map natD)) = litD l := rfl
theorem bTup_nats (l : List Nat) : bltD .tuple [.lst (l.map natD)] = some (.d (lotD l)) := rfl
theorem bTup_mapn {α : Type} (g : α → Nat) (l : List α) : bltD .tuple [.lst (l.map fun x => natD (g x))] = some (.d (lotD (l.map g))) := by
  show some (R.d (.tup _)) = some (R.d (.tup ((l.map g).map natD)))
  rw [List.map_map]
  rfl
theorem bTup_mapl {α : Type} (g : α → List Nat) (l : List α) : bltD .tuple [.lst (l.map fun x => lotD (g x))] = some (.d (rowsD (l.map g))) := by
  show some (R.d (.tup _)) = some (R.d (.tup ((l.map g).map lotD)))
  rw [List.map_map]
  rfl
theorem bTup_lots (l : List (List Nat)) : bltD .tuple [.lst (l.map lotD)] = some (.d (rowsD l)) := rfl
theorem eq_rows_nil (rs : List (List Nat)) : cmpD .eq (rowsD rs) (.tup []) = some (decide (rs = [])) := eq_rows rs []
theorem cut_take {rs : List (List Nat)} {a : Nat} {i : Int} (hi : i = (a : Int)) (h : a ≤ rs.length) : cutD (rowsD rs) none (some i) = some (.d (rowsD (rs.take a))) := by
  subst hi
  show some (R.d (.tup (cutL (rs.map lotD) none (some (a : Int))))) = _
  unfold cutL
  rw [HT.sIx_none, HT.sIx_nat, List.drop_zero, List.length_map, Nat.sub_zero, Nat.min_eq_left h, ← List.map_take]
  rfl
theorem cut_drop {rs : List (List Nat)} {a : Nat} {i : Int} (hi : i = (a : Int)) (h : a ≤ rs.length) : cutD (rowsD rs) (some i) none = some (.d (rowsD (rs.drop a))) := by
  subst hi
  show some (R.d (.tup (cutL (rs.map lotD) (some (a : Int)) none))) = _
  unfold cutL
  rw [HT.sIx_none, HT.sIx_nat, List.length_map, Nat.min_eq_left h, ← List.map_drop, ← List.map_take]
  have : (rs.drop a).take (rs.length - a) = rs.drop a := List.take_of_length_le (by rw [List.length_drop]; exact Nat.le_refl _)
  rw [this]
  rfl
theorem bin_add_rows {a b : List (List Nat)} {Q : R → Prop} (hl : a.length + b.length ≤ 1000000) (h : Q (.d (rowsD (a ++ b)))) : ∃ r, binD .add (rowsD a) (rowsD b) = some r ∧ Q r := by
  refine bin_addT (by rw [List.length_map, List.length_map]; exact hl) ?_
  rw [← List.map_append]
  exact h
theorem bin_add_row {a : List (List Nat)} {r : List Nat} {Q : R → Prop} (hl : a.length < 1000000) (h : Q (.d (rowsD (a ++ [r])))) : ∃ x, binD .add (rowsD a) (.tup [lotD r]) = some x ∧ Q x := bin_add_rows (b := [r]) hl h
theorem zip_rows (a b : List (List Nat)) : zipA (rowsD a) (rowsD b) = some ((a.zip b).map fun p => D.tup [lotD p.1, lotD p.2]) := by
  show some (((a.map lotD).zip (b.map lotD)).map fun p => D.tup [p.1, p.2]) = _
  rw [List.zip_map, List.map_map]
  rfl
theorem isSeq_lot (l : List Nat) : isSeq (lotD l) = true := rfl
theorem isSeq_lit (l : List Nat) : isSeq (litD l) = true := rfl
theorem isSeq_rows (l : List (List Nat)) : isSeq (rowsD l) = true := rfl
theorem seq_lit (l : List Nat) : (litD l).seq? = some (l.map natD) := rfl
end Lb
@[irreducible] def lotD : List Nat → D := Lb.lotD
@[irreducible] def rowsD : List (List Nat) → D := Lb.rowsD
@[irreducible] def litD : List Nat → D := Lb.litD
theorem okT_lot {n : Nat} {l : List Nat} (h : l.length ≤ 1000000) : okT (n + 1) (lotD l) = true := by
  try simp only [lotD, rowsD, litD] at *
  exact Lb.okT_lot h
theorem okT_lit {n : Nat} {l : List Nat} (h : l.length ≤ 1000000) : okT (n + 1) (litD l) = true := by
  try simp only [lotD, rowsD, litD] at *
  exact Lb.okT_lit h
theorem tupd_lot (l : List Nat) : tupd (lotD l) = lotD l := by
  try simp only [lotD, rowsD, litD] at *
  exact Lb.tupd_lot l
theorem tupd_lit (l : List Nat) : tupd (litD l) = lotD l := by
  try simp only [lotD, rowsD, litD] at *
  exact Lb.tupd_lit l
theorem tupd_rows (rs : List (List Nat)) : tupd (rowsD rs) = rowsD rs := by
  try simp only [lotD, rowsD, litD] at *
  exact Lb.tupd_rows rs
theorem tupd_lits (rs : List (List Nat)) : tupd (.lst (rs.map litD)) = rowsD rs := by
  try simp only [lotD, rowsD, litD] at *
  exact Lb.tupd_lits rs
theorem ix_lot {l : List Nat} {k : Nat} {i : Int} (hi : i = (k : Int)) (h : k < l.length) : ixD (lotD l) (.int i) = some (natD (l.getD k 0)) := by
  try simp only [lotD, rowsD, litD] at *
  exact Lb.ix_lot hi h
theorem ix_lit {l : List Nat} {k : Nat} {i : Int} (hi : i = (k : Int)) (h : k < l.length) : ixD (litD l) (.int i) = some (natD (l.getD k 0)) := by
  try simp only [lotD, rowsD, litD] at *
  exact Lb.ix_lit hi h
theorem ix_rows {l : List (List Nat)} {k : Nat} {i : Int} (hi : i = (k : Int)) (h : k < l.length) : ixD (rowsD l) (.int i) = some (lotD (l.getD k [])) := by
  try simp only [lotD, rowsD, litD] at *
  exact Lb.ix_rows hi h
theorem bLen_lot (l : List Nat) : bltD .len [lotD l] = some (.d (.int l.length)) := by
  try simp only [lotD, rowsD, litD] at *
  exact Lb.bLen_lot l
theorem bLen_lit (l : List Nat) : bltD .len [litD l] = some (.d (.int l.length)) := by
  try simp only [lotD, rowsD, litD] at *
  exact Lb.bLen_lit l
theorem bLen_rows (l : List (List Nat)) : bltD .len [rowsD l] = some (.d (.int l.length)) := by
  try simp only [lotD, rowsD, litD] at *
  exact Lb.bLen_rows l
theorem okd_lot (n : Nat) (l : List Nat) : (lotD l).okd (n + 1) = true := by
  try simp only [lotD, rowsD, litD] at *
  exact Lb.okd_lot n l
theorem okd_lit (n : Nat) (l : List Nat) : (litD l).okd (n + 1) = true := by
  try simp only [lotD, rowsD, litD] at *
  exact Lb.okd_lit n l
theorem okd_rows (n : Nat) (l : List (List Nat)) : (rowsD l).okd (n + 2) = true := by
  try simp only [lotD, rowsD, litD] at *
  exact Lb.okd_rows n l
theorem in_lot (l : List Nat) (b : Nat) : cmpD .inn (natD b) (lotD l) = some (decide (b ∈ l)) := by
  try simp only [lotD, rowsD, litD] at *
  exact Lb.in_lot l b
theorem nin_lot (l : List Nat) (b : Nat) : cmpD .nin (natD b) (lotD l) = some (!decide (b ∈ l)) := by
  try simp only [lotD, rowsD, litD] at *
  exact Lb.nin_lot l b
theorem eqv_lot (a b : List Nat) : D.eqv (lotD a) (lotD b) = decide (a = b) := by
  try simp only [lotD, rowsD, litD] at *
  exact Lb.eqv_lot a b
theorem eqvs_lots : ∀ (a b : List (List Nat)), D.eqvs (a.map lotD) (b.map lotD) = decide (a = b) := by
  try simp only [lotD, rowsD, litD] at *
  exact Lb.eqvs_lots 
theorem eq_rows (a b : List (List Nat)) : cmpD .eq (rowsD a) (rowsD b) = some (decide (a = b)) := by
  try simp only [lotD, rowsD, litD] at *
  exact Lb.eq_rows a b
theorem bList_lot (l : List Nat) : bltD .list [lotD l] = some (.m (.lst (l.map natD))) := by
  try simp only [lotD, rowsD, litD] at *
  exact Lb.bList_lot l
theorem isi_lot (cx : CtxR) (l : List Nat) : isiD cx (lotD l) [.tuple] = some true := by
  try simp only [lotD, rowsD, litD] at *
  exact Lb.isi_lot cx l
theorem seq_lot (l : List Nat) : (lotD l).seq? = some (l.map natD) := by
  try simp only [lotD, rowsD, litD] at *
  exact Lb.seq_lot l
theorem seq_rows (l : List (List Nat)) : (rowsD l).seq? = some (l.map lotD) := by
  try simp only [lotD, rowsD, litD] at *
  exact Lb.seq_rows l
theorem tup_nats (l : List Nat) : (D.tup (l.map natD)) = lotD l := by
  try simp only [lotD, rowsD, litD] at *
  exact Lb.tup_nats l
theorem tup_lots (l : List (List Nat)) : (D.tup (l.map lotD)) = rowsD l := by
  try simp only [lotD, rowsD, litD] at *
  exact Lb.tup_lots l
theorem lst_nats (l : List Nat) : (D.lst (l.map natD)) = litD l := by
  try simp only [lotD, rowsD, litD] at *
  exact Lb.lst_nats l
theorem bTup_nats (l : List Nat) : bltD .tuple [.lst (l.map natD)] = some (.d (lotD l)) := by
  try simp only [lotD, rowsD, litD] at *
  exact Lb.bTup_nats l
theorem bTup_mapn {α : Type} (g : α → Nat) (l : List α) : bltD .tuple [.lst (l.map fun x => natD (g x))] = some (.d (lotD (l.map g))) := by
  try simp only [lotD, rowsD, litD] at *
  exact Lb.bTup_mapn g l
theorem bTup_mapl {α : Type} (g : α → List Nat) (l : List α) : bltD .tuple [.lst (l.map fun x => lotD (g x))] = some (.d (rowsD (l.map g))) := by
  try simp only [lotD, rowsD, litD] at *
  exact Lb.bTup_mapl g l
theorem bTup_lots (l : List (List Nat)) : bltD .tuple [.lst (l.map lotD)] = some (.d (rowsD l)) := by
  try simp only [lotD, rowsD, litD] at *
  exact Lb.bTup_lots l
theorem eq_rows_nil (rs : List (List Nat)) : cmpD .eq (rowsD rs) (.tup []) = some (decide (rs = [])) := by
  try simp only [lotD, rowsD, litD] at *
  exact Lb.eq_rows_nil rs
theorem cut_take {rs : List (List Nat)} {a : Nat} {i : Int} (hi : i = (a : Int)) (h : a ≤ rs.length) : cutD (rowsD rs) none (some i) = some (.d (rowsD (rs.take a))) := by
  try simp only [lotD, rowsD, litD] at *
  exact Lb.cut_take hi h
theorem cut_drop {rs : List (List Nat)} {a : Nat} {i : Int} (hi : i = (a : Int)) (h : a ≤ rs.length) : cutD (rowsD rs) (some i) none = some (.d (rowsD (rs.drop a))) := by
  try simp only [lotD, rowsD, litD] at *
  exact Lb.cut_drop hi h
theorem bin_add_rows {a b : List (List Nat)} {Q : R → Prop} (hl : a.length + b.length ≤ 1000000) (h : Q (.d (rowsD (a ++ b)))) : ∃ r, binD .add (rowsD a) (rowsD b) = some r ∧ Q r := by
  try simp only [lotD, rowsD, litD] at *
  exact Lb.bin_add_rows hl h
theorem bin_add_row {a : List (List Nat)} {r : List Nat} {Q : R → Prop} (hl : a.length < 1000000) (h : Q (.d (rowsD (a ++ [r])))) : ∃ x, binD .add (rowsD a) (.tup [lotD r]) = some x ∧ Q x := by
  try simp only [lotD, rowsD, litD] at *
  exact Lb.bin_add_row hl h
theorem zip_rows (a b : List (List Nat)) : zipA (rowsD a) (rowsD b) = some ((a.zip b).map fun p => D.tup [lotD p.1, lotD p.2]) := by
  try simp only [lotD, rowsD, litD] at *
  exact Lb.zip_rows a b
theorem isSeq_lot (l : List Nat) : isSeq (lotD l) = true := by
  simp only [lotD, rowsD, litD]
  exact Lb.isSeq_lot l
theorem isSeq_lit (l : List Nat) : isSeq (litD l) = true := by
  simp only [lotD, rowsD, litD]
  exact Lb.isSeq_lit l
theorem isSeq_rows (l : List (List Nat)) : isSeq (rowsD l) = true := by
  simp only [lotD, rowsD, litD]
  exact Lb.isSeq_rows l
theorem seq_lit (l : List Nat) : (litD l).seq? = some (l.map natD) := by
  simp only [lotD, rowsD, litD]
  exact Lb.seq_lit l
/-- a lot as a tuple or as a list -/
inductive IsLot (l : List Nat) : D → Prop
  | tup : IsLot l (lotD l)
  | lst : IsLot l (litD l)
theorem IsLot.okT {l : List Nat} {v : D} {k : Nat} (h : IsLot l v) (hl : l.length ≤ 1000000) : okT (k + 1) v = true := by
  cases h with
  | tup => exact okT_lot hl
  | lst => exact okT_lit hl
theorem IsLot.seq {l : List Nat} {v : D} (h : IsLot l v) : v.seq? = some (l.map natD) := by
  cases h
  · exact seq_lot l
  · exact seq_lit l
theorem IsLot.isSeq {l : List Nat} {v : D} (h : IsLot l v) : isSeq v = true := by
  cases h
  · exact isSeq_lot l
  · exact isSeq_lit l
theorem IsLot.len {l : List Nat} {v : D} (h : IsLot l v) : bltD .len [v] = some (.d (.int l.length)) := by
  cases h
  · exact bLen_lot l
  · exact bLen_lit l
theorem IsLot.ix {l : List Nat} {v : D} {k : Nat} {i : Int} (h : IsLot l v) (hi : i = (k : Int)) (hk : k < l.length) : ixD v (.int i) = some (natD (l.getD k 0)) := by
  cases h
  · exact ix_lot hi hk
  · exact ix_lit hi hk
/-- rows as they are handed in -/
inductive IsRows (rows : List (List Nat)) : D → Prop
  | tup : IsRows rows (rowsD rows)
  | lst : IsRows rows (.lst (rows.map litD))
theorem okT_seq {α : Type} {k : Nat} {f : α → D} {rows : List α} (hr : rows.length ≤ 1000000) (h : ∀ r ∈ rows, okT k (f r) = true) : okT (k + 1) (.tup (rows.map f)) = true ∧ okT (k + 1) (.lst (rows.map f)) = true := by
  have : okTs k (rows.map f) = true := okTs_of fun d hd => by
    obtain ⟨r, hr, rfl⟩ := List.mem_map.mp hd
    exact h r hr
  unfold okT
  rw [this, List.length_map]
  simp [hr]
theorem IsRows.ok2 {rows : List (List Nat)} {v : D} {k : Nat} (hv : IsRows rows v) (hr : rows.length ≤ 1000000) (h : ∀ r ∈ rows, r.length ≤ 1000000) : okT (k + 2) v = true := by
  cases hv with
  | tup =>
    rw [← tup_lots]
    exact (okT_seq (k := k + 1) hr fun r hr => okT_lot (h r hr)).1
  | lst => exact (okT_seq (k := k + 1) hr fun r hr => okT_lit (h r hr)).2
theorem IsRows.isSeq {rows : List (List Nat)} {v : D} (hv : IsRows rows v) : isSeq v = true := by
  cases hv
  · exact isSeq_rows rows
  · rfl
theorem IsRows.len {rows : List (List Nat)} {v : D} (hv : IsRows rows v) : bltD .len [v] = some (.d (.int rows.length)) := by
  cases hv
  · exact bLen_rows rows
  · exact bLen_map litD rows
theorem IsRows.seq {rows : List (List Nat)} {v : D} (hv : IsRows rows v) : ∃ f : List Nat → D, v.seq? = some (rows.map f) ∧ ∀ l, IsLot l (f l) := by
  cases hv
  · exact ⟨lotD, seq_rows rows, fun l => .tup⟩
  · exact ⟨litD, rfl, fun l => .lst⟩
theorem IsRows.tupd {rows : List (List Nat)} {v : D} (hv : IsRows rows v) : tupd v = rowsD rows := by
  cases hv
  · exact tupd_rows rows
  · exact tupd_lits rows
end Rf

set_option Elab.async false
set_option linter.all false
set_option maxRecDepth 100000
set_option maxHeartbeats 1000000
namespace Rf
open PySem PySem.Spec PyProof.Rows L2
/-! ### numbers as data -/
def topD : D → Int
  | .int i => i
  | .tup (.int a :: _) => a
  | _ => 0
def botD : D → Int
  | .tup [_, .int b] => b
  | _ => 1
def isIntD : D → Bool
  | .int _ => true
  | _ => false
def isRatD : D → Bool
  | .int _ => true
  | .tup [.int a, .int b] => decide (1 < b) && decide ((Int.gcd a b : Int) = 1)
  | _ => false
/-- not a thing that isinstance does not know -/
def vis : D → Bool
  | .fn _ => false
  | .scr _ => false
  | .exc _ => false
  | .ins _ _ _ => false
  | _ => true
def lessD (x y : D) : Bool := decide (topD x * botD y < topD y * botD x)
/-! plain data: at most n deep, each int within B -/
mutual
def plB (B : Int) : Nat → D → Bool
  | _, .non => true
  | _, .bl _ => true
  | _, .int i => decide (-B < i) && decide (i < B)
  | _, .str _ => true
  | _, .dct _ _ => true
  | n + 1, .lst ds => decide (ds.length ≤ 1000) && plBs B n ds
  | n + 1, .tup ds => decide (ds.length ≤ 1000) && plBs B n ds
  | _, _ => false
def plBs (B : Int) : Nat → List D → Bool
  | _, [] => true
  | n, d :: ds => plB B n d && plBs B n ds
end
section
variable {B : Int}
theorem plBs_mem {n : Nat} : ∀ {ds : List D}, plBs B n ds = true → ∀ d ∈ ds, plB B n d = true
  | [], _, _, h => nomatch h
  | d :: ds, h, x, hx => by
    unfold plBs at h
    rw [Bool.and_eq_true] at h
    rcases List.mem_cons.mp hx with rfl | hx
    · exact h.1
    · exact plBs_mem h.2 x hx
theorem plBs_of {n : Nat} : ∀ {ds : List D}, (∀ d ∈ ds, plB B n d = true) → plBs B n ds = true
  | [], _ => by unfold plBs; rfl
  | d :: ds, h => by
    unfold plBs
    rw [Bool.and_eq_true]
    exact ⟨h d List.mem_cons_self, plBs_of fun x hx => h x (List.mem_cons_of_mem _ hx)⟩
theorem plB_tup {n : Nat} {ds : List D} (hl : ds.length ≤ 1000) (h : ∀ d ∈ ds, plB B n d = true) : plB B (n + 1) (.tup ds) = true := by
  unfold plB
  rw [Bool.and_eq_true]
  exact ⟨decide_eq_true hl, plBs_of h⟩
theorem plB_lst {n : Nat} {ds : List D} (hl : ds.length ≤ 1000) (h : ∀ d ∈ ds, plB B n d = true) : plB B (n + 1) (.lst ds) = true := by
  unfold plB
  rw [Bool.and_eq_true]
  exact ⟨decide_eq_true hl, plBs_of h⟩
theorem plB_int {n : Nat} {i : Int} (h1 : -B < i) (h2 : i < B) : plB B n (.int i) = true := by
  unfold plB
  rw [Bool.and_eq_true]
  exact ⟨decide_eq_true h1, decide_eq_true h2⟩
theorem of_plB_tup {n : Nat} {ds : List D} (h : plB B n (.tup ds) = true) : ∃ m, n = m + 1 ∧ ds.length ≤ 1000 ∧ ∀ d ∈ ds, plB B m d = true := by
  cases n with
  | zero => unfold plB at h; cases h
  | succ n =>
    unfold plB at h
    rw [Bool.and_eq_true] at h
    exact ⟨n, rfl, of_decide_eq_true h.1, plBs_mem h.2⟩
theorem of_plB_lst {n : Nat} {ds : List D} (h : plB B n (.lst ds) = true) : ∃ m, n = m + 1 ∧ ds.length ≤ 1000 ∧ ∀ d ∈ ds, plB B m d = true := by
  cases n with
  | zero => unfold plB at h; cases h
  | succ n =>
    unfold plB at h
    rw [Bool.and_eq_true] at h
    exact ⟨n, rfl, of_decide_eq_true h.1, plBs_mem h.2⟩
theorem of_plB_int {n : Nat} {i : Int} (h : plB B n (.int i) = true) : -B < i ∧ i < B := by
  unfold plB at h
  rw [Bool.and_eq_true] at h
  exact ⟨of_decide_eq_true h.1, of_decide_eq_true h.2⟩
theorem plB_vis {n : Nat} {d : D} (h : plB B n d = true) : vis d = true := by
  cases d <;> first | rfl | (unfold plB at h; cases h)
theorem plB_ok : ∀ (n : Nat) (d : D), plB B n d = true → okT n d = true := by
  intro n
  induction n with
  | zero =>
    intro d h
    cases d <;> first | (unfold okT; rfl) | (unfold plB at h; cases h)
  | succ n ih =>
    intro d h
    cases d with
    | tup ds =>
      obtain ⟨m, e, hl, hm⟩ := of_plB_tup h
      obtain rfl : n = m := by omega
      unfold okT
      rw [Bool.and_eq_true]
      exact ⟨decide_eq_true (by omega), okTs_of fun x hx => ih x (hm x hx)⟩
    | lst ds =>
      obtain ⟨m, e, hl, hm⟩ := of_plB_lst h
      obtain rfl : n = m := by omega
      unfold okT
      rw [Bool.and_eq_true]
      exact ⟨decide_eq_true (by omega), okTs_of fun x hx => ih x (hm x hx)⟩
    | _ => first | (unfold okT; rfl) | (unfold plB at h; cases h)
theorem plB_up : ∀ (n m : Nat) (d : D) (B' : Int), plB B n d = true → n ≤ m → B ≤ B' → plB B' m d = true := by
  intro n
  induction n with
  | zero =>
    intro m d B' h hn hB
    cases d with
    | int i =>
      have := of_plB_int h
      exact plB_int (by omega) (by omega)
    | _ => first | (unfold plB; rfl) | (unfold plB at h; cases h)
  | succ n ih =>
    intro m d B' h hn hB
    cases d with
    | int i =>
      have := of_plB_int h
      exact plB_int (by omega) (by omega)
    | tup ds =>
      obtain ⟨k, e, hl, hm⟩ := of_plB_tup h
      obtain rfl : n = k := by omega
      cases m with
      | zero => omega
      | succ m => exact plB_tup hl fun x hx => ih m x B' (hm x hx) (by omega) hB
    | lst ds =>
      obtain ⟨k, e, hl, hm⟩ := of_plB_lst h
      obtain rfl : n = k := by omega
      cases m with
      | zero => omega
      | succ m => exact plB_lst hl fun x hx => ih m x B' (hm x hx) (by omega) hB
    | _ => first | (unfold plB; rfl) | (unfold plB at h; cases h)
theorem plB_tupd : ∀ (n : Nat) (d : D), plB B n d = true → plB B n (tupd d) = true := by
  intro n
  induction n with
  | zero =>
    intro d h
    cases d <;> first | (unfold tupd; exact h) | (unfold plB at h; cases h)
  | succ n ih =>
    intro d h
    cases d with
    | tup ds =>
      obtain ⟨k, e, hl, hm⟩ := of_plB_tup h
      obtain rfl : n = k := by omega
      unfold tupd
      rw [tupds_eq]
      refine plB_tup (by rw [List.length_map]; exact hl) fun x hx => ?_
      obtain ⟨y, hy, rfl⟩ := List.mem_map.mp hx
      exact ih y (hm y hy)
    | lst ds =>
      obtain ⟨k, e, hl, hm⟩ := of_plB_lst h
      obtain rfl : n = k := by omega
      unfold tupd
      rw [tupds_eq]
      refine plB_tup (by rw [List.length_map]; exact hl) fun x hx => ?_
      obtain ⟨y, hy, rfl⟩ := List.mem_map.mp hx
      exact ih y (hm y hy)
    | _ => first | (unfold tupd; exact h) | (unfold plB at h; cases h)
end
/-! what isinstance says -/
def isIB : D → Bool
  | .int _ => true
  | .bl _ => true
  | _ => false
def isBl : D → Bool
  | .bl _ => true
  | _ => false
def isTup : D → Bool
  | .tup _ => true
  | _ => false
theorem isi_int (cx : CtxR) {d : D} (h : vis d = true) : isiD cx d [.int] = some (isIB d) := by cases d <;> first | rfl | cases h
theorem isi_bool (cx : CtxR) {d : D} (h : vis d = true) : isiD cx d [.bool] = some (isBl d) := by cases d <;> first | rfl | cases h
theorem isi_tup (cx : CtxR) {d : D} (h : vis d = true) : isiD cx d [.tuple] = some (isTup d) := by cases d <;> first | rfl | cases h
theorem isi_seq (cx : CtxR) {d : D} (h : vis d = true) : isiD cx d [.list, .tuple] = some (isSeq d) := by cases d <;> first | rfl | cases h
theorem isIntD_eq (d : D) : isIntD d = (isIB d && !isBl d) := by cases d <;> rfl
theorem rat_cases {d : D} (h : isRatD d = true) : (∃ i, d = .int i) ∨ ∃ a b, d = .tup [.int a, .int b] ∧ 1 < b ∧ (Int.gcd a b : Int) = 1 := by
  unfold isRatD at h
  split at h
  · exact .inl ⟨_, rfl⟩
  · rw [Bool.and_eq_true] at h
    exact .inr ⟨_, _, rfl, of_decide_eq_true h.1, of_decide_eq_true h.2⟩
  · cases h
theorem small_le {i : Int} (h1 : -(10 ^ 1000) < i) (h2 : i < 10 ^ 1000) : small i = true := by
  unfold small lim
  rw [Bool.and_eq_true, decide_eq_true_eq, decide_eq_true_eq]
  have : (10 : Int) ^ 1000 ≤ 2 ^ 4000 := by decide +kernel
  exact ⟨by omega, by omega⟩
/-- a ratio within B, top and bottom -/
def numB (B : Int) : D → Bool
  | .int i => decide (-B < i) && decide (i < B)
  | .tup [.int a, .int b] => decide (-B < a) && decide (a < B) && decide (0 < b) && decide (b < B)
  | _ => false
theorem num_cases {B : Int} {d : D} (h : numB B d = true) : (∃ i, d = .int i ∧ -B < i ∧ i < B) ∨ ∃ a b, d = .tup [.int a, .int b] ∧ -B < a ∧ a < B ∧ 0 < b ∧ b < B := by
  unfold numB at h
  split at h
  · rw [Bool.and_eq_true] at h
    exact .inl ⟨_, rfl, of_decide_eq_true h.1, of_decide_eq_true h.2⟩
  · simp only [Bool.and_eq_true, decide_eq_true_eq] at h
    exact .inr ⟨_, _, rfl, h.1.1.1, h.1.1.2, h.1.2, h.2⟩
  · cases h
theorem num_int {B i : Int} (h1 : -B < i) (h2 : i < B) : numB B (.int i) = true := by
  unfold numB
  rw [Bool.and_eq_true]
  exact ⟨decide_eq_true h1, decide_eq_true h2⟩
theorem num_rat {B a b : Int} (h1 : -B < a) (h2 : a < B) (h3 : 0 < b) (h4 : b < B) : numB B (.tup [.int a, .int b]) = true := by
  unfold numB
  simp only [Bool.and_eq_true, decide_eq_true_eq]
  exact ⟨⟨⟨h1, h2⟩, h3⟩, h4⟩
theorem num_pl {B : Int} {d : D} (h : numB B d = true) : plB B 1 d = true := by
  rcases num_cases h with ⟨i, rfl, h1, h2⟩ | ⟨a, b, rfl, h1, h2, h3, h4⟩
  · exact plB_int h1 h2
  · refine plB_tup (by simp) fun d hd => ?_
    rcases List.mem_cons.mp hd with rfl | hd
    · exact plB_int h1 h2
    · rw [List.mem_singleton] at hd
      subst hd
      exact plB_int (by omega) h4
/-! the great numbers of the bounds, kept closed -/
@[irreducible] def big (n : Nat) : Int := 10 ^ n
theorem big_def (n : Nat) : big n = 10 ^ n := by unfold big; rfl
theorem big_mul (a b : Nat) : big a * big b = big (a + b) := by rw [big_def, big_def, big_def, Int.pow_add]
theorem big_pos (n : Nat) : 0 < big n := by rw [big_def]; exact Int.pow_pos (by decide)
theorem big_le {a b : Nat} (h : a ≤ b) : big a ≤ big b := by
  obtain ⟨c, rfl⟩ := Nat.le.dest h
  rw [← big_mul]
  have h1 := big_pos a
  have h2 : 1 ≤ big c := by have := big_pos c; omega
  calc big a = big a * 1 := (Int.mul_one _).symm
    _ ≤ big a * big c := Int.mul_le_mul_of_nonneg_left h2 (by omega)
theorem mul_lt_big {a b : Nat} {i j : Int} (h1 : -big a < i) (h2 : i < big a) (h3 : -big b < j) (h4 : j < big b) : -big (a + b) < i * j ∧ i * j < big (a + b) := by
  have e : (i * j).natAbs < (big (a + b)).natAbs := by
    rw [← big_mul, Int.natAbs_mul, Int.natAbs_mul]
    exact Nat.mul_lt_mul'' (by omega) (by omega)
  have := big_pos (a + b)
  omega
theorem small_big {n : Nat} {i : Int} (hn : n ≤ 1000) (h1 : -big n < i) (h2 : i < big n) : small i = true := by
  have := big_le hn
  rw [big_def 1000] at this
  exact small_le (by omega) (by omega)
theorem bin_mod {i j : Int} {Q : R → Prop} (hj : j ≠ 0) (h : Q (.d (.int (i.fmod j)))) : ∃ r, binD .mod (.int i) (.int j) = some r ∧ Q r :=
  ⟨_, by
    show ((if _ then _ else _ : Option Int)).map (fun k => R.d (.int k)) = _
    rw [if_pos (decide_eq_true hj)]
    rfl, h⟩
theorem bin_modN {a b : Nat} {Q : R → Prop} (hb : b ≠ 0) (h : Q (.d (.int ((a % b : Nat) : Int)))) : ∃ r, binD .mod (.int (a : Int)) (.int (b : Int)) = some r ∧ Q r :=
  bin_mod (by omega) (by
    rw [Int.fmod_eq_emod_of_nonneg _ (by omega)]
    exact h)
theorem bin_fdiv {i j : Int} {Q : R → Prop} (hj : j ≠ 0) (hs : small j = true) (h : Q (.d (.int (i.fdiv j)))) : ∃ r, binD .fdiv (.int i) (.int j) = some r ∧ Q r :=
  ⟨_, by
    show ((if _ then _ else _ : Option Int)).map (fun k => R.d (.int k)) = _
    rw [if_pos (by rw [decide_eq_true hj, hs]; rfl)]
    rfl, h⟩
theorem bin_mulT {xs : List D} {k : Int} {Q : R → Prop} (h1 : -1000 ≤ k) (h2 : k ≤ 1000) (h3 : xs.length ≤ 1000) (h : Q (.d (.tup (List.replicate k.toNat xs).flatten))) : ∃ r, binD .mul (.tup xs) (.int k) = some r ∧ Q r :=
  ⟨_, if_pos (by rw [decide_eq_true h1, decide_eq_true h2, decide_eq_true h3]; rfl), h⟩
theorem mul_small {p : Nat} {i j : Int} (hp : p ≤ 1000) (hi : -big p < i ∧ i < big p) (hj : -big p < j ∧ j < big p) : i.natAbs * j.natAbs < 2 ^ 8000 := by
  have h1 : ∀ {k : Int}, -big p < k ∧ k < big p → k.natAbs < 10 ^ 1000 := fun {k} hk => by
    have := big_le hp
    rw [big_def 1000] at this
    have e : ((10 ^ 1000 : Nat) : Int) = (10 : Int) ^ 1000 := Int.natCast_pow 10 1000
    have : (k.natAbs : Int) < ((10 ^ 1000 : Nat) : Int) := by rw [e]; omega
    exact Int.ofNat_lt.mp this
  have h2 : 10 ^ 1000 * 10 ^ 1000 ≤ 2 ^ 8000 := by decide +kernel
  exact Nat.lt_of_lt_of_le (Nat.mul_lt_mul'' (h1 hi) (h1 hj)) h2
theorem eq_lst_nil (ds : List D) : cmpD .eq (.lst ds) (.lst []) = some (decide (ds = [])) := by
  cases ds with
  | nil => rfl
  | cons d ds =>
    show eqD _ _ = _
    unfold eqD
    split
    · rfl
    · rfl
theorem ne_lst_nil (ds : List D) : cmpD .ne (.lst ds) (.lst []) = some (!decide (ds = [])) := by
  have h : eqD (.lst ds) (.lst []) = some (decide (ds = [])) := eq_lst_nil ds
  show (eqD (.lst ds) (.lst [])).map (!·) = _
  rw [h]
  rfl
theorem cut_takeD {ds : List D} {a : Nat} {i : Int} (hi : i = (a : Int)) (h : a ≤ ds.length) : cutD (.tup ds) none (some i) = some (.d (.tup (ds.take a))) := by
  subst hi
  show some (R.d (.tup (cutL ds none (some (a : Int))))) = _
  unfold cutL
  rw [HT.sIx_none, HT.sIx_nat, List.drop_zero, Nat.sub_zero, Nat.min_eq_left h]
theorem cut_dropD {ds : List D} {a : Nat} {i : Int} (hi : i = (a : Int)) (h : a ≤ ds.length) : cutD (.tup ds) (some i) none = some (.d (.tup (ds.drop a))) := by
  subst hi
  show some (R.d (.tup (cutL ds (some (a : Int)) none))) = _
  unfold cutL
  rw [HT.sIx_none, HT.sIx_nat, Nat.min_eq_left h]
  have : (ds.drop a).take (ds.length - a) = ds.drop a := List.take_of_length_le (by rw [List.length_drop]; exact Nat.le_refl _)
  rw [this]
theorem cutL_take {ds : List D} {a : Nat} {i : Int} (hi : i = (a : Int)) (h : a ≤ ds.length) : cutL ds none (some i) = ds.take a := by
  have := cut_takeD hi h
  injection this with this
  injection this with this
  injection this with this
theorem cutL_drop {ds : List D} {a : Nat} {i : Int} (hi : i = (a : Int)) (h : a ≤ ds.length) : cutL ds (some i) none = ds.drop a := by
  have := cut_dropD hi h
  injection this with this
  injection this with this
  injection this with this
end Rf

set_option Elab.async false
set_option linter.all false
set_option maxRecDepth 100000
set_option maxHeartbeats 1000000
namespace Rf
open PySem PySem.Spec PyProof.Rows L2
section
variable {cx : CtxR} {Φ : Phi} {Γ : En} {N M B C : En → Prop} {Y : Xc → Prop} {Z : R → En → Prop} {s : S} {ss : Ss}
/-- a word between a statement and what follows -/
theorem W1_mid (M : En → Prop) (h : W1 cx Φ s Γ ⟨M, Z, B, C, Y⟩) (k : ∀ Γ1, M Γ1 → N Γ1) : W1 cx Φ s Γ ⟨N, Z, B, C, Y⟩ := by
  simp only [W1, w1] at *
  cases hx : ex cx Φ s Γ <;> rw [hx] at h
  · exact k _ h
  · exact h
  · exact h
  · exact h
  · exact h
  · exact h
end
end Rf


set_option Elab.async false
set_option linter.all false
set_option maxRecDepth 100000
set_option maxHeartbeats 0
namespace RfL
open PySem PySem.Spec PyProof.Rows L2 Rf
local macro_rules | `(tactic| array_get_dec) => `(tactic| first
  | (refine WP.of_WS ?_; first
    | refine WS_cons ?_
    | refine WS_nil ?_)
  | (refine WP.of_W1 ?_; first
    | refine W1_asg ?_
    | refine W1_asgs ?_
    | refine W1_retM rfl ?_
    | refine W1_retF rfl ?_
    | refine W1_ret rfl ?_
    | refine W1_ite ?_
    | refine W1_exp ?_
    | refine W1_put rfl ?_
    | refine W1_fld ?_
    | refine W1_aug rfl rfl ?_
    | refine W1_retN ?_
    | refine W1_pass ?_
    | refine W1_brk ?_
    | refine W1_cont ?_
    | refine W1_raise ?_)
  | (refine WP.of_WV ?_; first
    | refine WV_fr rfl ?_
    | refine WV_mu rfl ?_
    | refine WV_int ?_
    | refine WV_bl ?_
    | refine WV_str ?_
    | refine WV_non ?_
    | refine WV_e ?_)
  | (refine WP.of_WE ?_; first
    | refine WE_fr rfl ?_
    | refine WE_mu rfl ?_
    | refine WE_bin ?_
    | refine WE_cmpv rfl rfl rfl ?_
    | refine WE_cmp (by first | exact .inl rfl | exact .inr rfl) ?_
    | refine WE_ixv rfl rfl ?_
    | refine WE_ix rfl ?_
    | refine WE_blt ?_
    | refine WE_callS rfl ?_
    | refine WE_callB rfl ?_
    | refine WE_callV rfl ?_
    | refine WE_call0 ?_
    | refine WE_isi ?_
    | refine WE_bop2 ?_
    | refine WE_bop1 ?_
    | refine WE_nt ?_
    | refine WE_ite ?_
    | refine WE_tup ?_
    | refine WE_attr ?_
    | refine WE_int ?_
    | refine WE_bl ?_
    | refine WE_lst ?_
    | refine WE_isc ?_
    | refine WE_cmp2 ?_
    | refine WE_make rfl ?_
    | refine WE_mut rfl ?_
    | refine WE_cut ?_
    | refine WE_neg ?_
    | refine WE_gint rfl ?_
    | refine WE_meth rfl rfl ?_
    | refine WE_rev ?_
    | refine WE_non ?_
    | refine WE_str ?_
    | refine WE_fnv ?_
    | refine WE_fault ?_
    | refine WE_faultV rfl rfl rfl ?_
    | refine WE_repr ?_
    | refine WE_dct (by decide +kernel) ?_)
  | (refine WP.of_WK ?_; first
    | refine WK_var rfl rfl ?_
    | refine WK_e rfl ?_)
  | (refine WP.of_WT ?_; first
    | refine WT_var rfl rfl rfl ?_
    | refine WT_bop2 ?_
    | refine WT_bop1 ?_
    | refine WT_bop0 ?_
    | refine WT_nt ?_
    | refine WT_ite ?_
    | refine WT_mk rfl ?_)
  | (refine WP.of_WC ?_; first
    | refine WT_none ?_
    | refine WC_one ?_)
  | (refine WP.of_WL ?_; first
    | refine WL_cons ?_
    | refine WL_nil ?_)
  | (refine WP.of_WB ?_; first
    | refine WB_one ?_
    | refine WB_cons ?_
    | refine WB_nil ?_)
  | (refine WP.of_WR ?_; first
    | refine WR_cons ?_
    | refine WR_nil ?_)
  | (refine WP.of_WO ?_; first
    | refine WO_one ?_
    | refine WO_nil ?_)
  | refine ⟨_, bTup_nats _, ?_⟩
  | refine ⟨_, bList_lot _, ?_⟩
  | refine ⟨_, bTup_mapn _ _, ?_⟩
  | refine ⟨_, bTup_lots _, ?_⟩
  | refine ⟨_, bTup_mapl _ _, ?_⟩
  | refine ⟨_, rfl, ?_⟩
  | refine ⟨rfl, ?_⟩
  | refine ⟨_, bLen_lot _, ?_⟩
  | refine ⟨_, bLen_rows _, ?_⟩
  | refine ⟨_, seq_rows _, ?_⟩
  | refine ⟨_, seq_lot _, ?_⟩
  | refine ⟨_, in_lot _ _, ?_⟩
  | refine ⟨_, nin_lot _ _, ?_⟩
  | refine ⟨_, eq_rows _ _, ?_⟩
  | refine ⟨_, isi_lot _ _, ?_⟩
  | refine asg_fz rfl ?_
  | refine asg_own rfl (by assumption) ?_
  | refine asg_cons ?_
  | refine asg_tup ?_
  | refine ⟨Nat.le_of_ble_eq_true rfl, ?_⟩
  | refine Wn1 ?_
  | refine Wn2 ?_
  | refine W1t ?_
  | refine W1f ?_
  | refine W2t ?_
  | refine W2f ?_
  | refine Wd1 (fun _ => ?_) (fun _ => ?_)
  | refine Wd2 (fun _ => ?_) (fun _ => ?_)
  | refine Wb1 (fun _ => ?_) (fun _ => ?_)
  | refine Wb2 (fun _ => ?_) (fun _ => ?_)
  | refine Wif (fun _ => ?_) (fun _ => ?_))
local macro_rules | `(tactic| array_mem_dec) => `(tactic| (repeat' array_get_dec))
local macro_rules | `(tactic| get_elem_tactic_extensible) => `(tactic| ((try simp only [backE, List.getD_cons_zero, List.getD_cons_succ, List.getElem?_cons_zero, List.getElem?_cons_succ, freeO, stV_bo0, stV_mu0, stV_mu1, wipeE, lockO, lockE, List.set, R.sl, List.map, List.replicate, Nat.reduceSub, List.cons_append, List.nil_append, List.append_nil]); (repeat' array_get_dec)))
local macro_rules | `(tactic| sizeOf_list_dec) => `(tactic| (repeat' ((fail_if_success refine W1_ite ?_); array_get_dec)))

theorem run_is_integer (n : Nat) (i : Int) (Q : R → En → Prop) (h : ∀ G, Q (.d (.bl true)) G) : ∃ r G, Rf.run cx prg (n + 1) "is_integer" [.fr (.int i)] = some (r, G) ∧ Q r G := by
  refine run_of lk_is_integer rfl ?_
  unfold d_is_integer; get_elem_tactic_extensible
  apply h
theorem run_is_ratio (n : Nat) (i : Int) (Q : R → En → Prop) (h : ∀ G, Q (.d (.bl true)) G) : ∃ r G, Rf.run cx prg (n + 2) "is_ratio" [.fr (.int i)] = some (r, G) ∧ Q r G := by
  refine run_of lk_is_ratio rfl ?_
  unfold d_is_ratio; get_elem_tactic_extensible
  refine run_is_integer n i _ fun G => ?_
  array_mem_dec
  apply h
theorem run_pair (n : Nat) (i : Int) (Q : R → En → Prop) (h : ∀ G, Q (.d (.tup [.int i, .int 1])) G) : ∃ r G, Rf.run cx prg (n + 1) "pair" [.fr (.int i)] = some (r, G) ∧ Q r G := by
  refine run_of lk_pair rfl ?_
  unfold d_pair; get_elem_tactic_extensible
  apply h
theorem run_is_below (n : Nat) (i j : Int) (hi : small i = true) (hj : small j = true) (Q : R → En → Prop) (h : ∀ G, Q (.d (.bl (decide (i < j)))) G) : ∃ r G, Rf.run cx prg (n + 2) "is_below" [.fr (.int i), .fr (.int j)] = some (r, G) ∧ Q r G := by
  refine run_of lk_is_below rfl ?_
  unfold d_is_below; get_elem_tactic_extensible
  refine run_pair n i _ fun G => ?_
  array_mem_dec
  refine run_pair n j _ fun G => ?_
  array_mem_dec
  have s1 : small 1 = true := by decide +kernel
  refine bin_mul hi s1 ?_
  array_mem_dec
  refine bin_mul hj s1 ?_
  array_mem_dec
  rw [Int.mul_one, Int.mul_one]
  apply h
def marksD (rows : List (List Nat)) (w : Nat) : D := .ins "Marks" ["rows", "width"] [rowsD rows, natD w]
def marksM (rows : List (List Nat)) (w : Nat) : M := .ins "Marks" ["rows", "width"] [rowsD rows, natD w]
def heightsM (f g : List Nat) : M := .ins "Heights" ["f", "g"] [lotD f, lotD g]
def squareM (a b c d : Nat) : M := .ins "Square" ["a", "b", "c", "d"] [natD a, natD b, natD c, natD d]
def optN : Option Nat → D
  | none => .non
  | some b => natD b
def firstAlone (row other : List Nat) : Option Nat := row.find? fun b => !decide (b ∈ other)
def sqAt (rows : List (List Nat)) (a c : Nat) : Option (Nat × Nat × Nat × Nat) :=
  match firstAlone (rows.getD a []) (rows.getD c []), firstAlone (rows.getD c []) (rows.getD a []) with
  | some b, some d => some (a, b, c, d)
  | _, _ => none
def sqRow (rows : List (List Nat)) (a : Nat) : Option (Nat × Nat × Nat × Nat) := (List.range (rows.length - (a + 1))).findSome? fun k => sqAt rows a (a + 1 + k)
def fsq (rows : List (List Nat)) : Option (Nat × Nat × Nat × Nat) := (List.range rows.length).findSome? (sqRow rows)
def sqR : Option (Nat × Nat × Nat × Nat) → R
  | none => .d .non
  | some (a, b, c, d) => .m (squareM a b c d)
theorem isc_opt (o : Option Nat) : isC none (optN o) = o.isNone := by cases o <;> rfl
def sizesOf (rows : List (List Nat)) : List Int := sortI (dedI ((rows.filter fun r => decide (0 < r.length)).map fun r => (r.length : Int)))
def rankOf (rows : List (List Nat)) (r : List Nat) : Nat := if 0 < r.length then (sizesOf rows).idxOf (r.length : Int) + 1 else 0
theorem fstAt_ints (x : Int) : ∀ (l : List Int) (k : Nat), x ∈ l → fstAt (l.map D.int) (.int x) k = some (l.idxOf x + k)
  | [], _, h => nomatch h
  | y :: l, k, h => by
    rw [List.map_cons]
    unfold fstAt
    rw [show D.eqv (.int y) (.int x) = (y == x) by unfold D.eqv; rfl, List.idxOf_cons]
    by_cases e : y = x
    · subst e; simp
    · have e2 : (y == x) = false := by simpa using e
      have hx : x ∈ l := by
        rcases List.mem_cons.mp h with rfl | h
        · exact absurd rfl e
        · exact h
      rw [e2]
      simp only [Bool.false_eq_true, if_false, cond_false]
      rw [fstAt_ints x l (k + 1) hx]
      congr 1
      omega
theorem mem_dedI {x : Int} : ∀ {l : List Int}, x ∈ dedI l ↔ x ∈ l
  | [] => by unfold dedI; rfl
  | y :: l => by
    unfold dedI
    split
    · rename_i h
      rw [mem_dedI, List.mem_cons]
      constructor
      · exact .inr
      · rintro (rfl | h2)
        · simpa using h
        · exact h2
    · rw [List.mem_cons, List.mem_cons, mem_dedI]
theorem nodup_dedI : ∀ l : List Int, (dedI l).Nodup
  | [] => by unfold dedI; exact List.nodup_nil
  | y :: l => by
    unfold dedI
    split
    · exact nodup_dedI l
    · rename_i h
      rw [List.nodup_cons]
      exact ⟨fun z => h (by simpa using mem_dedI.mp z), nodup_dedI l⟩
theorem mem_sortI {x : Int} {l : List Int} : x ∈ sortI l ↔ x ∈ l := (List.mergeSort_perm l _).mem_iff
theorem mem_sizes {rows : List (List Nat)} {r : List Nat} (h : r ∈ rows) (h0 : 0 < r.length) : (r.length : Int) ∈ sizesOf rows := by
  unfold sizesOf
  rw [mem_sortI, mem_dedI]
  exact List.mem_map_of_mem (f := fun r : List Nat => (r.length : Int)) (List.mem_filter.mpr ⟨h, by simpa using h0⟩)
theorem dedI_len : ∀ l : List Int, (dedI l).length ≤ l.length
  | [] => by unfold dedI; exact Nat.le_refl _
  | y :: l => by
    have := dedI_len l
    unfold dedI
    split <;> (simp only [List.length_cons]; omega)
theorem sizes_len (rows : List (List Nat)) : (sizesOf rows).length ≤ rows.length := by
  unfold sizesOf sortI
  rw [(List.mergeSort_perm _ _).length_eq]
  refine Nat.le_trans (dedI_len _) ?_
  rw [List.length_map]
  exact List.length_filter_le _ _
theorem rank_le {rows : List (List Nat)} {r : List Nat} (h : r ∈ rows) : rankOf rows r ≤ rows.length := by
  unfold rankOf
  split
  · rename_i h0
    have := List.idxOf_lt_length_of_mem (mem_sizes h h0)
    have := sizes_len rows
    omega
  · omega
theorem idx_lt : ∀ {l : List Int} {a b : Int}, l.Pairwise (· < ·) → a ∈ l → b ∈ l → a < b → l.idxOf a < l.idxOf b
  | [], _, _, _, h, _, _ => nomatch h
  | x :: l, a, b, h, ha, hb, hab => by
    rw [List.pairwise_cons] at h
    rw [List.idxOf_cons, List.idxOf_cons]
    have hbx : b ≠ x := by
      rintro rfl
      rcases List.mem_cons.mp ha with rfl | ha
      · omega
      · have := h.1 a ha; omega
    have hb2 : b ∈ l := by
      rcases List.mem_cons.mp hb with rfl | hb
      · exact absurd rfl hbx
      · exact hb
    have e1 : (x == b) = false := by simpa using fun z => hbx z.symm
    rw [e1]
    by_cases hax : x = a
    · subst hax; simp
    · have e2 : (x == a) = false := by simpa using hax
      have ha2 : a ∈ l := by
        rcases List.mem_cons.mp ha with rfl | ha
        · exact absurd rfl hax
        · exact ha
      rw [e2]
      have := idx_lt h.2 ha2 hb2 hab
      simp only [cond_false]
      omega
theorem sizes_asc (rows : List (List Nat)) : (sizesOf rows).Pairwise (· < ·) := by
  have h1 : (sizesOf rows).Nodup := by
    unfold sizesOf sortI
    exact (List.mergeSort_perm _ _).nodup_iff.mpr (nodup_dedI _)
  have h2 : (sizesOf rows).Pairwise fun a b => decide (a ≤ b) = true := by
    unfold sizesOf sortI
    refine List.pairwise_mergeSort (fun a b c h1 h2 => ?_) (fun a b => ?_) _
    · simp at h1 h2 ⊢; omega
    · simp; omega
  have := List.Pairwise.and h1 h2
  exact this.imp fun ⟨a, b⟩ => by simp at b; omega
theorem rank_lt {rows : List (List Nat)} {r s : List Nat} (hr : r ∈ rows) (hs : s ∈ rows) (h : r.length < s.length) : rankOf rows r < rankOf rows s := by
  unfold rankOf
  rw [if_pos (show 0 < s.length by omega)]
  split
  · rename_i h0
    have := idx_lt (sizes_asc rows) (mem_sizes hr h0) (mem_sizes hs (by omega)) (by omega)
    omega
  · omega
def fOf (rows : List (List Nat)) : List Nat := rows.map (rankOf rows)
/-- the ranks of the rows without b -/
def lackOf (rows : List (List Nat)) (b : Nat) : List Nat := ((List.range rows.length).filter fun a => !decide (b ∈ rows.getD a [])).map fun a => (fOf rows).getD a 0
def maxN (l : List Nat) : Nat := l.foldl max 0
def gOf (rows : List (List Nat)) (w : Nat) : List Nat := (List.range w).map fun b => maxN (lackOf rows b)
theorem run_is_integerG (n : Nat) (v : D) (hv : vis v = true) (Q : R → En → Prop) (h : ∀ G, Q (.d (.bl (isIntD v))) G) : ∃ r G, Rf.run cx prg (n + 1) "is_integer" [.fr v] = some (r, G) ∧ Q r G := by
  refine run_of lk_is_integer rfl ?_
  unfold d_is_integer; get_elem_tactic_extensible
  refine ⟨_, isi_int _ hv, ?_⟩
  rw [isIntD_eq] at h
  array_mem_dec
  · refine ⟨_, isi_bool _ hv, ?_⟩
    array_mem_dec
    simp_all
  · simp_all
theorem run_law_is_wholeG (n : Nat) (v : D) (hv : vis v = true) (Q : R → En → Prop) (h : ∀ G, Q (.d (.bl (isIntD v))) G) : ∃ r G, Rf.run cx prg (n + 1) "_law_is_whole" [.fr v] = some (r, G) ∧ Q r G := by
  refine run_of lk__law_is_whole rfl ?_
  unfold d__law_is_whole; get_elem_tactic_extensible
  refine ⟨_, isi_int _ hv, ?_⟩
  rw [isIntD_eq] at h
  array_mem_dec
  · refine ⟨_, isi_bool _ hv, ?_⟩
    array_mem_dec
    simp_all
  · simp_all
theorem isIntD_of {v : D} (h : isIntD v = true) : ∃ i, v = .int i := by
  cases v <;> first | exact ⟨_, rfl⟩ | cases h
theorem isRatD_pair {a b : D} : isRatD (.tup [a, b]) = (isIntD a && isIntD b && decide (1 < topD b) && decide ((Int.gcd (topD a) (topD b) : Int) = 1)) := by
  cases a <;> first | rfl | (cases b <;> rfl)
theorem isRatD_len {ds : List D} (h : ds.length ≠ 2) : isRatD (.tup ds) = false := by
  unfold isRatD
  split
  · rename_i e; cases e
  · rename_i e; cases e; exact absurd rfl h
  · rfl
theorem len_ne2 {ds : List D} : cmpD .ne (.int (ds.length : Int)) (.int 2) = some (decide (ds.length ≠ 2)) := by
  show some (!((ds.length : Int) == 2)) = _
  congr 1
  rw [Bool.eq_iff_iff]
  simp
  omega
theorem run_is_ratioG (n k : Nat) (B : Int) (v : D) (hv : plB B k v = true) (Q : R → En → Prop) (h : ∀ G, Q (.d (.bl (isRatD v))) G) : ∃ r G, Rf.run cx prg (n + 2) "is_ratio" [.fr v] = some (r, G) ∧ Q r G := by
  have vv := plB_vis hv
  refine run_of lk_is_ratio rfl ?_
  unfold d_is_ratio; get_elem_tactic_extensible
  refine ⟨_, isi_tup _ vv, ?_⟩
  cases hvt : isTup v with
  | false =>
    array_mem_dec
    refine run_is_integerG _ v vv _ fun G => ?_
    have : isRatD v = isIntD v := by cases v <;> first | rfl | cases hvt
    rw [this] at h
    apply h
  | true =>
    cases v with
    | tup ds =>
      obtain ⟨m, _, hl, hm⟩ := of_plB_tup hv
      by_cases h2 : ds.length = 2
      · match ds, h2 with
        | [a, b], _ =>
        have va := plB_vis (hm a (by simp))
        have vb := plB_vis (hm b (by simp))
        rw [isRatD_pair] at h
        array_mem_dec
        refine run_is_integerG _ a va _ fun G => ?_
        cases ha : isIntD a with
        | false =>
          rw [ha] at h
          array_mem_dec
          exact h _
        | true =>
          array_mem_dec
          refine run_is_integerG _ b vb _ fun G => ?_
          cases hb : isIntD b with
          | false =>
            rw [ha, hb] at h
            array_mem_dec
            exact h _
          | true =>
            obtain ⟨i, rfl⟩ := isIntD_of ha
            obtain ⟨j, rfl⟩ := isIntD_of hb
            array_mem_dec
            · rename_i hj
              rw [show (isIntD (.int i) && isIntD (.int j) && decide (1 < topD (.int j)) && decide ((Int.gcd (topD (.int i)) (topD (.int j)) : Int) = 1)) = ((Int.gcd i j : Int) == 1) by
                show (true && true && decide (1 < j) && decide ((Int.gcd i j : Int) = 1)) = _
                rw [decide_eq_true hj, Bool.eq_iff_iff]; simp] at h
              apply h
            · rename_i hj
              rw [show (isIntD (.int i) && isIntD (.int j) && decide (1 < topD (.int j)) && decide ((Int.gcd (topD (.int i)) (topD (.int j)) : Int) = 1)) = false by
                show (true && true && decide (1 < j) && decide ((Int.gcd i j : Int) = 1)) = _
                rw [decide_eq_false hj]; rfl] at h
              exact h _
      · rw [isRatD_len h2] at h
        array_mem_dec
        · rename_i e; have e : (ds.length : Int) = 2 := e; omega
        · apply h
    | _ => cases hvt
theorem eu_step {a b : Nat} (hb : 0 < b) (hab : b ≤ a) : 2 * (b * (a % b)) ≤ a * b := by
  have h1 : 2 * (a % b) ≤ a := by
    have := Nat.mod_lt a hb
    have h2 := Nat.div_add_mod a b
    have h3 : 1 ≤ a / b := (Nat.one_le_div_iff hb).mpr hab
    have h4 : b * 1 ≤ b * (a / b) := Nat.mul_le_mul_left b h3
    omega
  calc 2 * (b * (a % b)) = b * (2 * (a % b)) := by rw [Nat.mul_left_comm]
    _ ≤ b * a := Nat.mul_le_mul_left b h1
    _ = a * b := Nat.mul_comm b a
theorem run_law_divisor (n : Nat) (x y : Int) (hx : x.natAbs * y.natAbs < 2 ^ 8000) (Q : R → En → Prop) (h : ∀ G, Q (.d (.int (Int.gcd x y : Nat))) G) : ∃ r G, Rf.run cx prg (n + 1) "_law_divisor" [.fr (.int x), .fr (.int y)] = some (r, G) ∧ Q r G := by
  have ab : ∀ i : Int, (if i < 0 then -i else i) = (i.natAbs : Int) := fun i => by split <;> omega
  refine run_of lk__law_divisor rfl ?_
  unfold d__law_divisor; get_elem_tactic_extensible
  rw [ab, ab]
  refine W1_while (fun m Γ => ∃ a b : Nat, Γ = [some (.fr (.int (a : Int))), some (.fr (.int (b : Int)))] ∧ Nat.gcd a b = Int.gcd x y ∧ a * b < 2 ^ m ∧ (b ≤ a ∨ (1 ≤ m ∧ a * b * 2 < 2 ^ m))) 8001 (by decide +kernel) ⟨x.natAbs, y.natAbs, rfl, rfl, ?_, ?_⟩ ?_
  · exact Nat.lt_trans hx (Nat.pow_lt_pow_right (by decide) (by decide))
  · right
    refine ⟨by decide, ?_⟩
    rw [Nat.pow_succ 2 8000]
    exact Nat.mul_lt_mul_of_pos_right hx (by decide)
  · rintro m Γ ⟨a, b, rfl, hg, hm, ho⟩
    get_elem_tactic_extensible
    · rename_i hb
      have hb0 : b = 0 := by simpa [D.eqv] using hb
      subst hb0
      rw [Nat.gcd_zero_right] at hg
      rw [← hg] at h
      get_elem_tactic_extensible
      apply h
    · rename_i hb
      have hb0 : b ≠ 0 := by rintro rfl; simp [D.eqv] at hb
      have hm1 : 1 ≤ m := by
        rcases ho with ho | ho
        · have : 1 * 1 ≤ a * b := Nat.mul_le_mul (by omega) (by omega)
          cases m with
          | zero => simp at hm; omega
          | succ m => omega
        · exact ho.1
      obtain ⟨m, rfl⟩ : ∃ k, m = k + 1 := ⟨m - 1, by omega⟩
      rw [Nat.pow_succ] at hm ho
      refine bin_modN hb0 ?_
      get_elem_tactic_extensible
      refine ⟨m, by omega, b, a % b, rfl, ?_, ?_, ?_⟩
      · rw [← hg, Nat.gcd_comm a b, Nat.gcd_rec b a, Nat.gcd_comm]
      · rcases ho with ho | ho
        · have := eu_step (Nat.pos_of_ne_zero hb0) ho
          omega
        · by_cases hab : b ≤ a
          · have := eu_step (Nat.pos_of_ne_zero hb0) hab
            omega
          · rw [Nat.mod_eq_of_lt (by omega), Nat.mul_comm b a]
            omega
      · left
        exact Nat.le_of_lt (Nat.mod_lt a (Nat.pos_of_ne_zero hb0))
theorem run_law_is_ratioG (n k p : Nat) (hp : p ≤ 1000) (v : D) (hv : plB (big p) k v = true) (Q : R → En → Prop) (h : ∀ G, Q (.d (.bl (isRatD v))) G) : ∃ r G, Rf.run cx prg (n + 2) "_law_is_ratio" [.fr v] = some (r, G) ∧ Q r G := by
  have vv := plB_vis hv
  refine run_of lk__law_is_ratio rfl ?_
  unfold d__law_is_ratio; get_elem_tactic_extensible
  refine ⟨_, isi_tup _ vv, ?_⟩
  cases hvt : isTup v with
  | false =>
    array_mem_dec
    refine run_law_is_wholeG _ v vv _ fun G => ?_
    have : isRatD v = isIntD v := by cases v <;> first | rfl | cases hvt
    rw [this] at h
    apply h
  | true =>
    cases v with
    | tup ds =>
      obtain ⟨m, _, hl, hm⟩ := of_plB_tup hv
      by_cases h2 : ds.length = 2
      · match ds, h2 with
        | [a, b], _ =>
        have va := plB_vis (hm a (by simp))
        have vb := plB_vis (hm b (by simp))
        rw [isRatD_pair] at h
        array_mem_dec
        refine run_law_is_wholeG _ a va _ fun G => ?_
        cases ha : isIntD a with
        | false =>
          rw [ha] at h
          array_mem_dec
          exact h _
        | true =>
          array_mem_dec
          refine run_law_is_wholeG _ b vb _ fun G => ?_
          cases hb : isIntD b with
          | false =>
            rw [ha, hb] at h
            array_mem_dec
            exact h _
          | true =>
            obtain ⟨i, rfl⟩ := isIntD_of ha
            obtain ⟨j, rfl⟩ := isIntD_of hb
            have hi := of_plB_int (hm _ (show D.int i ∈ _ by simp))
            have hj2 := of_plB_int (hm _ (show D.int j ∈ [D.int i, D.int j] by simp))
            array_mem_dec
            · rename_i hj
              refine run_law_divisor _ i j (mul_small hp hi hj2) _ fun G => ?_
              rw [show (isIntD (.int i) && isIntD (.int j) && decide (1 < topD (.int j)) && decide ((Int.gcd (topD (.int i)) (topD (.int j)) : Int) = 1)) = ((Int.gcd i j : Int) == 1) by
                show (true && true && decide (1 < j) && decide ((Int.gcd i j : Int) = 1)) = _
                rw [decide_eq_true hj, Bool.eq_iff_iff]; simp] at h
              array_mem_dec
              apply h
            · rename_i hj
              rw [show (isIntD (.int i) && isIntD (.int j) && decide (1 < topD (.int j)) && decide ((Int.gcd (topD (.int i)) (topD (.int j)) : Int) = 1)) = false by
                show (true && true && decide (1 < j) && decide ((Int.gcd i j : Int) = 1)) = _
                rw [decide_eq_false hj]; rfl] at h
              exact h _
      · rw [isRatD_len h2] at h
        array_mem_dec
        · rename_i e; have e : (ds.length : Int) = 2 := e; omega
        · apply h
    | _ => cases hvt
theorem run_pairG (n : Nat) (v : D) (hv : isRatD v = true) (Q : R → En → Prop) (h : ∀ G, Q (.d (.tup [.int (topD v), .int (botD v)])) G) : ∃ r G, Rf.run cx prg (n + 1) "pair" [.fr v] = some (r, G) ∧ Q r G := by
  refine run_of lk_pair rfl ?_
  unfold d_pair
  rcases rat_cases hv with ⟨i, rfl⟩ | ⟨a, b, rfl, _, _⟩
  · get_elem_tactic_extensible
    apply h
  · get_elem_tactic_extensible
    apply h
theorem run_law_pairG (n : Nat) (v : D) (hv : (∃ i, v = .int i) ∨ ∃ a b, v = .tup [.int a, .int b]) (Q : R → En → Prop) (h : ∀ G, Q (.d (.tup [.int (topD v), .int (botD v)])) G) : ∃ r G, Rf.run cx prg (n + 1) "_law_pair" [.fr v] = some (r, G) ∧ Q r G := by
  refine run_of lk__law_pair rfl ?_
  unfold d__law_pair
  rcases hv with ⟨i, rfl⟩ | ⟨a, b, rfl⟩
  · get_elem_tactic_extensible
    apply h
  · get_elem_tactic_extensible
    apply h
theorem rat_shape {v : D} (hv : isRatD v = true) : (∃ i, v = .int i) ∨ ∃ a b, v = .tup [.int a, .int b] := by
  rcases rat_cases hv with ⟨i, rfl⟩ | ⟨a, b, rfl, _, _⟩
  · exact .inl ⟨i, rfl⟩
  · exact .inr ⟨a, b, rfl⟩
theorem num_shape {B : Int} {v : D} (hv : numB B v = true) : (∃ i, v = .int i) ∨ ∃ a b, v = .tup [.int a, .int b] := by
  rcases num_cases hv with ⟨i, rfl, _⟩ | ⟨a, b, rfl, _⟩
  · exact .inl ⟨i, rfl⟩
  · exact .inr ⟨a, b, rfl⟩
theorem rat_small {p k : Nat} {v : D} (hp : p ≤ 1000) (hv : isRatD v = true) (hb : plB (big p) k v = true) : small (topD v) = true ∧ small (botD v) = true := by
  rcases rat_cases hv with ⟨i, rfl⟩ | ⟨a, b, rfl, _, _⟩
  · have := of_plB_int hb
    exact ⟨small_big hp this.1 this.2, by show small 1 = true; decide +kernel⟩
  · obtain ⟨m, _, _, hm⟩ := of_plB_tup hb
    have h1 := of_plB_int (hm _ (show D.int a ∈ [D.int a, D.int b] by simp))
    have h2 := of_plB_int (hm _ (show D.int b ∈ [D.int a, D.int b] by simp))
    exact ⟨small_big hp h1.1 h1.2, small_big hp h2.1 h2.2⟩
theorem run_is_belowG (n : Nat) (x y : D) (hx : isRatD x = true) (hy : isRatD y = true) (sx : small (topD x) = true ∧ small (botD x) = true) (sy : small (topD y) = true ∧ small (botD y) = true) (Q : R → En → Prop) (h : ∀ G, Q (.d (.bl (lessD x y))) G) : ∃ r G, Rf.run cx prg (n + 2) "is_below" [.fr x, .fr y] = some (r, G) ∧ Q r G := by
  refine run_of lk_is_below rfl ?_
  unfold d_is_below; get_elem_tactic_extensible
  refine run_pairG n x hx _ fun G => ?_
  array_mem_dec
  refine run_pairG n y hy _ fun G => ?_
  array_mem_dec
  refine bin_mul sx.1 sy.2 ?_
  array_mem_dec
  refine bin_mul sy.1 sx.2 ?_
  array_mem_dec
  apply h
theorem run_law_lessG (n : Nat) (x y : D) (hx : (∃ i, x = .int i) ∨ ∃ a b, x = .tup [.int a, .int b]) (hy : (∃ i, y = .int i) ∨ ∃ a b, y = .tup [.int a, .int b]) (sx : small (topD x) = true ∧ small (botD x) = true) (sy : small (topD y) = true ∧ small (botD y) = true) (Q : R → En → Prop) (h : ∀ G, Q (.d (.bl (lessD x y))) G) : ∃ r G, Rf.run cx prg (n + 2) "_law_less" [.fr x, .fr y] = some (r, G) ∧ Q r G := by
  refine run_of lk__law_less rfl ?_
  unfold d__law_less; get_elem_tactic_extensible
  refine run_law_pairG n x hx _ fun G => ?_
  array_mem_dec
  refine run_law_pairG n y hy _ fun G => ?_
  array_mem_dec
  refine bin_mul sx.1 sy.2 ?_
  array_mem_dec
  refine bin_mul sy.1 sx.2 ?_
  array_mem_dec
  apply h
/-- a tuple of m ratios -/
def rowD (m : Nat) : D → Bool
  | .tup ds => decide (ds.length = m) && ds.all isRatD
  | _ => false
theorem seq_of {v : D} {k : Nat} {B : Int} (hv : plB B k v = true) (hs : isSeq v = true) : ∃ m ds, k = m + 1 ∧ v.seq? = some ds ∧ ds.length ≤ 1000 ∧ (∀ d ∈ ds, plB B m d = true) ∧ bltD .len [v] = some (.d (.int ds.length)) := by
  cases v with
  | tup ds => obtain ⟨m, e, hl, hm⟩ := of_plB_tup hv; exact ⟨m, ds, e, rfl, hl, hm, rfl⟩
  | lst ds => obtain ⟨m, e, hl, hm⟩ := of_plB_lst hv; exact ⟨m, ds, e, rfl, hl, hm, rfl⟩
  | _ => cases hs
theorem len_eq {a b : Nat} : cmpD .eq (.int (a : Int)) (.int (b : Int)) = some (decide (a = b)) := by
  show some ((a : Int) == b) = _
  congr 1
  rw [Bool.eq_iff_iff]
  simp
  omega
theorem len_ne {a b : Nat} : cmpD .ne (.int (a : Int)) (.int (b : Int)) = some (!decide (a = b)) := by
  show some (!((a : Int) == b)) = _
  congr 1
  rw [Bool.eq_iff_iff]
  simp
  omega
def heightsG (F G : D) : M := .ins "Heights" ["f", "g"] [F, G]
/-- what the judge says -/
def hh (rows : List (List Nat)) (w : Nat) (F G : D) : Bool := match F, G with
  | .tup fs, .tup gs => rowD rows.length F && rowD w G && (List.range rows.length).all fun a => (List.range w).all fun b => lessD (gs.getD b .non) (fs.getD a .non) == decide (b ∈ rows.getD a [])
  | _, _ => false
theorem rowD_tup {m : Nat} {v : D} (h : rowD m v = true) : ∃ ds, v = .tup ds ∧ ds.length = m ∧ ∀ d ∈ ds, isRatD d = true := by
  cases v with
  | tup ds =>
    have h : (decide (ds.length = m) && ds.all isRatD) = true := h
    rw [Bool.and_eq_true, List.all_eq_true] at h
    exact ⟨ds, rfl, of_decide_eq_true h.1, h.2⟩
  | _ => cases h
theorem hh_false {rows : List (List Nat)} {w : Nat} {F G : D} (h : rowD rows.length F = false ∨ rowD w G = false) : hh rows w F G = false := by
  unfold hh
  split
  · rcases h with h | h <;> rw [h] <;> simp
  · rfl
theorem ix_getD {ds : List D} {k : Nat} {i : Int} (hi : i = (k : Int)) (h : k < ds.length) : ixD (.tup ds) (.int i) = some (ds.getD k .non) := by
  have := atI_map (f := id) (l := ds) .non hi h
  rw [List.map_id] at this
  exact this
theorem getD_memD {ds : List D} {k : Nat} (h : k < ds.length) : ds.getD k .non ∈ ds := by
  rw [List.getD_eq_getElem?_getD, List.getElem?_eq_getElem h]
  exact List.getElem_mem _
/-- what the law says of two rows -/
def hr (rows : List (List Nat)) (w : Nat) (F G : D) : Bool := match F, G with
  | .tup fs, .tup gs => rowD rows.length F && rowD w G && decide (rows = fs.map fun x => (List.range w).filter fun b => lessD (gs.getD b .non) x)
  | _, _ => false
theorem hr_false {rows : List (List Nat)} {w : Nat} {F G : D} (h : rowD rows.length F = false ∨ rowD w G = false) : hr rows w F G = false := by
  unfold hr
  split
  · rcases h with h | h <;> rw [h] <;> simp
  · rfl
theorem fdiv_abs {t b : Int} (hb : 0 < b) : (t.fdiv b).natAbs ≤ t.natAbs := by
  rw [Int.fdiv_eq_ediv_of_nonneg _ (by omega)]
  exact Int.natAbs_ediv_le_natAbs t b
theorem run_law_low (n p : Nat) (hp : p ≤ 1000) (t b : Int) (h1 : -big p < t) (h2 : t < big p) (hb : 0 < b) (hb2 : b < big p) (Q : R → En → Prop) (h : ∀ v G, isRatD v = true → numB (big p) v = true → Q (.d v) G) : ∃ r G, Rf.run cx prg (n + 2) "_law_low" [.fr (.int t), .fr (.int b)] = some (r, G) ∧ Q r G := by
  refine run_of lk__law_low rfl ?_
  unfold d__law_low; get_elem_tactic_extensible
  refine run_law_divisor _ t b (mul_small hp ⟨h1, h2⟩ ⟨by omega, hb2⟩) _ fun G => ?_
  have hg : 0 < Int.gcd t b := Int.gcd_pos_of_ne_zero_right _ (by omega)
  have hgb : (Int.gcd t b : Int) ∣ b := Int.gcd_dvd_right ..
  have hgt : (Int.gcd t b : Int) ∣ t := Int.gcd_dvd_left ..
  have hgl : (Int.gcd t b : Int) ≤ b := Int.le_of_dvd hb hgb
  have sg : small (Int.gcd t b : Int) = true := small_big hp (by have := big_pos p; omega) (by omega)
  have ft : -big p < t.fdiv (Int.gcd t b) ∧ t.fdiv (Int.gcd t b) < big p := by
    have := fdiv_abs (t := t) (b := (Int.gcd t b : Int)) (by omega)
    omega
  get_elem_tactic_extensible
  any_goals (exfalso; omega)
  · refine bin_fdiv (by omega) sg ?_
    array_mem_dec
    exact h _ _ rfl (num_int ft.1 ft.2)
  · rename_i z0 z
    have z : b ≠ (Int.gcd t b : Int) := z
    refine bin_fdiv (by omega) sg ?_
    array_mem_dec
    refine bin_fdiv (by omega) sg ?_
    array_mem_dec
    have hg0 : (0 : Int) < (Int.gcd t b : Int) := by omega
    have e1 : b.fdiv (Int.gcd t b) = b / (Int.gcd t b : Int) := Int.fdiv_eq_ediv_of_nonneg _ (by omega)
    have e2 : t.fdiv (Int.gcd t b) = t / (Int.gcd t b : Int) := Int.fdiv_eq_ediv_of_nonneg _ (by omega)
    have hc : (Int.gcd t b : Int) * (b / (Int.gcd t b : Int)) = b := Int.mul_ediv_cancel' hgb
    have fb : b.fdiv (Int.gcd t b) ≤ b ∧ 0 < b.fdiv (Int.gcd t b) := by
      have := fdiv_abs (t := b) (b := (Int.gcd t b : Int)) hg0
      have h3 : 0 < b / (Int.gcd t b : Int) := Int.ediv_pos_of_pos_of_dvd hb (by omega) hgb
      omega
    have hb1 : 1 < b.fdiv (Int.gcd t b) := by
      have : b / (Int.gcd t b : Int) ≠ 1 := fun q => by rw [q, Int.mul_one] at hc; omega
      omega
    have hgg : (Int.gcd (t / (Int.gcd t b : Int)) (b / (Int.gcd t b : Int)) : Int) = 1 := by
      have := Int.gcd_ediv_gcd_ediv_gcd (i := t) (j := b) hg
      omega
    refine h _ _ ?_ (num_rat ft.1 ft.2 fb.2 (by omega))
    show (decide (1 < b.fdiv (Int.gcd t b)) && decide ((Int.gcd (t.fdiv (Int.gcd t b)) (b.fdiv (Int.gcd t b)) : Int) = 1)) = true
    rw [e1, e2, hgg, decide_eq_true (by omega)]
    rfl
theorem num_parts {p : Nat} {v : D} (h : numB (big p) v = true) : (-big p < topD v ∧ topD v < big p) ∧ 0 < botD v ∧ (botD v < big p ∨ botD v = 1) := by
  rcases num_cases h with ⟨i, rfl, h1, h2⟩ | ⟨a, b, rfl, h1, h2, h3, h4⟩
  · exact ⟨⟨h1, h2⟩, Int.one_pos, .inr rfl⟩
  · exact ⟨⟨h1, h2⟩, h3, .inl h4⟩
theorem bot_lt {p : Nat} (hp : 1 ≤ p) {v : D} (h : numB (big p) v = true) : botD v < big p := by
  rcases (num_parts h).2.2 with h | h
  · exact h
  · rw [h]
    have := big_le hp
    rw [big_def 1] at this
    omega
theorem num_smalls {p : Nat} (hp : p ≤ 1000) (h1 : 1 ≤ p) {v : D} (h : numB (big p) v = true) : small (topD v) = true ∧ small (botD v) = true := by
  have h2 := num_parts h
  have h3 := bot_lt h1 h
  have := big_pos p
  exact ⟨small_big hp h2.1.1 h2.1.2, small_big hp (by omega) h3⟩
theorem big_succ (n : Nat) : big (n + 1) = big n * 10 := by
  rw [← big_mul n 1, big_def 1]
  congr 1
theorem run_law_plus (n p q : Nat) (hp : 1 ≤ p) (hq : 1 ≤ q) (hpq : p + q + 1 ≤ 1000) (x y : D) (hx : numB (big p) x = true) (hy : numB (big q) y = true) (Q : R → En → Prop) (h : ∀ v G, isRatD v = true → numB (big (p + q + 1)) v = true → Q (.d v) G) : ∃ r G, Rf.run cx prg (n + 3) "_law_plus" [.fr x, .fr y] = some (r, G) ∧ Q r G := by
  have nx := num_parts hx
  have ny := num_parts hy
  have bx := bot_lt hp hx
  have b_y := bot_lt hq hy
  have sx := num_smalls (by omega) hp hx
  have sy := num_smalls (by omega) hq hy
  have m1 := mul_lt_big nx.1.1 nx.1.2 (show -big q < botD y by have := ny.2.1; have := big_pos q; omega) b_y
  have m2 := mul_lt_big (show -big q < topD y from ny.1.1) ny.1.2 (show -big p < botD x by have := nx.2.1; have := big_pos p; omega) bx
  have m3 := mul_lt_big (show -big p < botD x by have := nx.2.1; have := big_pos p; omega) bx (show -big q < botD y by have := ny.2.1; have := big_pos q; omega) b_y
  rw [Nat.add_comm q p] at m2
  have bs := big_succ (p + q)
  have b0 := big_pos (p + q)
  refine run_of lk__law_plus rfl ?_
  unfold d__law_plus; get_elem_tactic_extensible
  refine run_law_pairG _ x (num_shape hx) _ fun G => ?_
  array_mem_dec
  refine run_law_pairG _ y (num_shape hy) _ fun G => ?_
  get_elem_tactic_extensible
  refine bin_mul sx.1 sy.2 ?_
  array_mem_dec
  refine bin_mul sy.1 sx.2 ?_
  array_mem_dec
  refine bin_mul sx.2 sy.2 ?_
  array_mem_dec
  refine run_law_low n (p + q + 1) hpq _ _ (by omega) (by omega) (Int.mul_pos nx.2.1 ny.2.1) (by omega) _ fun v G h1 h2 => ?_
  exact h v _ h1 h2
theorem run_law_times (n p q : Nat) (hp : 1 ≤ p) (hq : 1 ≤ q) (hpq : p + q + 1 ≤ 1000) (x y : D) (hx : numB (big p) x = true) (hy : numB (big q) y = true) (Q : R → En → Prop) (h : ∀ v G, isRatD v = true → numB (big (p + q + 1)) v = true → Q (.d v) G) : ∃ r G, Rf.run cx prg (n + 3) "_law_times" [.fr x, .fr y] = some (r, G) ∧ Q r G := by
  have nx := num_parts hx
  have ny := num_parts hy
  have bx := bot_lt hp hx
  have b_y := bot_lt hq hy
  have sx := num_smalls (by omega) hp hx
  have sy := num_smalls (by omega) hq hy
  have m1 := mul_lt_big nx.1.1 nx.1.2 ny.1.1 ny.1.2
  have m3 := mul_lt_big (show -big p < botD x by have := nx.2.1; have := big_pos p; omega) bx (show -big q < botD y by have := ny.2.1; have := big_pos q; omega) b_y
  have bs := big_succ (p + q)
  have b0 := big_pos (p + q)
  refine run_of lk__law_times rfl ?_
  unfold d__law_times; get_elem_tactic_extensible
  refine run_law_pairG _ x (num_shape hx) _ fun G => ?_
  array_mem_dec
  refine run_law_pairG _ y (num_shape hy) _ fun G => ?_
  get_elem_tactic_extensible
  refine bin_mul sx.1 sy.1 ?_
  array_mem_dec
  refine bin_mul sx.2 sy.2 ?_
  array_mem_dec
  refine run_law_low n (p + q + 1) hpq _ _ (by omega) (by omega) (Int.mul_pos nx.2.1 ny.2.1) (by omega) _ fun v G h1 h2 => ?_
  exact h v _ h1 h2
theorem wp_pick {n k : Nat} {p : Pen} {ds : List D} (h : PenOk k p) (hk : k < 100000000) (h0 : 0 < ds.length) (h1 : ds.length ≤ 1000) {Q : R → M → Prop}
    (q : ∀ d ∈ ds, ∀ (p' : Pen), PenOk (k + 1) p' → Q (.d d) p'.toM) (v : D) (hv : v = .lst ds ∨ v = .tup ds) : ∃ r m' G, Rf.run cx prg (n + 2) "_law_pick" [.bo p.toM, .fr v] = some (r, some (.bo m') :: G) ∧ Q r m' := by
  have key : ∃ r G, Rf.run cx prg (n + 2) "_law_pick" [.bo p.toM, .fr v] = some (r, G) ∧ ∃ m' G', G = some (.bo m') :: G' ∧ Q r m' := by
    refine run_of lk__law_pick rfl ?_
    have hl : bltD .len [v] = some (.d (.int ds.length)) := by rcases hv with rfl | rfl <;> rfl
    have hi : ∀ j < ds.length, ixD v (.int (j : Int)) = some (ds.getD j .non) := fun j hj => by
      have := atI_map (f := id) (l := ds) .non (i := (j : Int)) rfl hj
      rw [List.map_id] at this
      rcases hv with rfl | rfl <;> exact this
    unfold d__law_pick; get_elem_tactic_extensible
    refine ⟨_, hl, ?_⟩
    array_mem_dec
    refine wp_draw (many := ds.length) lk__law_draw h (by omega) h0 (by omega) fun j p' hj hp' => ?_
    get_elem_tactic_extensible
    refine ⟨_, hi j hj, ?_⟩
    exact ⟨_, _, rfl, q _ (getD_memD hj) p' hp'⟩
  obtain ⟨r, G, e, m', G', rfl, q⟩ := key
  exact ⟨r, m', G', e, q⟩
def odds : List D := [.non, .bl true, .bl false, .str "1", .str "", .tup [.int 1, .int 1], .tup [.int 2, .int 4], .tup [.int 1, .int 0], .tup [.int 1, .int (-2)], .lst [.int 1, .int 2], .tup [.int 1, .int 2, .int 3], .tup [.bl true, .int 2], .tup [], .tup [.int 0, .int 3], .dct [] []]
theorem big3 : (10 : Int) < big 3 := by rw [big_def]; decide
theorem odds_ok : ∀ d ∈ odds, plB (big 3) 1 d = true := by
  have h : odds.all (plB 10 1) = true := by decide +kernel
  intro d hd
  exact plB_up 1 1 d _ (List.all_eq_true.mp h d hd) (Nat.le_refl 1) (by have := big3; omega)
theorem wp_odd {n k : Nat} {p : Pen} (h : PenOk k p) (hk : k < 100000000) {Q : R → M → Prop}
    (q : ∀ d, plB (big 3) 1 d = true → ∀ (p' : Pen), PenOk (k + 1) p' → Q (.d d) p'.toM) : ∃ r m' G, Rf.run cx prg (n + 3) "_law_odd" [.bo p.toM] = some (r, some (.bo m') :: G) ∧ Q r m' := by
  have key : ∃ r G, Rf.run cx prg (n + 3) "_law_odd" [.bo p.toM] = some (r, G) ∧ ∃ m' G', G = some (.bo m') :: G' ∧ Q r m' := by
    refine run_of lk__law_odd rfl ?_
    unfold d__law_odd; get_elem_tactic_extensible
    refine wp_pick (ds := odds) h hk (by decide) (by decide) (fun d hd p' hp' => ?_) _ (.inl rfl)
    exact ⟨_, _, rfl, q d (odds_ok d hd) p' hp'⟩
  obtain ⟨r, G, e, m', G', rfl, q⟩ := key
  exact ⟨r, m', G', e, q⟩
theorem wp_number1 {n k : Nat} {p : Pen} (h : PenOk k p) (hk : k < 100000000) {Q : R → M → Prop}
    (q : ∀ v, isRatD v = true → numB (big 3) v = true → ∀ (p' : Pen), PenOk (k + 2) p' → Q (.d v) p'.toM) : ∃ r m' G, Rf.run cx prg (n + 3) "_law_number" [.bo p.toM, .fr (.int 1)] = some (r, some (.bo m') :: G) ∧ Q r m' := by
  have key : ∃ r G, Rf.run cx prg (n + 3) "_law_number" [.bo p.toM, .fr (.int 1)] = some (r, G) ∧ ∃ m' G', G = some (.bo m') :: G' ∧ Q r m' := by
    refine run_of lk__law_number rfl ?_
    unfold d__law_number; get_elem_tactic_extensible
    refine wp_draw (many := 19) lk__law_draw h (by omega) (by omega) (by omega) fun a p1 ha hp1 => ?_
    get_elem_tactic_extensible
    refine wp_draw (many := 6) lk__law_draw hp1 (by omega) (by omega) (by omega) fun b p2 hb hp2 => ?_
    get_elem_tactic_extensible
    have := big3
    refine run_law_low n 3 (by omega) _ _ (by omega) (by omega) (by omega) (by omega) _ fun v G h1 h2 => ?_
    exact ⟨_, _, rfl, q v h1 h2 p2 hp2⟩
  obtain ⟨r, G, e, m', G', rfl, q⟩ := key
  exact ⟨r, m', G', e, q⟩
def nudges : List D := [.int 1, .int (-1), .tup [.int 1, .int 1000000000], .tup [.int (-1), .int 1000000000]]
theorem nudges_ok : ∀ d ∈ nudges, numB (big 10) d = true := by
  intro d hd
  have h : (2000000000 : Int) < big 10 := by rw [big_def]; decide
  simp only [nudges, List.mem_cons, List.not_mem_nil, or_false] at hd
  rcases hd with rfl | rfl | rfl | rfl
  · exact num_int (by omega) (by omega)
  · exact num_int (by omega) (by omega)
  · exact num_rat (by omega) (by omega) (by omega) (by omega)
  · exact num_rat (by omega) (by omega) (by omega) (by omega)
def lowD (t b : Int) : D := if b = (Int.gcd t b : Int) then .int (t.fdiv (Int.gcd t b)) else .tup [.int (t.fdiv (Int.gcd t b)), .int (b.fdiv (Int.gcd t b))]
theorem lowD_ok {p : Nat} {t b : Int} (h1 : -big p < t) (h2 : t < big p) (hb : 0 < b) (hb2 : b < big p) : isRatD (lowD t b) = true ∧ numB (big p) (lowD t b) = true := by
  have hg : 0 < Int.gcd t b := Int.gcd_pos_of_ne_zero_right _ (by omega)
  have hgb : (Int.gcd t b : Int) ∣ b := Int.gcd_dvd_right ..
  have hgl : (Int.gcd t b : Int) ≤ b := Int.le_of_dvd hb hgb
  have ft : -big p < t.fdiv (Int.gcd t b) ∧ t.fdiv (Int.gcd t b) < big p := by
    have := fdiv_abs (t := t) (b := (Int.gcd t b : Int)) (by omega)
    omega
  unfold lowD
  split
  · exact ⟨rfl, num_int ft.1 ft.2⟩
  · rename_i z
    have hg0 : (0 : Int) < (Int.gcd t b : Int) := by omega
    have e1 : b.fdiv (Int.gcd t b) = b / (Int.gcd t b : Int) := Int.fdiv_eq_ediv_of_nonneg _ (by omega)
    have e2 : t.fdiv (Int.gcd t b) = t / (Int.gcd t b : Int) := Int.fdiv_eq_ediv_of_nonneg _ (by omega)
    have hc : (Int.gcd t b : Int) * (b / (Int.gcd t b : Int)) = b := Int.mul_ediv_cancel' hgb
    have fb : b.fdiv (Int.gcd t b) ≤ b ∧ 0 < b.fdiv (Int.gcd t b) := by
      have := fdiv_abs (t := b) (b := (Int.gcd t b : Int)) hg0
      have h3 : 0 < b / (Int.gcd t b : Int) := Int.ediv_pos_of_pos_of_dvd hb (by omega) hgb
      omega
    have hb1 : 1 < b.fdiv (Int.gcd t b) := by
      have : b / (Int.gcd t b : Int) ≠ 1 := fun q => by rw [q, Int.mul_one] at hc; omega
      omega
    have hgg : (Int.gcd (t / (Int.gcd t b : Int)) (b / (Int.gcd t b : Int)) : Int) = 1 := by
      have := Int.gcd_ediv_gcd_ediv_gcd (i := t) (j := b) hg
      omega
    refine ⟨?_, num_rat ft.1 ft.2 fb.2 (by omega)⟩
    show (decide (1 < b.fdiv (Int.gcd t b)) && decide ((Int.gcd (t.fdiv (Int.gcd t b)) (b.fdiv (Int.gcd t b)) : Int) = 1)) = true
    rw [e1, e2, hgg, decide_eq_true (by omega)]
    rfl
theorem run_law_lowE (n p : Nat) (hp : p ≤ 1000) (t b : Int) (h1 : -big p < t) (h2 : t < big p) (hb : 0 < b) (hb2 : b < big p) (Q : R → En → Prop) (h : ∀ G, Q (.d (lowD t b)) G) : ∃ r G, Rf.run cx prg (n + 2) "_law_low" [.fr (.int t), .fr (.int b)] = some (r, G) ∧ Q r G := by
  refine run_of lk__law_low rfl ?_
  unfold d__law_low; get_elem_tactic_extensible
  refine run_law_divisor _ t b (mul_small hp ⟨h1, h2⟩ ⟨by omega, hb2⟩) _ fun G => ?_
  have hg : 0 < Int.gcd t b := Int.gcd_pos_of_ne_zero_right _ (by omega)
  have hgl : (Int.gcd t b : Int) ≤ b := Int.le_of_dvd hb (Int.gcd_dvd_right ..)
  have sg : small (Int.gcd t b : Int) = true := small_big hp (by have := big_pos p; omega) (by omega)
  unfold lowD at h
  get_elem_tactic_extensible
  any_goals (exfalso; omega)
  · rename_i z0 z
    have z : b = (Int.gcd t b : Int) := z
    rw [if_pos z] at h
    refine bin_fdiv (by omega) sg ?_
    array_mem_dec
    exact h _
  · rename_i z0 z
    have z : b ≠ (Int.gcd t b : Int) := z
    rw [if_neg z] at h
    refine bin_fdiv (by omega) sg ?_
    array_mem_dec
    refine bin_fdiv (by omega) sg ?_
    array_mem_dec
    exact h _
theorem run_in_lowest (n p : Nat) (hp : p ≤ 1000) (t b : Int) (h1 : -big p < t) (h2 : t < big p) (hb : 0 < b) (hb2 : b < big p) (Q : R → En → Prop) (h : ∀ G, Q (.d (lowD t b)) G) : ∃ r G, Rf.run cx prg (n + 2) "in_lowest" [.fr (.int t), .fr (.int b)] = some (r, G) ∧ Q r G := by
  have hg : 0 < Int.gcd t b := Int.gcd_pos_of_ne_zero_right _ (by omega)
  have hgl : (Int.gcd t b : Int) ≤ b := Int.le_of_dvd hb (Int.gcd_dvd_right ..)
  have sg : small (Int.gcd t b : Int) = true := small_big hp (by have := big_pos p; omega) (by omega)
  unfold lowD at h
  refine run_of lk_in_lowest rfl ?_
  unfold d_in_lowest; get_elem_tactic_extensible
  any_goals (exfalso; omega)
  · rename_i z0 z
    have z : b = (Int.gcd t b : Int) := z
    rw [if_pos z] at h
    refine bin_fdiv (by omega) sg ?_
    array_mem_dec
    exact h _
  · rename_i z0 z
    have z : b ≠ (Int.gcd t b : Int) := z
    rw [if_neg z] at h
    refine bin_fdiv (by omega) sg ?_
    array_mem_dec
    refine bin_fdiv (by omega) sg ?_
    array_mem_dec
    exact h _
def plusD (x y : D) : D := lowD (topD x * botD y + topD y * botD x) (botD x * botD y)
theorem plus_parts {p q : Nat} (hp : 1 ≤ p) (hq : 1 ≤ q) {x y : D} (hx : numB (big p) x = true) (hy : numB (big q) y = true) :
    -big (p + q + 1) < topD x * botD y + topD y * botD x ∧ topD x * botD y + topD y * botD x < big (p + q + 1) ∧ 0 < botD x * botD y ∧ botD x * botD y < big (p + q + 1) := by
  have nx := num_parts hx
  have ny := num_parts hy
  have bx := bot_lt hp hx
  have b_y := bot_lt hq hy
  have m1 := mul_lt_big nx.1.1 nx.1.2 (show -big q < botD y by have := ny.2.1; have := big_pos q; omega) b_y
  have m2 := mul_lt_big (show -big q < topD y from ny.1.1) ny.1.2 (show -big p < botD x by have := nx.2.1; have := big_pos p; omega) bx
  have m3 := mul_lt_big (show -big p < botD x by have := nx.2.1; have := big_pos p; omega) bx (show -big q < botD y by have := ny.2.1; have := big_pos q; omega) b_y
  have e : big (q + p) = big (p + q) := by rw [Nat.add_comm]
  have hs := big_succ (p + q)
  have := big_pos (p + q)
  rw [e] at m2
  exact ⟨by omega, by omega, Int.mul_pos nx.2.1 ny.2.1, by omega⟩
theorem plusD_ok {p q : Nat} (hp : 1 ≤ p) (hq : 1 ≤ q) {x y : D} (hx : numB (big p) x = true) (hy : numB (big q) y = true) : isRatD (plusD x y) = true ∧ numB (big (p + q + 1)) (plusD x y) = true := by
  obtain ⟨h1, h2, h3, h4⟩ := plus_parts hp hq hx hy
  exact lowD_ok h1 h2 h3 h4
theorem run_law_plusE (n p q : Nat) (hp : 1 ≤ p) (hq : 1 ≤ q) (hpq : p + q + 1 ≤ 1000) (x y : D) (hx : numB (big p) x = true) (hy : numB (big q) y = true) (Q : R → En → Prop) (h : ∀ G, Q (.d (plusD x y)) G) : ∃ r G, Rf.run cx prg (n + 3) "_law_plus" [.fr x, .fr y] = some (r, G) ∧ Q r G := by
  have sx := num_smalls (by omega) hp hx
  have sy := num_smalls (by omega) hq hy
  obtain ⟨h1, h2, h3, h4⟩ := plus_parts hp hq hx hy
  refine run_of lk__law_plus rfl ?_
  unfold d__law_plus; get_elem_tactic_extensible
  refine run_law_pairG _ x (num_shape hx) _ fun G => ?_
  array_mem_dec
  refine run_law_pairG _ y (num_shape hy) _ fun G => ?_
  get_elem_tactic_extensible
  refine bin_mul sx.1 sy.2 ?_
  array_mem_dec
  refine bin_mul sy.1 sx.2 ?_
  array_mem_dec
  refine bin_mul sx.2 sy.2 ?_
  array_mem_dec
  exact run_law_lowE n (p + q + 1) hpq _ _ h1 h2 h3 h4 _ fun G => h _
theorem lowD_one (t : Int) : lowD t 1 = .int t := by
  have e : (Int.gcd t 1 : Int) = 1 := by rw [Int.gcd_one]; rfl
  unfold lowD
  rw [e, if_pos rfl, Int.fdiv_one]
theorem run_added (n p q : Nat) (hp : 1 ≤ p) (hq : 1 ≤ q) (hpq : p + q + 1 ≤ 1000) (x y : D) (hx : numB (big p) x = true) (hy : numB (big q) y = true) (rx : isRatD x = true) (ry : isRatD y = true) (Q : R → En → Prop) (h : ∀ G, Q (.d (plusD x y)) G) : ∃ r G, Rf.run cx prg (n + 3) "added" [.fr x, .fr y] = some (r, G) ∧ Q r G := by
  have sx := num_smalls (by omega) hp hx
  have sy := num_smalls (by omega) hq hy
  obtain ⟨h1, h2, h3, h4⟩ := plus_parts hp hq hx hy
  refine run_of lk_added rfl ?_
  rcases rat_shape rx with ⟨i, rfl⟩ | ⟨a, b, rfl⟩ <;> rcases rat_shape ry with ⟨j, rfl⟩ | ⟨c, d, rfl⟩
  · unfold d_added; get_elem_tactic_extensible
    have e : plusD (.int i) (.int j) = .int (i + j) := by
      show lowD (i * 1 + j * 1) (1 * 1) = _
      rw [Int.mul_one, Int.mul_one, Int.mul_one, lowD_one]
    rw [e] at h
    exact h _
  all_goals
    unfold d_added; get_elem_tactic_extensible
    refine run_pairG _ _ rx _ fun G => ?_
    array_mem_dec
    refine run_pairG _ _ ry _ fun G => ?_
    get_elem_tactic_extensible
    refine bin_mul sx.1 sy.2 ?_
    array_mem_dec
    refine bin_mul sy.1 sx.2 ?_
    array_mem_dec
    refine bin_mul sx.2 sy.2 ?_
    array_mem_dec
    exact run_in_lowest n (p + q + 1) hpq _ _ h1 h2 h3 h4 _ fun G => h _



/-! ### ratios of either sign -/
def lowZ (t b : Int) : D := if 0 < b then lowD t b else lowD (-t) (-b)
theorem gcd_nn (t b : Int) : Int.gcd (-t) (-b) = Int.gcd t b := by rw [Int.gcd_neg, Int.neg_gcd]
theorem fdiv_nn (t g : Int) : t.fdiv (-g) = (-t).fdiv g := by
  have := Int.neg_fdiv_neg (-t) g
  rw [Int.neg_neg] at this
  exact this
theorem lowZ_neg {t b : Int} (hb : b < 0) : lowZ t b = if b = -(Int.gcd t b : Int) then .int (t.fdiv (-(Int.gcd t b : Int))) else .tup [.int (t.fdiv (-(Int.gcd t b : Int))), .int (b.fdiv (-(Int.gcd t b : Int)))] := by
  unfold lowZ lowD
  rw [if_neg (by omega), gcd_nn, fdiv_nn, fdiv_nn]
  by_cases h : b = -(Int.gcd t b : Int)
  · rw [if_pos h, if_pos (by omega)]
  · rw [if_neg h, if_neg (by omega)]
theorem lowZ_ok {p : Nat} {t b : Int} (h1 : -big p < t) (h2 : t < big p) (hb : b ≠ 0) (h3 : -big p < b) (h4 : b < big p) : isRatD (lowZ t b) = true ∧ numB (big p) (lowZ t b) = true := by
  unfold lowZ
  split
  · exact lowD_ok h1 h2 ‹_› h4
  · exact lowD_ok (by omega) (by omega) (by omega) (by omega)
theorem run_law_lowZ (n p : Nat) (hp : p ≤ 1000) (t b : Int) (h1 : -big p < t) (h2 : t < big p) (hb : b ≠ 0) (h3 : -big p < b) (h4 : b < big p) (Q : R → En → Prop) (h : ∀ G, Q (.d (lowZ t b)) G) : ∃ r G, Rf.run cx prg (n + 2) "_law_low" [.fr (.int t), .fr (.int b)] = some (r, G) ∧ Q r G := by
  by_cases hpos : 0 < b
  · exact run_law_lowE n p hp t b h1 h2 hpos h4 Q fun G => by have := h G; unfold lowZ at this; rw [if_pos hpos] at this; exact this
  · have hneg : b < 0 := by omega
    have hg : 0 < Int.gcd t b := Int.gcd_pos_of_ne_zero_right _ hb
    have hgl : (Int.gcd t b : Int) ≤ -b := Int.le_of_dvd (by omega) (Int.dvd_neg.mpr (Int.gcd_dvd_right ..))
    have sg : small (-(Int.gcd t b : Int)) = true := small_big hp (by omega) (by have := big_pos p; omega)
    rw [lowZ_neg hneg] at h
    refine run_of lk__law_low rfl ?_
    unfold d__law_low; get_elem_tactic_extensible
    refine run_law_divisor _ t b (mul_small hp ⟨h1, h2⟩ ⟨h3, h4⟩) _ fun G => ?_
    get_elem_tactic_extensible
    any_goals (exfalso; omega)
    · rename_i z0 z
      have z : b = -(Int.gcd t b : Int) := z
      rw [if_pos z] at h
      refine bin_fdiv (by omega) sg ?_
      array_mem_dec
      exact h _
    · rename_i z0 z
      have z : b ≠ -(Int.gcd t b : Int) := z
      rw [if_neg z] at h
      refine bin_fdiv (by omega) sg ?_
      array_mem_dec
      refine bin_fdiv (by omega) sg ?_
      array_mem_dec
      exact h _
theorem run_in_lowestZ (n p : Nat) (hp : p ≤ 1000) (t b : Int) (h1 : -big p < t) (h2 : t < big p) (hb : b ≠ 0) (h3 : -big p < b) (h4 : b < big p) (Q : R → En → Prop) (h : ∀ G, Q (.d (lowZ t b)) G) : ∃ r G, Rf.run cx prg (n + 2) "in_lowest" [.fr (.int t), .fr (.int b)] = some (r, G) ∧ Q r G := by
  by_cases hpos : 0 < b
  · exact run_in_lowest n p hp t b h1 h2 hpos h4 Q fun G => by have := h G; unfold lowZ at this; rw [if_pos hpos] at this; exact this
  · have hneg : b < 0 := by omega
    have hg : 0 < Int.gcd t b := Int.gcd_pos_of_ne_zero_right _ hb
    have hgl : (Int.gcd t b : Int) ≤ -b := Int.le_of_dvd (by omega) (Int.dvd_neg.mpr (Int.gcd_dvd_right ..))
    have sg : small (-(Int.gcd t b : Int)) = true := small_big hp (by omega) (by have := big_pos p; omega)
    rw [lowZ_neg hneg] at h
    refine run_of lk_in_lowest rfl ?_
    unfold d_in_lowest; get_elem_tactic_extensible
    any_goals (exfalso; omega)
    · rename_i z0 z
      have z : b = -(Int.gcd t b : Int) := z
      rw [if_pos z] at h
      refine bin_fdiv (by omega) sg ?_
      array_mem_dec
      exact h _
    · rename_i z0 z
      have z : b ≠ -(Int.gcd t b : Int) := z
      rw [if_neg z] at h
      refine bin_fdiv (by omega) sg ?_
      array_mem_dec
      refine bin_fdiv (by omega) sg ?_
      array_mem_dec
      exact h _
/-- one form -/
theorem lowD_mul {t b c : Int} (hb : 0 < b) (hc : 0 < c) : lowD (t * c) (b * c) = lowD t b := by
  have hg : 0 < Int.gcd t b := Int.gcd_pos_of_ne_zero_right _ (by omega)
  have e : (Int.gcd (t * c) (b * c) : Int) = (Int.gcd t b : Int) * c := by
    rw [Int.gcd_mul_right, Int.natCast_mul, Int.natAbs_of_nonneg (by omega)]
  have f : ∀ x : Int, (x * c).fdiv ((Int.gcd t b : Int) * c) = x.fdiv (Int.gcd t b : Int) := fun x => by
    rw [Int.fdiv_eq_ediv_of_nonneg _ (Int.le_of_lt (Int.mul_pos (by omega) hc)), Int.fdiv_eq_ediv_of_nonneg _ (by omega), Int.mul_ediv_mul_of_pos_left _ _ hc]
  unfold lowD
  rw [e, f, f]
  by_cases h : b = (Int.gcd t b : Int)
  · rw [if_pos h, if_pos (congrArg (· * c) h)]
  · rw [if_neg h, if_neg (fun z => h (Int.eq_of_mul_eq_mul_right (by omega) z))]
theorem lowD_eq {t b t' b' : Int} (hb : 0 < b) (hb' : 0 < b') (h : t * b' = t' * b) : lowD t b = lowD t' b' := by
  rw [← lowD_mul (c := b') hb hb', h, Int.mul_comm b b', lowD_mul hb' hb]
theorem lowZ_mul {t b c : Int} (hb : 0 < b) (hc : c ≠ 0) : lowZ (t * c) (b * c) = lowD t b := by
  unfold lowZ
  by_cases h : 0 < c
  · rw [if_pos (Int.mul_pos hb h), lowD_mul hb h]
  · have hc : 0 < -c := by omega
    have : b * c < 0 := Int.mul_neg_of_pos_of_neg hb (by omega)
    rw [if_neg (by omega), ← Int.mul_neg, ← Int.mul_neg, lowD_mul hb hc]
/-! products, quotients, opposites -/
def timesD (x y : D) : D := lowD (topD x * topD y) (botD x * botD y)
def overD (x y : D) : D := lowZ (topD x * botD y) (botD x * topD y)
def oppD : D → D
  | .int i => .int (-i)
  | .tup [.int a, b] => .tup [.int (-a), b]
  | d => d
theorem times_parts {p q : Nat} (hp : 1 ≤ p) (hq : 1 ≤ q) {x y : D} (hx : numB (big p) x = true) (hy : numB (big q) y = true) :
    -big (p + q) < topD x * topD y ∧ topD x * topD y < big (p + q) ∧ 0 < botD x * botD y ∧ botD x * botD y < big (p + q) := by
  have nx := num_parts hx
  have ny := num_parts hy
  have bx := bot_lt hp hx
  have b_y := bot_lt hq hy
  have m1 := mul_lt_big nx.1.1 nx.1.2 ny.1.1 ny.1.2
  have m3 := mul_lt_big (show -big p < botD x by have := nx.2.1; have := big_pos p; omega) bx (show -big q < botD y by have := ny.2.1; have := big_pos q; omega) b_y
  exact ⟨m1.1, m1.2, Int.mul_pos nx.2.1 ny.2.1, m3.2⟩
theorem timesD_ok {p q : Nat} (hp : 1 ≤ p) (hq : 1 ≤ q) {x y : D} (hx : numB (big p) x = true) (hy : numB (big q) y = true) : isRatD (timesD x y) = true ∧ numB (big (p + q)) (timesD x y) = true := by
  obtain ⟨h1, h2, h3, h4⟩ := times_parts hp hq hx hy
  exact lowD_ok h1 h2 h3 h4
theorem run_law_timesE (n p q : Nat) (hp : 1 ≤ p) (hq : 1 ≤ q) (hpq : p + q + 1 ≤ 1000) (x y : D) (hx : numB (big p) x = true) (hy : numB (big q) y = true) (Q : R → En → Prop) (h : ∀ G, Q (.d (timesD x y)) G) : ∃ r G, Rf.run cx prg (n + 3) "_law_times" [.fr x, .fr y] = some (r, G) ∧ Q r G := by
  have sx := num_smalls (by omega) hp hx
  have sy := num_smalls (by omega) hq hy
  obtain ⟨h1, h2, h3, h4⟩ := times_parts hp hq hx hy
  refine run_of lk__law_times rfl ?_
  unfold d__law_times; get_elem_tactic_extensible
  refine run_law_pairG _ x (num_shape hx) _ fun G => ?_
  array_mem_dec
  refine run_law_pairG _ y (num_shape hy) _ fun G => ?_
  get_elem_tactic_extensible
  refine bin_mul sx.1 sy.1 ?_
  array_mem_dec
  refine bin_mul sx.2 sy.2 ?_
  array_mem_dec
  exact run_law_lowE n (p + q) (by omega) _ _ h1 h2 h3 h4 _ fun G => h _
theorem run_multiplied (n p q : Nat) (hp : 1 ≤ p) (hq : 1 ≤ q) (hpq : p + q + 1 ≤ 1000) (x y : D) (hx : numB (big p) x = true) (hy : numB (big q) y = true) (rx : isRatD x = true) (ry : isRatD y = true) (Q : R → En → Prop) (h : ∀ G, Q (.d (timesD x y)) G) : ∃ r G, Rf.run cx prg (n + 3) "multiplied" [.fr x, .fr y] = some (r, G) ∧ Q r G := by
  have sx := num_smalls (by omega) hp hx
  have sy := num_smalls (by omega) hq hy
  obtain ⟨h1, h2, h3, h4⟩ := times_parts hp hq hx hy
  refine run_of lk_multiplied rfl ?_
  rcases rat_shape rx with ⟨i, rfl⟩ | ⟨a, b, rfl⟩ <;> rcases rat_shape ry with ⟨j, rfl⟩ | ⟨c, d, rfl⟩
  · unfold d_multiplied; get_elem_tactic_extensible
    have e : timesD (.int i) (.int j) = .int (i * j) := by
      show lowD (i * j) (1 * 1) = _
      rw [Int.mul_one, lowD_one]
    rw [e] at h
    refine bin_mul sx.1 sy.1 ?_
    exact h _
  all_goals
    unfold d_multiplied; get_elem_tactic_extensible
    refine run_pairG _ _ rx _ fun G => ?_
    array_mem_dec
    refine run_pairG _ _ ry _ fun G => ?_
    get_elem_tactic_extensible
    refine bin_mul sx.1 sy.1 ?_
    array_mem_dec
    refine bin_mul sx.2 sy.2 ?_
    array_mem_dec
    exact run_in_lowest n (p + q) (by omega) _ _ h1 h2 h3 h4 _ fun G => h _
theorem over_parts {p q : Nat} (hp : 1 ≤ p) (hq : 1 ≤ q) {x y : D} (hx : numB (big p) x = true) (hy : numB (big q) y = true) (h0 : topD y ≠ 0) :
    -big (p + q) < topD x * botD y ∧ topD x * botD y < big (p + q) ∧ botD x * topD y ≠ 0 ∧ -big (p + q) < botD x * topD y ∧ botD x * topD y < big (p + q) := by
  have nx := num_parts hx
  have ny := num_parts hy
  have bx := bot_lt hp hx
  have b_y := bot_lt hq hy
  have m1 := mul_lt_big nx.1.1 nx.1.2 (show -big q < botD y by have := ny.2.1; have := big_pos q; omega) b_y
  have m3 := mul_lt_big (show -big p < botD x by have := nx.2.1; have := big_pos p; omega) bx ny.1.1 ny.1.2
  exact ⟨m1.1, m1.2, Int.mul_ne_zero (by omega) h0, m3.1, m3.2⟩
theorem overD_ok {p q : Nat} (hp : 1 ≤ p) (hq : 1 ≤ q) {x y : D} (hx : numB (big p) x = true) (hy : numB (big q) y = true) (h0 : topD y ≠ 0) : isRatD (overD x y) = true ∧ numB (big (p + q)) (overD x y) = true := by
  obtain ⟨h1, h2, h3, h4, h5⟩ := over_parts hp hq hx hy h0
  exact lowZ_ok h1 h2 h3 h4 h5
theorem run_law_overE (n p q : Nat) (hp : 1 ≤ p) (hq : 1 ≤ q) (hpq : p + q + 1 ≤ 1000) (x y : D) (hx : numB (big p) x = true) (hy : numB (big q) y = true) (h0 : topD y ≠ 0) (Q : R → En → Prop) (h : ∀ G, Q (.d (overD x y)) G) : ∃ r G, Rf.run cx prg (n + 3) "_law_over" [.fr x, .fr y] = some (r, G) ∧ Q r G := by
  have sx := num_smalls (by omega) hp hx
  have sy := num_smalls (by omega) hq hy
  obtain ⟨h1, h2, h3, h4, h5⟩ := over_parts hp hq hx hy h0
  refine run_of lk__law_over rfl ?_
  unfold d__law_over; get_elem_tactic_extensible
  refine run_law_pairG _ x (num_shape hx) _ fun G => ?_
  array_mem_dec
  refine run_law_pairG _ y (num_shape hy) _ fun G => ?_
  get_elem_tactic_extensible
  refine bin_mul sx.1 sy.2 ?_
  array_mem_dec
  refine bin_mul sx.2 sy.1 ?_
  array_mem_dec
  exact run_law_lowZ n (p + q) (by omega) _ _ h1 h2 h3 h4 h5 _ fun G => h _
theorem run_divided (n p q : Nat) (hp : 1 ≤ p) (hq : 1 ≤ q) (hpq : p + q + 1 ≤ 1000) (x y : D) (hx : numB (big p) x = true) (hy : numB (big q) y = true) (rx : isRatD x = true) (ry : isRatD y = true) (h0 : topD y ≠ 0) (Q : R → En → Prop) (h : ∀ G, Q (.d (overD x y)) G) : ∃ r G, Rf.run cx prg (n + 3) "divided" [.fr x, .fr y] = some (r, G) ∧ Q r G := by
  have sx := num_smalls (by omega) hp hx
  have sy := num_smalls (by omega) hq hy
  obtain ⟨h1, h2, h3, h4, h5⟩ := over_parts hp hq hx hy h0
  refine run_of lk_divided rfl ?_
  unfold d_divided; get_elem_tactic_extensible
  refine run_pairG _ _ rx _ fun G => ?_
  array_mem_dec
  refine run_pairG _ _ ry _ fun G => ?_
  get_elem_tactic_extensible
  refine bin_mul sx.1 sy.2 ?_
  array_mem_dec
  refine bin_mul sx.2 sy.1 ?_
  array_mem_dec
  exact run_in_lowestZ n (p + q) (by omega) _ _ h1 h2 h3 h4 h5 _ fun G => h _
theorem opp_ok {p : Nat} {x : D} (hx : numB (big p) x = true) (rx : isRatD x = true) : isRatD (oppD x) = true ∧ numB (big p) (oppD x) = true := by
  rcases num_cases hx with ⟨i, rfl, h1, h2⟩ | ⟨a, b, rfl, h1, h2, h3, h4⟩
  · exact ⟨rfl, num_int (by omega) (by omega)⟩
  · refine ⟨?_, num_rat (by omega) (by omega) h3 h4⟩
    have rx : (decide (1 < b) && decide ((Int.gcd a b : Int) = 1)) = true := rx
    show (decide (1 < b) && decide ((Int.gcd (-a) b : Int) = 1)) = true
    rw [Int.neg_gcd]
    exact rx
theorem run_opposite (n : Nat) (x : D) (rx : isRatD x = true) (Q : R → En → Prop) (h : ∀ G, Q (.d (oppD x)) G) : ∃ r G, Rf.run cx prg (n + 1) "opposite" [.fr x] = some (r, G) ∧ Q r G := by
  refine run_of lk_opposite rfl ?_
  unfold d_opposite
  rcases rat_shape rx with ⟨i, rfl⟩ | ⟨a, b, rfl⟩
  · get_elem_tactic_extensible
    exact h _
  · get_elem_tactic_extensible
    exact h _
theorem run_law_opposite (n : Nat) (x : D) (rx : isRatD x = true) (Q : R → En → Prop) (h : ∀ G, Q (.d (oppD x)) G) : ∃ r G, Rf.run cx prg (n + 1) "_law_opposite" [.fr x] = some (r, G) ∧ Q r G := by
  refine run_of lk__law_opposite rfl ?_
  unfold d__law_opposite
  rcases rat_shape rx with ⟨i, rfl⟩ | ⟨a, b, rfl⟩
  · get_elem_tactic_extensible
    exact h _
  · get_elem_tactic_extensible
    exact h _
theorem run_law_minus (n p q : Nat) (hp : 1 ≤ p) (hq : 1 ≤ q) (hpq : p + q + 1 ≤ 1000) (x y : D) (hx : numB (big p) x = true) (hy : numB (big q) y = true) (ry : isRatD y = true) (Q : R → En → Prop) (h : ∀ G, Q (.d (plusD x (oppD y))) G) : ∃ r G, Rf.run cx prg (n + 4) "_law_minus" [.fr x, .fr y] = some (r, G) ∧ Q r G := by
  refine run_of lk__law_minus rfl ?_
  unfold d__law_minus; get_elem_tactic_extensible
  refine run_law_opposite _ y ry _ fun G => ?_
  array_mem_dec
  exact run_law_plusE n p q hp hq hpq x _ hx (opp_ok hy ry).2 _ fun G => h _
/-! signs -/
def sgnD (x : D) : Int := if 0 < topD x then 1 else if topD x < 0 then -1 else 0
theorem run_law_sign (n : Nat) (x : D) (rx : isRatD x = true) (Q : R → En → Prop) (h : ∀ G, Q (.d (.int (sgnD x))) G) : ∃ r G, Rf.run cx prg (n + 2) "_law_sign" [.fr x] = some (r, G) ∧ Q r G := by
  refine run_of lk__law_sign rfl ?_
  unfold d__law_sign; get_elem_tactic_extensible
  refine run_law_pairG _ x (rat_shape rx) _ fun G => ?_
  get_elem_tactic_extensible
  have e : ((if decide (0 < topD x) = true then 1 else 0) - if decide (topD x < 0) = true then 1 else 0 : Int) = sgnD x := by
    unfold sgnD
    by_cases h1 : 0 < topD x
    · have h2 : ¬ topD x < 0 := by omega
      simp [h1, h2]
    · by_cases h2 : topD x < 0 <;> simp [h1, h2]
  show Q (.d (.int _)) _
  rw [e]
  exact h _
theorem run_sign_of (n : Nat) (x : D) (rx : isRatD x = true) (Q : R → En → Prop) (h : ∀ G, Q (.d (.int (sgnD x))) G) : ∃ r G, Rf.run cx prg (n + 1) "sign_of" [.fr x] = some (r, G) ∧ Q r G := by
  refine run_of lk_sign_of rfl ?_
  unfold d_sign_of
  unfold sgnD at h
  have k1 : 0 < topD x → ∀ G, Q (.d (.int 1)) G := fun z G => by have := h G; rwa [if_pos z] at this
  have k2 : ¬ 0 < topD x → topD x < 0 → ∀ G, Q (.d (.int (-1))) G := fun z z2 G => by have := h G; rwa [if_neg z, if_pos z2] at this
  have k3 : ¬ 0 < topD x → ¬ topD x < 0 → ∀ G, Q (.d (.int 0)) G := fun z z2 G => by have := h G; rwa [if_neg z, if_neg z2] at this
  rcases rat_shape rx with ⟨i, rfl⟩ | ⟨a, b, rfl⟩ <;> get_elem_tactic_extensible
  all_goals first | exact k1 ‹_› _ | exact k2 ‹_› ‹_› _ | exact k3 ‹_› ‹_› _



/-! ### what the law holds to be right -/
theorem run_law_isI (n : Nat) (i : Int) (Q : R → En → Prop) (h : ∀ G, Q (.d (.bl true)) G) : ∃ r G, Rf.run cx prg (n + 1) "_law_is" [.fr (.int i), .fr (.int i)] = some (r, G) ∧ Q r G := by
  refine run_of lk__law_is rfl ?_
  unfold d__law_is; get_elem_tactic_extensible
  rw [show (D.int i).eqv (.int i) = true by show (i == i) = true; simp]
  exact h _
theorem run_law_isR (n : Nat) (v : D) (rv : isRatD v = true) (Q : R → En → Prop) (h : ∀ G, Q (.d (.bl true)) G) : ∃ r G, Rf.run cx prg (n + 2) "_law_is" [.fr v, .fr v] = some (r, G) ∧ Q r G := by
  rcases rat_shape rv with ⟨i, e⟩ | ⟨a, b, e⟩
  · rw [e]
    exact run_law_isI (n + 1) i Q h
  · refine run_of lk__law_is rfl ?_
    rw [e]
    unfold d__law_is; get_elem_tactic_extensible
    refine WE_comp (α := Nat) (enc := natD) (fun _ => false) natD (WI_r1 ?_)
    get_elem_tactic_extensible
    refine ⟨by show (2 : Int) < 2 ^ 60; decide, by show -2 ^ 60 < (2 : Int); decide, [0, 1], rfl, rfl, by decide, fun y hy => ?_, ?_⟩
    · refine ⟨_, rfl, ?_, fun z => (nomatch z), rfl⟩
      simp only [List.mem_cons, List.not_mem_nil, or_false] at hy
      rcases hy with rfl | rfl
      · get_elem_tactic_extensible
        refine run_law_isI n a _ fun G => ?_
        array_mem_dec
        rfl
      · get_elem_tactic_extensible
        refine run_law_isI n b _ fun G => ?_
        array_mem_dec
        rfl
    · array_mem_dec
      exact h _
theorem run_law_says (n : Nat) (k : Bool) (Q : R → En → Prop) (h : ∀ G, Q (.d (.bl true)) G) : ∃ r G, Rf.run cx prg (n + 1) "_law_says" [.fr (.bl k), .fr (.bl k)] = some (r, G) ∧ Q r G := by
  refine run_of lk__law_says rfl ?_
  unfold d__law_says
  cases k
  · get_elem_tactic_extensible
    exact h _
  · get_elem_tactic_extensible
    exact h _
/-! ### the program's sums -/
section
variable {p q : Nat} {x y : D}
theorem run_need (n p q : Nat) (x y : D) (hx : plB (big p) 1 x = true) (hy : plB (big q) 1 y = true) (rx : isRatD x = true) (ry : isRatD y = true) (Q : R → En → Prop) (h : ∀ G, Q (.d .non) G) : ∃ r G, Rf.run cx prg (n + 3) "need_ratios" [.fr x, .fr y] = some (r, G) ∧ Q r G := by
  refine run_of lk_need_ratios rfl ?_
  unfold d_need_ratios; get_elem_tactic_extensible
  refine run_is_ratioG n 1 _ x hx _ fun G => ?_
  rw [rx]
  array_mem_dec
  refine run_is_ratioG n 1 _ y hy _ fun G => ?_
  rw [ry]
  array_mem_dec
  exact h _
def badN (w : Str) (x : D) : Xc := ⟨"BadNumber", ["what", "number"], [.str w, x]⟩
theorem rx_need1 (n p k : Nat) (x y : D) (hx : plB (big p) k x = true) (rx : isRatD x = false) (Y : Xc → Prop) (h : Y (badN "one" x)) : Rx (Rf.run cx prg (n + 3)) "need_ratios" [.fr x, .fr y] Y := by
  refine run_ofX lk_need_ratios rfl ?_
  unfold d_need_ratios; get_elem_tactic_extensible
  refine run_is_ratioG n k _ x hx _ fun G => ?_
  rw [rx]
  array_mem_dec
  exact h
theorem rx_need2 (n p q k : Nat) (x y : D) (hx : plB (big p) 1 x = true) (rx : isRatD x = true) (hy : plB (big q) k y = true) (ry : isRatD y = false) (Y : Xc → Prop) (h : Y (badN "other" y)) : Rx (Rf.run cx prg (n + 3)) "need_ratios" [.fr x, .fr y] Y := by
  refine run_ofX lk_need_ratios rfl ?_
  unfold d_need_ratios; get_elem_tactic_extensible
  refine run_is_ratioG n 1 _ x hx _ fun G => ?_
  rw [rx]
  array_mem_dec
  refine run_is_ratioG n k _ y hy _ fun G => ?_
  rw [ry]
  array_mem_dec
  exact h
theorem run_plus (n p q : Nat) (hp : 1 ≤ p) (hq : 1 ≤ q) (hpq : p + q + 1 ≤ 1000) (x y : D) (hx : numB (big p) x = true) (hy : numB (big q) y = true) (rx : isRatD x = true) (ry : isRatD y = true) (Q : R → En → Prop) (h : ∀ G, Q (.d (plusD x y)) G) : ∃ r G, Rf.run cx prg (n + 4) "plus" [.fr x, .fr y] = some (r, G) ∧ Q r G := by
  refine run_of lk_plus rfl ?_
  unfold d_plus; get_elem_tactic_extensible
  refine run_need n p q x y (num_pl hx) (num_pl hy) rx ry _ fun G => ?_
  array_mem_dec
  exact run_added n p q hp hq hpq x y hx hy rx ry _ fun G => h _
theorem run_minus (n p q : Nat) (hp : 1 ≤ p) (hq : 1 ≤ q) (hpq : p + q + 1 ≤ 1000) (x y : D) (hx : numB (big p) x = true) (hy : numB (big q) y = true) (rx : isRatD x = true) (ry : isRatD y = true) (Q : R → En → Prop) (h : ∀ G, Q (.d (plusD x (oppD y))) G) : ∃ r G, Rf.run cx prg (n + 4) "minus" [.fr x, .fr y] = some (r, G) ∧ Q r G := by
  refine run_of lk_minus rfl ?_
  unfold d_minus; get_elem_tactic_extensible
  refine run_need n p q x y (num_pl hx) (num_pl hy) rx ry _ fun G => ?_
  array_mem_dec
  refine run_opposite _ y ry _ fun G => ?_
  array_mem_dec
  exact run_added n p q hp hq hpq x _ hx (opp_ok hy ry).2 rx (opp_ok hy ry).1 _ fun G => h _
theorem run_times (n p q : Nat) (hp : 1 ≤ p) (hq : 1 ≤ q) (hpq : p + q + 1 ≤ 1000) (x y : D) (hx : numB (big p) x = true) (hy : numB (big q) y = true) (rx : isRatD x = true) (ry : isRatD y = true) (Q : R → En → Prop) (h : ∀ G, Q (.d (timesD x y)) G) : ∃ r G, Rf.run cx prg (n + 4) "times" [.fr x, .fr y] = some (r, G) ∧ Q r G := by
  refine run_of lk_times rfl ?_
  unfold d_times; get_elem_tactic_extensible
  refine run_need n p q x y (num_pl hx) (num_pl hy) rx ry _ fun G => ?_
  array_mem_dec
  exact run_multiplied n p q hp hq hpq x y hx hy rx ry _ fun G => h _
theorem run_below (n p q : Nat) (hp : 1 ≤ p) (hq : 1 ≤ q) (hpq : p + q + 1 ≤ 1000) (x y : D) (hx : numB (big p) x = true) (hy : numB (big q) y = true) (rx : isRatD x = true) (ry : isRatD y = true) (Q : R → En → Prop) (h : ∀ G, Q (.d (.bl (lessD x y))) G) : ∃ r G, Rf.run cx prg (n + 4) "below" [.fr x, .fr y] = some (r, G) ∧ Q r G := by
  refine run_of lk_below rfl ?_
  unfold d_below; get_elem_tactic_extensible
  refine run_need n p q x y (num_pl hx) (num_pl hy) rx ry _ fun G => ?_
  array_mem_dec
  exact run_is_belowG (n + 1) x y rx ry (num_smalls (by omega) hp hx) (num_smalls (by omega) hq hy) _ fun G => h _
theorem eq_zeroD {x : D} (rx : isRatD x = true) : cmpD .eq x (.int 0) = some (decide (topD x = 0)) := by
  rcases rat_cases rx with ⟨i, rfl⟩ | ⟨a, b, rfl, h1, h2⟩
  · show some (i == 0) = some (decide (i = 0))
    rfl
  · have ha : a ≠ 0 := by
      rintro rfl
      rw [Int.gcd_zero_left] at h2
      omega
    show some false = some (decide (a = 0))
    rw [decide_eq_false ha]
theorem run_over (n p q : Nat) (hp : 1 ≤ p) (hq : 1 ≤ q) (hpq : p + q + 1 ≤ 1000) (x y : D) (hx : numB (big p) x = true) (hy : numB (big q) y = true) (rx : isRatD x = true) (ry : isRatD y = true) (h0 : topD y ≠ 0) (Q : R → En → Prop) (h : ∀ G, Q (.d (overD x y)) G) : ∃ r G, Rf.run cx prg (n + 4) "over" [.fr x, .fr y] = some (r, G) ∧ Q r G := by
  refine run_of lk_over rfl ?_
  unfold d_over; get_elem_tactic_extensible
  refine run_need n p q x y (num_pl hx) (num_pl hy) rx ry _ fun G => ?_
  array_mem_dec
  refine ⟨_, eq_zeroD ry, ?_⟩
  rw [decide_eq_false h0]
  array_mem_dec
  exact run_divided n p q hp hq hpq x y hx hy rx ry h0 _ fun G => h _
theorem rx_over0 (n p q : Nat) (x : D) (hx : numB (big p) x = true) (rx : isRatD x = true) (Y : Xc → Prop) (h : Y (badN "other" (.int 0))) : Rx (Rf.run cx prg (n + 4)) "over" [.fr x, .fr (.int 0)] Y := by
  refine run_ofX lk_over rfl ?_
  unfold d_over; get_elem_tactic_extensible
  refine run_need n p 1 x (.int 0) (num_pl hx) (plB_int (by have := big_pos 1; omega) (big_pos 1)) rx rfl _ fun G => ?_
  array_mem_dec
  exact h
theorem run_sign (n p : Nat) (x : D) (hx : numB (big p) x = true) (rx : isRatD x = true) (Q : R → En → Prop) (h : ∀ G, Q (.d (.int (sgnD x))) G) : ∃ r G, Rf.run cx prg (n + 3) "sign" [.fr x] = some (r, G) ∧ Q r G := by
  refine run_of lk_sign rfl ?_
  unfold d_sign; get_elem_tactic_extensible
  refine run_is_ratioG n 1 _ x (num_pl hx) _ fun G => ?_
  rw [rx]
  array_mem_dec
  exact run_sign_of (n + 1) x rx _ fun G => h _
theorem rx_sign (n p k : Nat) (x : D) (hx : plB (big p) k x = true) (rx : isRatD x = false) (Y : Xc → Prop) (h : Y (badN "one" x)) : Rx (Rf.run cx prg (n + 3)) "sign" [.fr x] Y := by
  refine run_ofX lk_sign rfl ?_
  unfold d_sign; get_elem_tactic_extensible
  refine run_is_ratioG n k _ x hx _ fun G => ?_
  rw [rx]
  array_mem_dec
  exact h
/-! the five of two ratios -/
def fives : List Str := ["plus", "minus", "times", "over", "below"]
theorem rx_five1 (n p k : Nat) (x y : D) (hx : plB (big p) k x = true) (rx : isRatD x = false) (Y : Xc → Prop) (h : Y (badN "one" x)) : ∀ f ∈ fives, Rx (Rf.run cx prg (n + 4)) f [.fr x, .fr y] Y := by
  intro f hf
  simp only [fives, List.mem_cons, List.not_mem_nil, or_false] at hf
  rcases hf with rfl | rfl | rfl | rfl | rfl
  · refine run_ofX lk_plus rfl ?_
    unfold d_plus
    refine WS_cons (W1_expX (WX_call rfl ?_))
    get_elem_tactic_extensible
    exact rx_need1 n p k x y hx rx Y h
  · refine run_ofX lk_minus rfl ?_
    unfold d_minus
    refine WS_cons (W1_expX (WX_call rfl ?_))
    get_elem_tactic_extensible
    exact rx_need1 n p k x y hx rx Y h
  · refine run_ofX lk_times rfl ?_
    unfold d_times
    refine WS_cons (W1_expX (WX_call rfl ?_))
    get_elem_tactic_extensible
    exact rx_need1 n p k x y hx rx Y h
  · refine run_ofX lk_over rfl ?_
    unfold d_over
    refine WS_cons (W1_expX (WX_call rfl ?_))
    get_elem_tactic_extensible
    exact rx_need1 n p k x y hx rx Y h
  · refine run_ofX lk_below rfl ?_
    unfold d_below
    refine WS_cons (W1_expX (WX_call rfl ?_))
    get_elem_tactic_extensible
    exact rx_need1 n p k x y hx rx Y h
theorem rx_five2 (n p q k : Nat) (x y : D) (hx : plB (big p) 1 x = true) (rx : isRatD x = true) (hy : plB (big q) k y = true) (ry : isRatD y = false) (Y : Xc → Prop) (h : Y (badN "other" y)) : ∀ f ∈ fives, Rx (Rf.run cx prg (n + 4)) f [.fr x, .fr y] Y := by
  intro f hf
  simp only [fives, List.mem_cons, List.not_mem_nil, or_false] at hf
  rcases hf with rfl | rfl | rfl | rfl | rfl
  · refine run_ofX lk_plus rfl ?_
    unfold d_plus
    refine WS_cons (W1_expX (WX_call rfl ?_))
    get_elem_tactic_extensible
    exact rx_need2 n p q k x y hx rx hy ry Y h
  · refine run_ofX lk_minus rfl ?_
    unfold d_minus
    refine WS_cons (W1_expX (WX_call rfl ?_))
    get_elem_tactic_extensible
    exact rx_need2 n p q k x y hx rx hy ry Y h
  · refine run_ofX lk_times rfl ?_
    unfold d_times
    refine WS_cons (W1_expX (WX_call rfl ?_))
    get_elem_tactic_extensible
    exact rx_need2 n p q k x y hx rx hy ry Y h
  · refine run_ofX lk_over rfl ?_
    unfold d_over
    refine WS_cons (W1_expX (WX_call rfl ?_))
    get_elem_tactic_extensible
    exact rx_need2 n p q k x y hx rx hy ry Y h
  · refine run_ofX lk_below rfl ?_
    unfold d_below
    refine WS_cons (W1_expX (WX_call rfl ?_))
    get_elem_tactic_extensible
    exact rx_need2 n p q k x y hx rx hy ry Y h
end
/-! ### ratio -/
theorem run_ratio (n p : Nat) (hp : p ≤ 1000) (t b : Int) (h1 : -big p < t) (h2 : t < big p) (hb : b ≠ 0) (h3 : -big p < b) (h4 : b < big p) (Q : R → En → Prop) (h : ∀ G, Q (.d (lowZ t b)) G) : ∃ r G, Rf.run cx prg (n + 3) "ratio" [.fr (.int t), .fr (.int b)] = some (r, G) ∧ Q r G := by
  refine run_of lk_ratio rfl ?_
  unfold d_ratio; get_elem_tactic_extensible
  refine run_is_integer _ t _ fun G => ?_
  array_mem_dec
  refine run_is_integer _ b _ fun G => ?_
  array_mem_dec
  · rename_i z
    exact absurd (by simpa [D.eqv] using z) hb
  · exact run_in_lowestZ n p hp t b h1 h2 hb h3 h4 _ fun G => h _
theorem rx_ratio1 (n : Nat) (x y : D) (hx : vis x = true) (ix : isIntD x = false) (Y : Xc → Prop) (h : Y (badN "top" x)) : Rx (Rf.run cx prg (n + 2)) "ratio" [.fr x, .fr y] Y := by
  refine run_ofX lk_ratio rfl ?_
  unfold d_ratio; get_elem_tactic_extensible
  refine run_is_integerG _ x hx _ fun G => ?_
  rw [ix]
  array_mem_dec
  exact h
theorem rx_ratio2 (n : Nat) (t : Int) (y : D) (hy : vis y = true) (iy : isIntD y = false ∨ y = .int 0) (Y : Xc → Prop) (h : Y (badN "bottom" y)) : Rx (Rf.run cx prg (n + 2)) "ratio" [.fr (.int t), .fr y] Y := by
  refine run_ofX lk_ratio rfl ?_
  unfold d_ratio; get_elem_tactic_extensible
  refine run_is_integer _ t _ fun G => ?_
  array_mem_dec
  rcases iy with iy | rfl
  · refine run_is_integerG _ y hy _ fun G => ?_
    rw [iy]
    array_mem_dec
    exact h
  · refine run_is_integer _ 0 _ fun G => ?_
    array_mem_dec
    exact h



/-! ### reprs -/
theorem strOk_app (a b : Str) : PyData.strOk (a ++ b) = (PyData.strOk a && PyData.strOk b) := by
  show (a.cps ++ b.cps).all _ = _
  rw [Array.all_append]
  rfl
theorem strOk_of (s : String) : PyData.strOk (Str.ofString s) = true := by
  rw [Str.ofString_eq_toList]
  show ((s.toList.map Char.toNat).toArray).all _ = true
  rw [List.all_toArray, List.all_map, List.all_eq_true]
  intro c _
  have := c.valid
  simp only [Function.comp, decide_eq_true_eq]
  rcases this with h | h
  · have h : c.toNat < 55296 := h
    omega
  · have h : c.toNat < 1114112 := h.2
    omega
def shB (n N : Nat) (d : D) : Prop := d.okr n = true ∧ d.pr.shown.length ≤ N ∧ PyData.strOk d.pr.shown = true
theorem sh_repr {N : Nat} {d : D} (h : shB 50 N d) (hN : N ≤ 1000000) : ∃ s, reprD d = some s ∧ PyData.strOk s = true := by
  refine ⟨d.pr.shown, ?_, h.2.2⟩
  unfold reprD
  rw [h.1, decide_eq_true (Nat.le_trans h.2.1 hN)]
  rfl
theorem sh_int {n p : Nat} {i : Int} (hp : p ≤ 500) (h1 : -big p < i) (h2 : i < big p) : shB n 1921 (.int i) := by
  have e : (10 : Nat) ^ 500 < 2 ^ 1920 := by decide +kernel
  have b : big p ≤ big 500 := big_le hp
  have bd : big 500 = ((10 ^ 500 : Nat) : Int) := by rw [big_def, Int.natCast_pow]; rfl
  have hn : i.natAbs < 2 ^ 1920 := by
    generalize (10 : Nat) ^ 500 = T at e bd
    omega
  have hl : i.natAbs.log2 < 1920 := by
    by_cases h0 : i.natAbs = 0
    · rw [h0]; decide +kernel
    · exact (Nat.log2_lt h0).mpr hn
  refine ⟨?_, ?_⟩
  · cases n <;> exact decide_eq_true hl
  · exact ⟨int_text_len_1921 hl, strOk_of _⟩
theorem join_ok : ∀ {ts : List Str}, (∀ t ∈ ts, PyData.strOk t = true) → PyData.strOk (Str.join ", " ts) = true
  | [], _ => by simp [Str.join, Str.empty, PyData.strOk]
  | [x], h => h x (by simp)
  | x :: y :: r, h => by
    have ih := join_ok (ts := y :: r) fun t ht => h t (List.mem_cons_of_mem _ ht)
    show PyData.strOk (x ++ ", " ++ Str.join ", " (y :: r)) = true
    rw [strOk_app, strOk_app, h x (by simp), ih, strOk_of]
    rfl
theorem join_len {N : Nat} : ∀ {ts : List Str}, (∀ t ∈ ts, t.length ≤ N) → (Str.join ", " ts).length ≤ ts.length * (N + 2)
  | [], _ => Nat.zero_le _
  | [x], h => by
    have := h x (by simp)
    show x.length ≤ 1 * (N + 2)
    omega
  | x :: y :: r, h => by
    have ih := join_len (N := N) (ts := y :: r) fun t ht => h t (List.mem_cons_of_mem _ ht)
    have hx := h x (by simp)
    show (x ++ ", " ++ Str.join ", " (y :: r)).length ≤ (r.length + 1 + 1) * (N + 2)
    rw [strLen_append, strLen_append]
    have e2 : ((", " : String) : Str).length = 2 := rfl
    rw [e2, Nat.succ_mul]
    have : (y :: r).length = r.length + 1 := rfl
    rw [this] at ih
    omega
theorem shs_all {n N : Nat} : ∀ {ds : List D}, (∀ d ∈ ds, shB n N d) → D.okrs n ds = true ∧ (∀ t ∈ PyData.shownAll (D.prs ds), t.length ≤ N) ∧ ∀ t ∈ PyData.shownAll (D.prs ds), PyData.strOk t = true
  | [], _ => ⟨by unfold D.okrs; rfl, fun t h => (by unfold D.prs PyData.shownAll at h; cases h), fun t h => (by unfold D.prs PyData.shownAll at h; cases h)⟩
  | d :: ds, h => by
    obtain ⟨h1, h2, h3⟩ := shs_all (ds := ds) fun x hx => h x (List.mem_cons_of_mem _ hx)
    have hd := h d List.mem_cons_self
    refine ⟨by unfold D.okrs; rw [hd.1, h1]; rfl, fun t ht => ?_, fun t ht => ?_⟩
    all_goals
      unfold D.prs PyData.shownAll at ht
      rcases List.mem_cons.mp ht with rfl | ht
    · exact hd.2.1
    · exact h2 t ht
    · exact hd.2.2
    · exact h3 t ht
theorem shown_len : ∀ (ds : List D), (PyData.shownAll (D.prs ds)).length = ds.length
  | [] => by unfold D.prs PyData.shownAll; rfl
  | d :: ds => by
    unfold D.prs PyData.shownAll
    rw [List.length_cons, List.length_cons, shown_len ds]
theorem sh_tup {n N : Nat} {ds : List D} (h : ∀ d ∈ ds, shB n N d) : shB (n + 1) (ds.length * (N + 2) + 3) (.tup ds) := by
  obtain ⟨h1, h2, h3⟩ := shs_all h
  refine ⟨by unfold D.okr; exact h1, ?_, ?_⟩
  rotate_left
  · unfold D.pr PyData.shown
    show PyData.strOk (("(" : Str) ++ Str.join ", " (PyData.shownAll (D.prs ds)) ++ (if (PyData.shownAll (D.prs ds)).length == 1 then ",)" else ")" : String)) = true
    rw [strOk_app, strOk_app, join_ok h3, strOk_of, strOk_of]
    rfl
  have hl := join_len h2
  rw [shown_len] at hl
  unfold D.pr PyData.shown
  show (("(" : Str) ++ Str.join ", " (PyData.shownAll (D.prs ds)) ++ (if (PyData.shownAll (D.prs ds)).length == 1 then ",)" else ")" : String)).length ≤ _
  rw [strLen_append, strLen_append]
  have e1 : ((("(" : String) : Str)).length = 1 := rfl
  have e2 : (((if (PyData.shownAll (D.prs ds)).length == 1 then ",)" else ")" : String)) : Str).length ≤ 2 := by
    split
    · exact Nat.le_refl 2
    · exact Nat.le_succ 1
  omega
theorem sh_up {n N M : Nat} {d : D} (h : shB n N d) (hM : N ≤ M) : shB n M d := ⟨h.1, Nat.le_trans h.2.1 hM, h.2.2⟩
theorem sh_rat {n p : Nat} {d : D} (hp : p ≤ 500) (h : numB (big p) d = true) : shB (n + 1) 4000 d := by
  rcases num_cases h with ⟨i, rfl, h1, h2⟩ | ⟨a, b, rfl, h1, h2, h3, h4⟩
  · exact sh_up (sh_int hp h1 h2) (by omega)
  · refine sh_up (sh_tup (N := 1921) fun d hd => ?_) (by simp)
    have := big_pos p
    simp only [List.mem_cons, List.not_mem_nil, or_false] at hd
    rcases hd with rfl | rfl
    · exact sh_int hp h1 h2
    · exact sh_int hp (by omega) h4
def shC (n N : Nat) (d : D) : Bool := d.okr n && decide (d.pr.shown.length ≤ N) && PyData.strOk d.pr.shown
theorem shC_ok {n N : Nat} {d : D} (h : shC n N d = true) : shB n N d := by
  unfold shC at h
  rw [Bool.and_eq_true, Bool.and_eq_true] at h
  exact ⟨h.1.1, of_decide_eq_true h.1.2, h.2⟩
theorem odds_sh : ∀ d ∈ odds, shB 40 4000 d ∧ shB 50 4000 d := by
  have h : odds.all (fun d => shC 40 4000 d && shC 50 4000 d) = true := by decide +kernel
  intro d hd
  have := List.all_eq_true.mp h d hd
  rw [Bool.and_eq_true] at this
  exact ⟨shC_ok this.1, shC_ok this.2⟩
/-! ### what is told of errors -/
theorem kind_badN {w s : Str} {x : D} (h : reprD x = some s) : kindD cx (badN w x) = some (.tup [.str "number", .str w, .str s]) := by
  have e : cx.kinds.filter (fun p => decide (p.1 = (badN w x).C)) = ([(("BadNumber" : Str), [Ki.lit "number", Ki.fld "what", Ki.rep "number"])] : List (Str × List Ki)) := by kernel_rfl
  have e2 : cx.exc.lookup (badN w x).C = some (badN w x).ns := by kernel_rfl
  unfold kindD
  rw [e]
  dsimp only
  rw [if_pos e2]
  show (([Ki.lit "number", .fld "what", .rep "number"]).mapM (kindI (badN w x))).map D.tup = _
  have e3 : kindI (badN w x) (.rep "number") = some (.str s) := by
    show ((some x).bind fun d => (reprD d).map D.str) = _
    rw [Option.bind_some, h]
    rfl
  rw [List.mapM_cons, List.mapM_cons, List.mapM_cons, List.mapM_nil, e3]
  rfl
def badR (w : Str) (x : D) : Xc := ⟨"BadRow", ["what", "row"], [.str w, x]⟩
theorem kind_badR {w s : Str} {x : D} (h : reprD x = some s) : kindD cx (badR w x) = some (.tup [.str "row", .str w, .str s]) := by
  have e : cx.kinds.filter (fun p => decide (p.1 = (badR w x).C)) = ([(("BadRow" : Str), [Ki.lit "row", Ki.fld "what", Ki.rep "row"])] : List (Str × List Ki)) := by kernel_rfl
  have e2 : cx.exc.lookup (badR w x).C = some (badR w x).ns := by kernel_rfl
  unfold kindD
  rw [e]
  dsimp only
  rw [if_pos e2]
  show (([Ki.lit "row", .fld "what", .rep "row"]).mapM (kindI (badR w x))).map D.tup = _
  have e3 : kindI (badR w x) (.rep "row") = some (.str s) := by
    show ((some x).bind fun d => (reprD d).map D.str) = _
    rw [Option.bind_some, h]
    rfl
  rw [List.mapM_cons, List.mapM_cons, List.mapM_cons, List.mapM_nil, e3]
  rfl
def unl (w : Str) : Xc := ⟨"Unlike", ["what"], [.str w]⟩
theorem kind_unl : kindD cx (unl "other") = some (.tup [.str "unlike", .str "other"]) := by kernel_rfl
theorem eq_told {a b : String} {s : Str} (hs : PyData.strOk s = true) : cmpD .eq (.tup [.str a, .str b, .str s]) (.tup [.str a, .str b, .str s]) = some true := by
  have e : D.okd 60 (.tup [.str a, .str b, .str s]) = true := by
    show ([D.str a, .str b, .str s].all (D.okd 59)) = true
    have h1 : D.okd 59 (.str (Str.ofString a)) = true := strOk_of a
    have h2 : D.okd 59 (.str (Str.ofString b)) = true := strOk_of b
    have h3 : D.okd 59 (.str s) = true := hs
    simp only [List.all_cons, List.all_nil, h1, h2, h3, Bool.and_self]
  show eqD _ _ = _
  unfold eqD
  rw [e]
  simp [D.eqv, D.eqvs]
theorem ne_told {a b : String} {s : Str} (hs : PyData.strOk s = true) : cmpD .ne (.tup [.str a, .str b, .str s]) (.tup [.str a, .str b, .str s]) = some false := by
  have h : eqD (.tup [.str a, .str b, .str s]) (.tup [.str a, .str b, .str s]) = some true := eq_told hs
  show (eqD _ _).map _ = _
  rw [h]
  rfl
/-! ### odd values are refused -/
theorem run_law_refused (n p : Nat) (one odd : D) (h1 : numB (big p) one = true) (r1 : isRatD one = true) (ho : odd ∈ odds) (Q : R → En → Prop) (h : ∀ G, Q (.d (.bl true)) G) : ∃ r G, Rf.run cx prg (n + 5) "_law_refused_right" [.fr one, .fr odd] = some (r, G) ∧ Q r G := by
  have po := odds_ok odd ho
  have ro : isRatD odd = false := by
    have : odds.all (fun d => !isRatD d) = true := by decide +kernel
    simpa using List.all_eq_true.mp this odd ho
  obtain ⟨s, hs, hk⟩ := sh_repr (odds_sh odd ho).2 (by omega)
  refine run_of lk__law_refused_right rfl ?_
  unfold d__law_refused_right; get_elem_tactic_extensible
  refine W1_for (α := Str) (enc := D.fn) (fun left Γ => (∀ f ∈ left, f ∈ fives) ∧ ∃ o, Γ = [some (.fr one), some (.fr odd), fzO o]) (WI_val rfl ?_)
  get_elem_tactic_extensible
  refine ⟨fives, rfl, ⟨fun f hf => hf, none, rfl⟩, ?_, ?_⟩
  · rintro f left Γ ⟨hf, o, rfl⟩
    refine asg_fz rfl ?_
    have hf5 := hf f List.mem_cons_self
    have hc : cx.fnl.contains f = true := List.contains_iff_mem.mpr hf5
    get_elem_tactic_extensible
    refine WE_faultV (f := f) (s := some (.fr (.fn f))) rfl rfl hc ?_
    get_elem_tactic_extensible
    refine .inr (rx_five1 n 3 1 odd odd po ro _ ⟨_, kind_badN hs, ?_⟩ f hf5)
    array_mem_dec
    refine ⟨_, hs, ?_⟩
    array_mem_dec
    refine ⟨_, ne_told hk, ?_⟩
    get_elem_tactic_extensible
    refine WE_faultV (f := f) (s := some (.fr (.fn f))) rfl rfl hc ?_
    get_elem_tactic_extensible
    refine .inr (rx_five2 n p 3 1 one odd (num_pl h1) r1 po ro _ ⟨_, kind_badN hs, ?_⟩ f hf5)
    array_mem_dec
    refine ⟨_, hs, ?_⟩
    array_mem_dec
    refine ⟨_, ne_told hk, ?_⟩
    get_elem_tactic_extensible
    exact ⟨fun g hg => hf g (List.mem_cons_of_mem _ hg), some (.fn f), rfl⟩
  · rintro Γ ⟨_, o, rfl⟩
    get_elem_tactic_extensible
    refine .inr (rx_sign (n + 1) 3 1 odd po ro _ ⟨_, kind_badN hs, ?_⟩)
    array_mem_dec
    refine ⟨_, hs, ?_⟩
    array_mem_dec
    refine ⟨_, eq_told hk, ?_⟩
    array_mem_dec
    exact h _



/-! ### drawn numbers -/
theorem wp_wide {n k f : Nat} {p : Pen} (h : PenOk k p) (hk : k < 10000000) (hf1 : 1 ≤ f) (hf2 : f ≤ 60) {Q : R → M → Prop}
    (q : ∀ (i : Int) (p' : Pen), 0 ≤ i → i < big f → PenOk (k + 11) p' → Q (.d (.int i)) p'.toM) : ∃ r m' G, Rf.run cx prg (n + 2) "_law_wide" [.bo p.toM, .fr (natD f)] = some (r, some (.bo m') :: G) ∧ Q r m' := by
  have key : ∃ r G, Rf.run cx prg (n + 2) "_law_wide" [.bo p.toM, .fr (natD f)] = some (r, G) ∧ ∃ m' G', G = some (.bo m') :: G' ∧ Q r m' := by
    have s6 : small 6 = true := by decide +kernel
    have sM : small 1000000 = true := by decide +kernel
    have s10 : small 10 = true := by decide +kernel
    have laps : ((f : Int) + 5).fdiv 6 = (((f + 5) / 6 : Nat) : Int) := by
      rw [Int.fdiv_eq_ediv_of_nonneg _ (by decide)]
      omega
    refine run_of lk__law_wide rfl ?_
    unfold d__law_wide; get_elem_tactic_extensible
    refine W1_for (α := Nat) (enc := natD) (fun left Γ => ∃ (p : Pen) (a c : Nat) (i : Int) (o : Option D), left = List.range' a c ∧ a + c = (f + 5) / 6 ∧ PenOk (k + a) p ∧ 0 ≤ i ∧ i < big (6 * a) ∧ Γ = [some (.bo p.toM), some (.fr (natD f)), some (.fr (.int i)), some (.fr (.int 1)), fzO o]) (WI_r1 ?_)
    get_elem_tactic_extensible
    refine bin_fdiv (by decide) s6 ?_
    array_mem_dec
    rw [laps]
    refine ⟨by omega, by omega, List.range ((f + 5) / 6), by rw [Int.toNat_natCast], ⟨p, 0, (f + 5) / 6, 0, none, List.range_eq_range', by omega, h, by omega, big_pos _, rfl⟩, ?_, ?_⟩
    · rintro z zs Γ ⟨p, a, c, i, o, e1, e2, hp, h0, h1, rfl⟩
      obtain ⟨rfl, c, rfl, rfl⟩ := range_cons e1
      refine asg_fz rfl ?_
      get_elem_tactic_extensible
      refine bin_mul (small_big (n := 60) (by omega) (by have := big_pos 60; omega) (by have := big_le (a := 6 * z) (b := 60) (by omega); omega)) sM ?_
      get_elem_tactic_extensible
      refine wp_draw (many := 1000000) lk__law_draw hp (by omega) (by omega) (by omega) fun j p1 hj hp1 => ?_
      get_elem_tactic_extensible
      refine ⟨p1, z + 1, c, i * 1000000 + (j : Int), some (natD z), rfl, by omega, hp1, by omega, ?_, rfl⟩
      have e : big (6 * (z + 1)) = big (6 * z) * 1000000 := by
        rw [show 6 * (z + 1) = 6 * z + 6 by omega, ← big_mul, big_def 6, show (10 : Int) ^ 6 = 1000000 by decide]
      rw [e]
      omega
    rintro Γ ⟨p, a, c, i, o, e1, e2, hp, h0, h1, rfl⟩
    obtain rfl := range_nil e1
    get_elem_tactic_extensible
    refine W1_for (α := Nat) (enc := natD) (fun left Γ => ∃ (a c : Nat) (o : Option D), left = List.range' a c ∧ a + c = f ∧ Γ = [some (.bo p.toM), some (.fr (natD f)), some (.fr (.int i)), some (.fr (.int (big a))), fzO o]) (WI_r1 ?_)
    get_elem_tactic_extensible
    refine ⟨by omega, by omega, List.range f, by rw [Int.toNat_natCast], ⟨0, f, o, List.range_eq_range', by omega, by rw [big_def]; rfl⟩, ?_, ?_⟩
    · rintro z zs Γ ⟨a, c, o, e1, e2, rfl⟩
      obtain ⟨rfl, c, rfl, rfl⟩ := range_cons e1
      refine asg_fz rfl ?_
      get_elem_tactic_extensible
      refine bin_mul (small_big (n := 100) (by omega) (by have := big_pos 100; have := big_pos z; omega) (by have := big_le (a := z + 1) (b := 100) (by omega); have := big_succ z; have := big_pos z; omega)) s10 ?_
      get_elem_tactic_extensible
      exact ⟨z + 1, c, some (natD z), rfl, by omega, by rw [big_succ]; rfl⟩
    rintro Γ ⟨a2, c2, o2, e3, e4, rfl⟩
    obtain rfl := range_nil e3
    obtain rfl : a2 = f := by omega
    get_elem_tactic_extensible
    have bp := big_pos a2
    refine bin_mod (by omega) ?_
    exact ⟨_, _, rfl, q _ p (Int.fmod_nonneg_of_pos _ bp) (Int.fmod_lt_of_pos _ bp) (hp.up (by omega))⟩
  obtain ⟨r, G, e, m', G', rfl, q⟩ := key
  exact ⟨r, m', G', e, q⟩
theorem wp_number {n k s : Nat} {p : Pen} (h : PenOk k p) (hk : k < 9000000) (hs : s ≤ 2) {Q : R → M → Prop}
    (q : ∀ v, isRatD v = true → numB (big 4) v = true → ∀ (p' : Pen), PenOk (k + 30) p' → Q (.d v) p'.toM) : ∃ r m' G, Rf.run cx prg (n + 3) "_law_number" [.bo p.toM, .fr (natD s)] = some (r, some (.bo m') :: G) ∧ Q r m' := by
  have key : ∃ r G, Rf.run cx prg (n + 3) "_law_number" [.bo p.toM, .fr (natD s)] = some (r, G) ∧ ∃ m' G', G = some (.bo m') :: G' ∧ Q r m' := by
    have b4 : (2000 : Int) < big 4 := by rw [big_def]; decide
    refine run_of lk__law_number rfl ?_
    unfold d__law_number
    obtain rfl | rfl | rfl : s = 0 ∨ s = 1 ∨ s = 2 := by omega
    · get_elem_tactic_extensible
      refine wp_draw (many := 7) lk__law_draw h (by omega) (by omega) (by omega) fun a p1 ha hp1 => ?_
      get_elem_tactic_extensible
      exact ⟨_, _, rfl, q _ rfl (num_int (by omega) (by omega)) p1 (hp1.up (by omega))⟩
    · get_elem_tactic_extensible
      refine wp_draw (many := 19) lk__law_draw h (by omega) (by omega) (by omega) fun a p1 ha hp1 => ?_
      get_elem_tactic_extensible
      refine wp_draw (many := 6) lk__law_draw hp1 (by omega) (by omega) (by omega) fun b p2 hb hp2 => ?_
      get_elem_tactic_extensible
      refine run_law_low n 4 (by omega) _ _ (by omega) (by omega) (by omega) (by omega) _ fun v G h1 h2 => ?_
      exact ⟨_, _, rfl, q v h1 h2 p2 (hp2.up (by omega))⟩
    · get_elem_tactic_extensible
      refine wp_draw (many := 1999) lk__law_draw h (by omega) (by omega) (by omega) fun a p1 ha hp1 => ?_
      get_elem_tactic_extensible
      refine wp_draw (many := 97) lk__law_draw hp1 (by omega) (by omega) (by omega) fun b p2 hb hp2 => ?_
      get_elem_tactic_extensible
      refine run_law_low n 4 (by omega) _ _ (by omega) (by omega) (by omega) (by omega) _ fun v G h1 h2 => ?_
      exact ⟨_, _, rfl, q v h1 h2 p2 (hp2.up (by omega))⟩
  obtain ⟨r, G, e, m', G', rfl, q⟩ := key
  exact ⟨r, m', G', e, q⟩
theorem wp_number3 {n k : Nat} {p : Pen} (h : PenOk k p) (hk : k < 9000000) {Q : R → M → Prop}
    (q : ∀ v, isRatD v = true → numB (big 41) v = true → ∀ (p' : Pen), PenOk (k + 30) p' → Q (.d v) p'.toM) : ∃ r m' G, Rf.run cx prg (n + 3) "_law_number" [.bo p.toM, .fr (.int 3)] = some (r, some (.bo m') :: G) ∧ Q r m' := by
  have key : ∃ r G, Rf.run cx prg (n + 3) "_law_number" [.bo p.toM, .fr (.int 3)] = some (r, G) ∧ ∃ m' G', G = some (.bo m') :: G' ∧ Q r m' := by
    have s1 : ∀ a : Nat, a < 2 → small (1 - 2 * (a : Int)) = true := fun a ha => by
      obtain rfl | rfl : a = 0 ∨ a = 1 := by omega
      · decide +kernel
      · decide +kernel
    have b41 : big 41 = big 40 * 10 := big_succ 40
    have b40 : big 40 = big 39 * 10 := big_succ 39
    have b0 := big_pos 39
    refine run_of lk__law_number rfl ?_
    unfold d__law_number; get_elem_tactic_extensible
    refine wp_draw (many := 2) lk__law_draw h (by omega) (by omega) (by omega) fun a p1 ha hp1 => ?_
    get_elem_tactic_extensible
    refine bin_mul (by decide +kernel) (small_nat (by omega)) ?_
    get_elem_tactic_extensible
    refine wp_wide (f := 40) hp1 (by omega) (by omega) (by omega) fun i p2 h1 h2 hp2 => ?_
    get_elem_tactic_extensible
    refine bin_mul (s1 a ha) (small_big (n := 40) (by omega) (by omega) h2) ?_
    get_elem_tactic_extensible
    refine wp_wide (f := 39) hp2 (by omega) (by omega) (by omega) fun j p3 h3 h4 hp3 => ?_
    get_elem_tactic_extensible
    have hm : -big 41 < (1 - 2 * (a : Int)) * i ∧ (1 - 2 * (a : Int)) * i < big 41 := by
      obtain rfl | rfl : a = 0 ∨ a = 1 := by omega
      · have e : (1 - 2 * ((0 : Nat) : Int)) * i = i := by simp
        rw [e]; omega
      · have e : (1 - 2 * ((1 : Nat) : Int)) * i = -i := by
          rw [show (1 - 2 * ((1 : Nat) : Int)) = -1 by rfl, Int.neg_mul, Int.one_mul]
        rw [e]; omega
    refine run_law_low n 41 (by omega) _ _ hm.1 hm.2 (by omega) (by omega) _ fun v G h1 h2 => ?_
    exact ⟨_, _, rfl, q v h1 h2 p3 (hp3.up (by omega))⟩
  obtain ⟨r, G, e, m', G', rfl, q⟩ := key
  exact ⟨r, m', G', e, q⟩
theorem wp_size {n k : Nat} {p : Pen} (h : PenOk k p) (hk : k < 9000000) {Q : R → M → Prop}
    (q : ∀ s, s ≤ 2 → ∀ (p' : Pen), PenOk (k + 1) p' → Q (.d (natD s)) p'.toM) : ∃ r m' G, Rf.run cx prg (n + 3) "_law_size" [.bo p.toM] = some (r, some (.bo m') :: G) ∧ Q r m' := by
  have key : ∃ r G, Rf.run cx prg (n + 3) "_law_size" [.bo p.toM] = some (r, G) ∧ ∃ m' G', G = some (.bo m') :: G' ∧ Q r m' := by
    refine run_of lk__law_size rfl ?_
    unfold d__law_size; get_elem_tactic_extensible
    refine wp_pick (ds := [.int 0, .int 0, .int 0, .int 1, .int 1, .int 2]) h (by omega) (by decide) (by decide) (fun d hd p' hp' => ?_) _ (.inl rfl)
    refine ⟨_, _, rfl, ?_⟩
    have : ∃ s, s ≤ 2 ∧ d = natD s := by
      simp only [List.mem_cons, List.not_mem_nil, or_false] at hd
      rcases hd with rfl | rfl | rfl | rfl | rfl | rfl
      · exact ⟨0, by decide, rfl⟩
      · exact ⟨0, by decide, rfl⟩
      · exact ⟨0, by decide, rfl⟩
      · exact ⟨1, by decide, rfl⟩
      · exact ⟨1, by decide, rfl⟩
      · exact ⟨2, by decide, rfl⟩
    obtain ⟨s, hs, rfl⟩ := this
    exact q s hs p' hp'
  obtain ⟨r, G, e, m', G', rfl, q⟩ := key
  exact ⟨r, m', G', e, q⟩
/-- a row of ratios -/
def RowR (m : Nat) (fs : List D) : Prop := fs.length = m ∧ ∀ v ∈ fs, isRatD v = true ∧ numB (big 4) v = true
theorem wp_row {n k m s : Nat} {p : Pen} (h : PenOk k p) (hk : k < 8000000) (hm : m ≤ 8) (hs : s ≤ 2) {Q : R → M → Prop}
    (q : ∀ fs, RowR m fs → ∀ (p' : Pen), PenOk (k + 400) p' → Q (.d (.tup fs)) p'.toM) : ∃ r m' G, Rf.run cx prg (n + 4) "_law_row" [.bo p.toM, .fr (natD m), .fr (natD s)] = some (r, some (.bo m') :: G) ∧ Q r m' := by
  have key : ∃ r G, Rf.run cx prg (n + 4) "_law_row" [.bo p.toM, .fr (natD m), .fr (natD s)] = some (r, G) ∧ ∃ m' G', G = some (.bo m') :: G' ∧ Q r m' := by
    obtain ⟨md, hmd⟩ : ∃ d, d = natD m := ⟨_, rfl⟩
    obtain ⟨sd, hsd⟩ : ∃ d, d = natD s := ⟨_, rfl⟩
    rw [← hmd, ← hsd]
    refine run_of lk__law_row rfl ?_
    rw [hmd, hsd]
    unfold d__law_row; get_elem_tactic_extensible
    refine WE_compI (α := Nat) (enc := natD) (fun left acc Γ => ∃ (p : Pen) (a c : Nat), left = List.range' a c ∧ a + c = m ∧ acc.length = a ∧ (∀ v ∈ acc, isRatD v = true ∧ numB (big 4) v = true) ∧ PenOk (k + a * 40) p ∧ Γ = [some (.bo p.toM), some (.fr (natD m)), some (.fr (natD s)), none]) (WI_r1 ?_)
    get_elem_tactic_extensible
    refine ⟨by omega, by omega, List.range m, by rw [Int.toNat_natCast], rfl, ⟨p, 0, m, List.range_eq_range', by omega, rfl, fun d hd => (nomatch hd), h, rfl⟩, ?_, ?_⟩
    · rintro z zs acc Γ ⟨p, a, c, e1, e2, hl, hv, hp, rfl⟩
      obtain ⟨rfl, c, rfl, rfl⟩ := range_cons e1
      refine ⟨by omega, ?_⟩
      get_elem_tactic_extensible
      refine wp_draw (many := 4) lk__law_draw hp (by omega) (by omega) (by omega) fun j p1 hj hp1 => ?_
      get_elem_tactic_extensible
      · refine wp_number hp1 (by omega) hs fun v hv1 hv2 p' hp' => ?_
        get_elem_tactic_extensible
        refine ⟨p', z + 1, c, rfl, by omega, by rw [List.length_append]; simp; omega, fun x hx => ?_, hp'.up (by omega), rfl⟩
        rcases List.mem_append.mp hx with hx | hx
        · exact hv x hx
        · rw [List.mem_singleton] at hx
          subst hx
          exact ⟨hv1, hv2⟩
      · refine ⟨p1, z + 1, c, rfl, by omega, by rw [List.length_append]; simp; omega, fun x hx => ?_, hp1.up (by omega), rfl⟩
        rcases List.mem_append.mp hx with hx | hx
        · exact hv x hx
        · rw [List.mem_singleton] at hx
          subst hx
          exact ⟨rfl, num_int (by have := big_pos 4; omega) (big_pos 4)⟩
    rintro fs Γ ⟨p3, b, c0, e3, e4, hfl, hfv, hp3, rfl⟩
    obtain rfl := range_nil e3
    get_elem_tactic_extensible
    exact ⟨_, _, rfl, q fs ⟨by omega, hfv⟩ p3 (hp3.up (by omega))⟩
  obtain ⟨r, G, e, m', G', rfl, q⟩ := key
  exact ⟨r, m', G', e, q⟩



/-! ### sums of products -/
/-- top and bottom of the law's sum -/
def dotT : List (D × D) → Int × Int → Int × Int
  | [], s => s
  | (x, y) :: l, (t, b) => dotT l (let low := botD x * botD y; if low = b then (t + topD x * topD y, b) else (t * low + topD x * topD y * b, b * low))
/-- of the program's -/
def sumT : List (D × D) → Int × Int → Int × Int
  | [], s => s
  | (x, y) :: l, (t, b) => sumT l (if topD x = 0 ∨ topD y = 0 then (t, b) else let low := botD x * botD y; if low = b then (t + topD x * topD y, b) else (t * low + topD x * topD y * b, b * low))
theorem botD_pos {v : D} (h : isRatD v = true) : 0 < botD v := by
  rcases rat_cases h with ⟨i, rfl⟩ | ⟨a, b, rfl, h1, _⟩
  · exact Int.one_pos
  · show 0 < b; omega
theorem step_eq {t b t' b' n low : Int} (hb : 0 < b) (hb' : 0 < b') (hl : 0 < low) (h : t * b' = t' * b) : (let s := (if low = b then (t + n, b) else (t * low + n * b, b * low)); let s' := (if low = b' then (t' + n, b') else (t' * low + n * b', b' * low)); 0 < s.2 ∧ 0 < s'.2 ∧ s.1 * s'.2 = s'.1 * s.2) := by
  dsimp only
  split <;> split
  · rename_i h1 h2
    subst h1
    subst h2
    have : t = t' := Int.eq_of_mul_eq_mul_right (by omega) h
    rw [this]
    exact ⟨hb, hb, rfl⟩
  · rename_i h1 h2
    subst h1
    refine ⟨hb, Int.mul_pos hb' hl, ?_⟩
    show (t + n) * (b' * low) = (t' * low + n * b') * low
    grind
  · rename_i h1 h2
    subst h2
    refine ⟨Int.mul_pos hb hl, hb', ?_⟩
    show (t * low + n * b) * low = (t' + n) * (b * low)
    grind
  · refine ⟨Int.mul_pos hb hl, Int.mul_pos hb' hl, ?_⟩
    show (t * low + n * b) * (b' * low) = (t' * low + n * b') * (b * low)
    grind
theorem skip_eq {t b t' b' low : Int} (hb : 0 < b) (hb' : 0 < b') (hl : 0 < low) (h : t * b' = t' * b) : (let s := (if low = b then (t + 0, b) else (t * low + 0 * b, b * low)); 0 < s.2 ∧ s.1 * b' = t' * s.2) := by
  dsimp only
  split
  · exact ⟨hb, by rw [Int.add_zero]; exact h⟩
  · refine ⟨Int.mul_pos hb hl, ?_⟩
    show (t * low + 0 * b) * b' = t' * (b * low)
    rw [Int.zero_mul, Int.add_zero, ← Int.mul_assoc, ← h, Int.mul_right_comm]
theorem dot_sum : ∀ (l : List (D × D)) (s s' : Int × Int), (∀ q ∈ l, isRatD q.1 = true ∧ isRatD q.2 = true) → 0 < s.2 → 0 < s'.2 → s.1 * s'.2 = s'.1 * s.2 →
    0 < (dotT l s).2 ∧ 0 < (sumT l s').2 ∧ (dotT l s).1 * (sumT l s').2 = (sumT l s').1 * (dotT l s).2
  | [], s, s', _, h1, h2, h3 => ⟨h1, h2, h3⟩
  | (x, y) :: l, (t, b), (t', b'), hl, h1, h2, h3 => by
    have hq := hl (x, y) List.mem_cons_self
    have low : 0 < botD x * botD y := Int.mul_pos (botD_pos hq.1) (botD_pos hq.2)
    unfold dotT sumT
    by_cases hz : topD x = 0 ∨ topD y = 0
    · rw [if_pos hz]
      have e : topD x * topD y = 0 := by rcases hz with h | h <;> rw [h] <;> simp
      have k := skip_eq h1 h2 low h3
      dsimp only at k ⊢
      rw [e]
      exact dot_sum l _ (t', b') (fun q hq => hl q (List.mem_cons_of_mem _ hq)) k.1 h2 k.2
    · rw [if_neg hz]
      have k := step_eq (n := topD x * topD y) h1 h2 low h3
      dsimp only at k ⊢
      exact dot_sum l _ _ (fun q hq => hl q (List.mem_cons_of_mem _ hq)) k.1 k.2.1 k.2.2
/-- how great they may become -/
theorem step_big {k : Nat} {t b n low : Int} (ht : -big (9 * k + 1) < t ∧ t < big (9 * k + 1)) (hb : 0 < b ∧ b < big (9 * k + 1)) (hn : -big 8 < n ∧ n < big 8) (hl : 0 < low ∧ low < big 8) :
    (let s := (if low = b then (t + n, b) else (t * low + n * b, b * low)); (-big (9 * (k + 1) + 1) < s.1 ∧ s.1 < big (9 * (k + 1) + 1)) ∧ 0 < s.2 ∧ s.2 < big (9 * (k + 1) + 1)) := by
  have e1 : big (9 * (k + 1) + 1) = big (9 * k + 1 + 8) * 10 := big_succ (9 * k + 1 + 8)
  have e2 : big (9 * k + 1) ≤ big (9 * k + 1 + 8) := big_le (by omega)
  have e3 : big 8 ≤ big (9 * k + 1 + 8) := big_le (by omega)
  have p0 := big_pos (9 * k + 1)
  have p8 := big_pos 8
  dsimp only
  split
  · exact ⟨⟨by show _ < t + n; omega, by show t + n < _; omega⟩, hb.1, by show b < _; omega⟩
  · have m1 := mul_lt_big ht.1 ht.2 (show -big 8 < low by omega) hl.2
    have m2 := mul_lt_big hn.1 hn.2 (show -big (9 * k + 1) < b by omega) hb.2
    have m3 := mul_lt_big (show -big (9 * k + 1) < b by omega) hb.2 (show -big 8 < low by omega) hl.2
    rw [Nat.add_comm 8] at m2
    exact ⟨⟨by show _ < t * low + n * b; omega, by show t * low + n * b < _; omega⟩, Int.mul_pos hb.1 hl.1, by show b * low < _; omega⟩
theorem prod_big {x y : D} (hx : numB (big 4) x = true) (hy : numB (big 4) y = true) : (-big 8 < topD x * topD y ∧ topD x * topD y < big 8) ∧ 0 < botD x * botD y ∧ botD x * botD y < big 8 := by
  have := times_parts (p := 4) (q := 4) (by omega) (by omega) hx hy
  exact ⟨⟨this.1, this.2.1⟩, this.2.2⟩
theorem run_law_dot (n : Nat) (l : List (D × D)) (hl : l.length ≤ 8) (hr : ∀ q ∈ l, isRatD q.1 = true ∧ isRatD q.2 = true ∧ numB (big 4) q.1 = true ∧ numB (big 4) q.2 = true) (Q : R → En → Prop) (h : ∀ G, Q (.d (lowD (dotT l (0, 1)).1 (dotT l (0, 1)).2)) G) :
    ∃ r G, Rf.run cx prg (n + 3) "_law_dot" [.fr (.tup (l.map (·.1))), .fr (.tup (l.map (·.2)))] = some (r, G) ∧ Q r G := by
  have hz : zipA (.tup (l.map (·.1))) (.tup (l.map (·.2))) = some (l.map fun q => .tup [q.1, q.2]) := by
    show some (((l.map (·.1)).zip (l.map (·.2))).map fun p => D.tup [p.1, p.2]) = _
    rw [List.zip_map', List.map_map]
    rfl
  refine run_of lk__law_dot rfl ?_
  unfold d__law_dot; get_elem_tactic_extensible
  refine W1_for (α := D × D) (enc := fun q => .tup [q.1, q.2]) (fun left Γ => ∃ (t b : Int) (k : Nat) (s4 s5 s6 s7 s8 : Option Sl), left.length + k = l.length ∧ (∀ q ∈ left, q ∈ l) ∧ dotT l (0, 1) = dotT left (t, b) ∧ (-big (9 * k + 1) < t ∧ t < big (9 * k + 1)) ∧ (0 < b ∧ b < big (9 * k + 1)) ∧
    ownS s4 = true ∧ ownS s5 = true ∧ ownS s6 = true ∧ ownS s7 = true ∧ ownS s8 = true ∧ Γ = [some (.fr (.tup (l.map (·.1)))), some (.fr (.tup (l.map (·.2)))), some (.fr (.int t)), some (.fr (.int b)), s4, s5, s6, s7, s8]) (WI_zip (WV_fr rfl (WV_fr rfl ?_)))
  refine ⟨_, hz, l, rfl, ⟨0, 1, 0, none, none, none, none, none, by omega, fun q hq => hq, rfl, ⟨by have := big_pos 1; show -big 1 < 0; omega, big_pos 1⟩, ⟨by decide, by rw [big_def]; decide⟩, rfl, rfl, rfl, rfl, rfl, rfl⟩, ?_, ?_⟩
  · rintro ⟨x, y⟩ left Γ ⟨t, b, k, s4, s5, s6, s7, s8, hk, hm, he, ht, hb, o4, o5, o6, o7, o8, rfl⟩
    rw [List.length_cons] at hk
    obtain ⟨rx, ry, nx, ny⟩ := hr (x, y) (hm _ List.mem_cons_self)
    have sx := num_smalls (by omega) (by omega) nx
    have sy := num_smalls (by omega) (by omega) ny
    have pb := prod_big nx ny
    have stp := step_big ht hb pb.1 pb.2
    have sp : ∀ {i : Int}, -big (9 * k + 1) < i → i < big (9 * k + 1) → small i = true := fun h1 h2 => small_big (by omega) h1 h2
    have s8p : ∀ {i : Int}, 0 < i → i < big 8 → small i = true := fun h1 h2 => small_big (n := 8) (by omega) (by have := big_pos 8; omega) h2
    have spp : ∀ {i : Int}, 0 < i → i < big (9 * k + 1) → small i = true := fun h1 h2 => small_big (by omega) (by have := big_pos (9 * k + 1); omega) h2
    have s8' : ∀ {i : Int}, -big 8 < i → i < big 8 → small i = true := fun h1 h2 => small_big (n := 8) (by omega) h1 h2
    refine asg_tup ?_
    get_elem_tactic_extensible
    refine run_law_pairG _ x (rat_shape rx) _ fun G => ?_
    array_mem_dec
    refine run_law_pairG _ y (rat_shape ry) _ fun G => ?_
    get_elem_tactic_extensible
    refine bin_mul sx.2 sy.2 ?_
    get_elem_tactic_extensible
    · rename_i z
      have z : botD x * botD y = b := z
      refine bin_mul sx.1 sy.1 ?_
      get_elem_tactic_extensible
      dsimp only at stp
      rw [if_pos z] at stp
      refine ⟨_, _, k + 1, _, _, _, _, _, by omega, fun q hq => hm q (List.mem_cons_of_mem _ hq), ?_, stp.1, stp.2, ?_, ?_, ?_, ?_, ?_, rfl⟩
      · rw [he]
        show dotT left _ = _
        dsimp only
        rw [if_pos z]
      all_goals rfl
    · rename_i z
      have z : ¬ botD x * botD y = b := z
      refine bin_mul (sp ht.1 ht.2) (s8p pb.2.1 pb.2.2) ?_
      get_elem_tactic_extensible
      refine bin_mul sx.1 sy.1 ?_
      get_elem_tactic_extensible
      refine bin_mul (s8' pb.1.1 pb.1.2) (spp hb.1 hb.2) ?_
      get_elem_tactic_extensible
      refine bin_mul (spp hb.1 hb.2) (s8p pb.2.1 pb.2.2) ?_
      get_elem_tactic_extensible
      dsimp only at stp
      rw [if_neg z] at stp
      refine ⟨_, _, k + 1, _, _, _, _, _, by omega, fun q hq => hm q (List.mem_cons_of_mem _ hq), ?_, stp.1, stp.2, ?_, ?_, ?_, ?_, ?_, rfl⟩
      · rw [he]
        show dotT left _ = _
        dsimp only
        rw [if_neg z]
      all_goals rfl
  · rintro Γ ⟨t, b, k, s4, s5, s6, s7, s8, hk, hm, he, ht, hb, o4, o5, o6, o7, o8, rfl⟩
    have he : dotT l (0, 1) = (t, b) := he
    rw [he] at h
    get_elem_tactic_extensible
    exact run_law_lowE n (9 * k + 1) (by simp at hk; omega) t b ht.1 ht.2 hb.1 hb.2 _ fun G => h _
theorem run_summed (n : Nat) (l : List (D × D)) (hl : l.length ≤ 8) (hr : ∀ q ∈ l, isRatD q.1 = true ∧ isRatD q.2 = true ∧ numB (big 4) q.1 = true ∧ numB (big 4) q.2 = true) (A B : D) (hz : zipA A B = some (l.map fun q => .tup [q.1, q.2])) (Q : R → En → Prop) (h : ∀ G, Q (.d (lowD (sumT l (0, 1)).1 (sumT l (0, 1)).2)) G) :
    ∃ r G, Rf.run cx prg (n + 3) "summed" [.fr A, .fr B] = some (r, G) ∧ Q r G := by
  refine run_of lk_summed rfl ?_
  unfold d_summed; get_elem_tactic_extensible
  refine W1_for (α := D × D) (enc := fun q => .tup [q.1, q.2]) (fun left Γ => ∃ (t b : Int) (k : Nat) (s4 s5 s6 s7 s8 s9 : Option Sl), left.length + k = l.length ∧ (∀ q ∈ left, q ∈ l) ∧ sumT l (0, 1) = sumT left (t, b) ∧ (-big (9 * k + 1) < t ∧ t < big (9 * k + 1)) ∧ (0 < b ∧ b < big (9 * k + 1)) ∧
    ownS s4 = true ∧ ownS s5 = true ∧ ownS s6 = true ∧ ownS s7 = true ∧ ownS s8 = true ∧ ownS s9 = true ∧ Γ = [some (.fr A), some (.fr B), some (.fr (.int t)), some (.fr (.int b)), s4, s5, s6, s7, s8, s9]) (WI_zip (WV_fr rfl (WV_fr rfl ?_)))
  refine ⟨_, hz, l, rfl, ⟨0, 1, 0, none, none, none, none, none, none, by omega, fun q hq => hq, rfl, ⟨by have := big_pos 1; show -big 1 < 0; omega, big_pos 1⟩, ⟨by decide, by rw [big_def]; decide⟩, rfl, rfl, rfl, rfl, rfl, rfl, rfl⟩, ?_, ?_⟩
  · rintro ⟨x, y⟩ left Γ ⟨t, b, k, s4, s5, s6, s7, s8, s9, hk, hm, he, ht, hb, o4, o5, o6, o7, o8, o9, rfl⟩
    rw [List.length_cons] at hk
    obtain ⟨rx, ry, nx, ny⟩ := hr (x, y) (hm _ List.mem_cons_self)
    have sx := num_smalls (by omega) (by omega) nx
    have sy := num_smalls (by omega) (by omega) ny
    have pb := prod_big nx ny
    have stp := step_big ht hb pb.1 pb.2
    have sp : ∀ {i : Int}, -big (9 * k + 1) < i → i < big (9 * k + 1) → small i = true := fun h1 h2 => small_big (by omega) h1 h2
    have s8p : ∀ {i : Int}, 0 < i → i < big 8 → small i = true := fun h1 h2 => small_big (n := 8) (by omega) (by have := big_pos 8; omega) h2
    have spp : ∀ {i : Int}, 0 < i → i < big (9 * k + 1) → small i = true := fun h1 h2 => small_big (by omega) (by have := big_pos (9 * k + 1); omega) h2
    have s8' : ∀ {i : Int}, -big 8 < i → i < big 8 → small i = true := fun h1 h2 => small_big (n := 8) (by omega) h1 h2
    have grow : big (9 * k + 1) ≤ big (9 * (k + 1) + 1) := big_le (by omega)
    have skip : (topD x = 0 ∨ topD y = 0) → sumT l (0, 1) = sumT left (t, b) := fun hz => by
      rw [he]
      show sumT left _ = _
      rw [if_pos hz]
    refine asg_tup ?_
    get_elem_tactic_extensible
    refine ⟨_, eq_zeroD rx, ?_⟩
    by_cases z1 : topD x = 0
    · rw [decide_eq_true z1]
      get_elem_tactic_extensible
      exact ⟨t, b, k + 1, _, _, s6, s7, s8, s9, by omega, fun q hq => hm q (List.mem_cons_of_mem _ hq), skip (.inl z1), ⟨by omega, by omega⟩, ⟨hb.1, by omega⟩, rfl, rfl, o6, o7, o8, o9, rfl⟩
    · rw [decide_eq_false z1]
      get_elem_tactic_extensible
      refine ⟨_, eq_zeroD ry, ?_⟩
      by_cases z2 : topD y = 0
      · rw [decide_eq_true z2]
        get_elem_tactic_extensible
        exact ⟨t, b, k + 1, _, _, s6, s7, s8, s9, by omega, fun q hq => hm q (List.mem_cons_of_mem _ hq), skip (.inr z2), ⟨by omega, by omega⟩, ⟨hb.1, by omega⟩, rfl, rfl, o6, o7, o8, o9, rfl⟩
      · rw [decide_eq_false z2]
        have nz : ¬ (topD x = 0 ∨ topD y = 0) := fun z => z.elim z1 z2
        get_elem_tactic_extensible
        refine run_pairG _ x rx _ fun G => ?_
        array_mem_dec
        refine run_pairG _ y ry _ fun G => ?_
        get_elem_tactic_extensible
        refine bin_mul sx.2 sy.2 ?_
        get_elem_tactic_extensible
        · rename_i z
          have z : botD x * botD y = b := z
          refine bin_mul sx.1 sy.1 ?_
          get_elem_tactic_extensible
          dsimp only at stp
          rw [if_pos z] at stp
          refine ⟨_, _, k + 1, _, _, _, _, _, _, by omega, fun q hq => hm q (List.mem_cons_of_mem _ hq), ?_, stp.1, stp.2, ?_, ?_, ?_, ?_, ?_, ?_, rfl⟩
          · rw [he]
            show sumT left _ = _
            dsimp only
            rw [if_neg nz, if_pos z]
          all_goals rfl
        · rename_i z
          have z : ¬ botD x * botD y = b := z
          refine bin_mul (sp ht.1 ht.2) (s8p pb.2.1 pb.2.2) ?_
          get_elem_tactic_extensible
          refine bin_mul sx.1 sy.1 ?_
          get_elem_tactic_extensible
          refine bin_mul (s8' pb.1.1 pb.1.2) (spp hb.1 hb.2) ?_
          get_elem_tactic_extensible
          refine bin_mul (spp hb.1 hb.2) (s8p pb.2.1 pb.2.2) ?_
          get_elem_tactic_extensible
          dsimp only at stp
          rw [if_neg z] at stp
          refine ⟨_, _, k + 1, _, _, _, _, _, _, by omega, fun q hq => hm q (List.mem_cons_of_mem _ hq), ?_, stp.1, stp.2, ?_, ?_, ?_, ?_, ?_, ?_, rfl⟩
          · rw [he]
            show sumT left _ = _
            dsimp only
            rw [if_neg nz, if_neg z]
          all_goals rfl
  · rintro Γ ⟨t, b, k, s4, s5, s6, s7, s8, s9, hk, hm, he, ht, hb, o4, o5, o6, o7, o8, o9, rfl⟩
    have he : sumT l (0, 1) = (t, b) := he
    rw [he] at h
    get_elem_tactic_extensible
    exact run_in_lowest n (9 * k + 1) (by simp at hk; omega) t b ht.1 ht.2 hb.1 hb.2 _ fun G => h _



/-! ### rows of any data -/
def rowOk : D → Bool
  | .tup ds => ds.all isRatD
  | .lst ds => ds.all isRatD
  | _ => false
def itemsD : D → List D
  | .tup ds => ds
  | .lst ds => ds
  | _ => []
theorem WI.mono {cx : CtxR} {Φ : Phi} {it : Rf.It} {Γ : En} {Q Q' : Option Nat × List D → En → Prop} (h : WI cx Φ it Γ Q) (k : ∀ a Γ', Q a Γ' → Q' a Γ') : WI cx Φ it Γ Q' := by
  simp only [WI, wI] at *
  exact WP.mono h k
theorem row_cases {p : Nat} {v : D} (h : plB (big p) 2 v = true) : (isSeq v = false ∧ rowOk v = false) ∨ (isSeq v = true ∧ ∃ ds, (v = .tup ds ∨ v = .lst ds) ∧ ds.length ≤ 1000 ∧ ∀ d ∈ ds, plB (big p) 1 d = true) := by
  cases v with
  | tup ds =>
    obtain ⟨m, e, hl, hm⟩ := of_plB_tup h
    obtain rfl : m = 1 := by omega
    exact .inr ⟨rfl, ds, .inl rfl, hl, hm⟩
  | lst ds =>
    obtain ⟨m, e, hl, hm⟩ := of_plB_lst h
    obtain rfl : m = 1 := by omega
    exact .inr ⟨rfl, ds, .inr rfl, hl, hm⟩
  | _ => exact .inl ⟨rfl, rfl⟩
theorem ws_dot (n p : Nat) (A B : D) (hA : plB (big p) 2 A = true) (hB : plB (big p) 2 B = true) (N : En → Prop) (Z : R → En → Prop) (Y : Xc → Prop) (h1 : rowOk A = false → Y (badR "row" A)) (h2 : rowOk A = true → rowOk B = false → Y (badR "other" B))
    (h3 : rowOk A = true → rowOk B = true → (itemsD A).length ≠ (itemsD B).length → Y (unl "other")) (h4 : rowOk A = true → rowOk B = true → (itemsD A).length = (itemsD B).length → ∃ r G, Rf.run cx prg (n + 3) "summed" [.fr A, .fr B] = some (r, G) ∧ ∀ G', Z r G') :
    WS cx (Rf.run cx prg (n + 3)) d_dot.body [some (.fr A), some (.fr B), none] ⟨N, Z, fun _ => False, fun _ => False, Y⟩ := by
  have vA := plB_vis hA
  have vB := plB_vis hB
  unfold d_dot
  get_elem_tactic_extensible
  refine ⟨_, isi_seq _ vA, ?_⟩
  rcases row_cases hA with ⟨a1, a2⟩ | ⟨a1, dA, a2, al, am⟩
  · rw [a1]
    array_mem_dec
    exact h1 a2
  · rw [a1]
    array_mem_dec
    have go : WI cx (Rf.run cx prg (n + 3)) (.val (.var 0)) [some (.fr A), some (.fr B), none] fun q Γ1 => q = (some 0, dA) ∧ Γ1 = [some (.fr A), some (.fr B), none] := by
      rcases a2 with rfl | rfl
      · exact WI_var rfl rfl rfl ⟨rfl, rfl⟩
      · exact WI_var rfl rfl rfl ⟨rfl, rfl⟩
    refine WE_comp (α := D) (enc := id) (fun _ => true) (fun d => .bl (isRatD d)) (WI.mono go ?_)
    rintro q Γ1 ⟨rfl, rfl⟩
    refine ⟨dA, (List.map_id dA).symm, rfl, by omega, fun y hy => ?_, ?_⟩
    · refine ⟨_, rfl, WT_none ⟨rfl, rfl⟩, fun _ => ?_, rfl⟩
      get_elem_tactic_extensible
      refine run_is_ratioG (n + 1) 1 _ y (am y hy) _ fun G => ?_
      exact ⟨rfl, rfl⟩
    · array_mem_dec
      rw [filt_true]
      refine ⟨_, bAll_map isRatD dA, ?_⟩
      have e2 : rowOk A = dA.all isRatD := by rcases a2 with rfl | rfl <;> rfl
      have lA : itemsD A = dA := by rcases a2 with rfl | rfl <;> rfl
      have bA : bltD .len [A] = some (.d (.int dA.length)) := by rcases a2 with rfl | rfl <;> rfl
      rw [← e2]
      cases rA : rowOk A with
      | false =>
        array_mem_dec
        exact h1 rA
      | true =>
        array_mem_dec
        refine ⟨_, isi_seq _ vB, ?_⟩
        rcases row_cases hB with ⟨b1, b2⟩ | ⟨b1, ds, b2, bl, bm⟩
        · rw [b1]
          array_mem_dec
          exact h2 rA b2
        · rw [b1]
          array_mem_dec
          have go : WI cx (Rf.run cx prg (n + 3)) (.val (.var 1)) [some (.fr A), some (.fr B), none] fun q Γ1 => q = (some 1, ds) ∧ Γ1 = [some (.fr A), some (.fr B), none] := by
            rcases b2 with rfl | rfl
            · exact WI_var rfl rfl rfl ⟨rfl, rfl⟩
            · exact WI_var rfl rfl rfl ⟨rfl, rfl⟩
          refine WE_comp (α := D) (enc := id) (fun _ => true) (fun d => .bl (isRatD d)) (WI.mono go ?_)
          rintro q Γ1 ⟨rfl, rfl⟩
          refine ⟨ds, (List.map_id ds).symm, rfl, by omega, fun y hy => ?_, ?_⟩
          · refine ⟨_, rfl, WT_none ⟨rfl, rfl⟩, fun _ => ?_, rfl⟩
            get_elem_tactic_extensible
            refine run_is_ratioG (n + 1) 1 _ y (bm y hy) _ fun G => ?_
            exact ⟨rfl, rfl⟩
          · array_mem_dec
            rw [filt_true]
            refine ⟨_, bAll_map isRatD ds, ?_⟩
            have e2 : rowOk B = ds.all isRatD := by rcases b2 with rfl | rfl <;> rfl
            have e3 : itemsD B = ds := by rcases b2 with rfl | rfl <;> rfl
            have e4 : bltD .len [B] = some (.d (.int ds.length)) := by rcases b2 with rfl | rfl <;> rfl
            rw [← e2]
            cases rB : rowOk B with
            | false =>
              array_mem_dec
              exact h2 rA rB
            | true =>
              array_mem_dec
              refine ⟨_, bA, ?_⟩
              array_mem_dec
              refine ⟨_, e4, ?_⟩
              array_mem_dec
              · rename_i z
                exact h3 rA rB (by rw [lA, e3]; intro e; exact z (by show (dA.length : Int) = ds.length; rw [e]))
              · rename_i z
                have z : (dA.length : Int) = ds.length := by simpa [D.eqv] using z
                obtain ⟨r, G, e5, z⟩ := h4 rA rB (by rw [lA, e3]; omega)
                exact ⟨r, G, e5, z _⟩
theorem pl_num {p k : Nat} {v : D} (hr : isRatD v = true) (h : plB (big p) k v = true) : numB (big p) v = true := by
  rcases rat_cases hr with ⟨i, rfl⟩ | ⟨a, b, rfl, h1, _⟩
  · have := of_plB_int h
    exact num_int this.1 this.2
  · obtain ⟨m, _, _, hm⟩ := of_plB_tup h
    have ha := of_plB_int (hm (.int a) (by simp))
    have hb := of_plB_int (hm (.int b) (by simp))
    exact num_rat ha.1 ha.2 (by omega) hb.2
/-- the sum that is due -/
def dueD (A B : D) : D := lowD (dotT ((itemsD A).zip (itemsD B)) (0, 1)).1 (dotT ((itemsD A).zip (itemsD B)) (0, 1)).2
theorem sum_due {A B : D} (hr : ∀ q ∈ (itemsD A).zip (itemsD B), isRatD q.1 = true ∧ isRatD q.2 = true) : lowD (sumT ((itemsD A).zip (itemsD B)) (0, 1)).1 (sumT ((itemsD A).zip (itemsD B)) (0, 1)).2 = dueD A B := by
  obtain ⟨h1, h2, h3⟩ := dot_sum ((itemsD A).zip (itemsD B)) (0, 1) (0, 1) hr Int.one_pos Int.one_pos rfl
  exact (lowD_eq h1 h2 h3).symm
theorem items_tup (ds : List D) : itemsD (.tup ds) = ds := rfl
/-- dot of two rows that fit -/
theorem run_dotA (n : Nat) (A B : D) (hA : plB (big 4) 2 A = true) (hB : plB (big 4) 2 B = true) (rA : rowOk A = true) (rB : rowOk B = true) (hl : (itemsD A).length = (itemsD B).length) (l8 : (itemsD A).length ≤ 8) (hz : zipA A B = some (((itemsD A).zip (itemsD B)).map fun q => .tup [q.1, q.2])) (Q : R → En → Prop) (h : ∀ G, Q (.d (dueD A B)) G) :
    ∃ r G, Rf.run cx prg (n + 4) "dot" [.fr A, .fr B] = some (r, G) ∧ Q r G := by
  have all : ∀ q ∈ (itemsD A).zip (itemsD B), isRatD q.1 = true ∧ isRatD q.2 = true ∧ numB (big 4) q.1 = true ∧ numB (big 4) q.2 = true := fun q hq => by
    have hq' := List.of_mem_zip (show (q.1, q.2) ∈ (itemsD A).zip (itemsD B) from hq)
    have one : ∀ (V : D), plB (big 4) 2 V = true → rowOk V = true → ∀ v ∈ itemsD V, isRatD v = true ∧ numB (big 4) v = true := fun V hV rV v hv => by
      rcases row_cases hV with ⟨_, z⟩ | ⟨_, ds, e, _, hm⟩
      · rw [rV] at z; cases z
      · have rv : isRatD v = true := by
          rcases e with rfl | rfl
          · exact List.all_eq_true.mp rV v hv
          · exact List.all_eq_true.mp rV v hv
        have hv : v ∈ ds := by
          rcases e with rfl | rfl
          · exact hv
          · exact hv
        exact ⟨rv, pl_num rv (hm v hv)⟩
    exact ⟨(one A hA rA _ hq'.1).1, (one B hB rB _ hq'.2).1, (one A hA rA _ hq'.1).2, (one B hB rB _ hq'.2).2⟩
  refine run_of lk_dot rfl ?_
  refine ws_dot n 4 A B hA hB _ Q (fun _ => False) (fun z => by rw [rA] at z; cases z) (fun _ z => by rw [rB] at z; cases z) (fun _ _ z => z hl) fun _ _ _ => ?_
  refine run_summed n ((itemsD A).zip (itemsD B)) (by rw [List.length_zip]; omega) all A B hz (fun r _ => ∀ G', Q r G') fun _ G' => ?_
  rw [sum_due fun q hq => ⟨(all q hq).1, (all q hq).2.1⟩]
  exact h _
/-- what dot tells of any two -/
theorem fa_dot (n p : Nat) (A B : D) (hA : plB (big p) 2 A = true) (hB : plB (big p) 2 B = true) (Q : R → Prop) (h1 : rowOk A = false → ∃ t, kindD cx (badR "row" A) = some t ∧ Q (.d t)) (h2 : rowOk A = true → rowOk B = false → ∃ t, kindD cx (badR "other" B) = some t ∧ Q (.d t))
    (h3 : rowOk A = true → rowOk B = true → (itemsD A).length ≠ (itemsD B).length → Q (.d (.tup [.str "unlike", .str "other"])))
    (h4 : rowOk A = true → rowOk B = true → (itemsD A).length = (itemsD B).length → (∃ r G, Rf.run cx prg (n + 3) "summed" [.fr A, .fr B] = some (r, G)) ∧ Q (.d .non)) : FaR cx (Rf.run cx prg (n + 4)) "dot" [.fr A, .fr B] Q := by
  by_cases c : rowOk A = true ∧ rowOk B = true ∧ (itemsD A).length = (itemsD B).length
  · obtain ⟨c1, c2, c3⟩ := c
    obtain ⟨⟨r0, G0, e0⟩, q⟩ := h4 c1 c2 c3
    refine .inl ?_
    refine run_of lk_dot rfl (Q := fun _ _ => Q (.d .non)) ?_
    exact ws_dot n p A B hA hB _ (fun _ _ => Q (.d .non)) (fun _ => False) (fun z => by rw [c1] at z; cases z) (fun _ z => by rw [c2] at z; cases z) (fun _ _ z => z c3) fun _ _ _ => ⟨r0, G0, e0, fun _ => q⟩
  · refine .inr (run_ofX lk_dot rfl ?_)
    exact ws_dot n p A B hA hB _ _ (fun c => ∃ t, kindD cx c = some t ∧ Q (.d t)) h1 h2 (fun a b z => ⟨_, kind_unl, h3 a b z⟩) fun a b z => absurd ⟨a, b, z⟩ c
/-- the law's look at a row -/
theorem run_law_is_any (n p : Nat) (hp : p ≤ 1000) (v : D) (hv : plB (big p) 2 v = true) (hs : isSeq v = true) (Q : R → En → Prop) (h : ∀ G, Q (.d (.bl (rowOk v))) G) : ∃ r G, Rf.run cx prg (n + 3) "_law_is_any_row" [.fr v, .fr (natD (itemsD v).length)] = some (r, G) ∧ Q r G := by
  have vv := plB_vis hv
  have isl : ∀ (Q : R → En → Prop), (∀ G, Q (.d (.bl true)) G) → ∃ r G, Rf.run cx prg (n + 2) "_law_is_list" [.fr v] = some (r, G) ∧ Q r G := fun Q h => by
    refine run_of lk__law_is_list rfl ?_
    unfold d__law_is_list; get_elem_tactic_extensible
    refine ⟨_, isi_seq _ vv, ?_⟩
    rw [hs]
    exact h _
  rcases row_cases hv with ⟨z, _⟩ | ⟨_, ds, e, hl, hm⟩
  · rw [hs] at z; cases z
  · have le : itemsD v = ds := by rcases e with rfl | rfl <;> rfl
    have bl : bltD .len [v] = some (.d (.int ds.length)) := by rcases e with rfl | rfl <;> rfl
    have re : rowOk v = ds.all isRatD := by rcases e with rfl | rfl <;> rfl
    rw [re] at h
    rw [le]
    refine run_of lk__law_is_any_row rfl ?_
    unfold d__law_is_any_row; get_elem_tactic_extensible
    refine isl _ fun G => ?_
    array_mem_dec
    refine ⟨_, bl, ?_⟩
    array_mem_dec
    · rename_i z
      exact absurd rfl z
    · have go : WI cx (Rf.run cx prg (n + 2)) (.val (.var 0)) [some (.fr v), some (.fr (natD ds.length)), none] fun q Γ1 => q = (some 0, ds) ∧ Γ1 = [some (.fr v), some (.fr (natD ds.length)), none] := by
        rcases e with rfl | rfl
        · exact WI_var rfl rfl rfl ⟨rfl, rfl⟩
        · exact WI_var rfl rfl rfl ⟨rfl, rfl⟩
      refine WE_comp (α := D) (enc := id) (fun d => !isRatD d) id (WI.mono go ?_)
      rintro q Γ1 ⟨rfl, rfl⟩
      refine ⟨ds, (List.map_id ds).symm, rfl, by omega, fun y hy => ?_, ?_⟩
      · refine ⟨_, rfl, ?_, fun _ => ?_, rfl⟩
        · get_elem_tactic_extensible
          refine run_law_is_ratioG n 1 p hp y (hm y hy) _ fun G => ?_
          array_mem_dec
          rfl
        · get_elem_tactic_extensible
          rfl
      · array_mem_dec
        refine ⟨_, eq_lst_nil _, ?_⟩
        have e2 : ds.all isRatD = decide ((ds.filter fun d => !isRatD d).map id = []) := by
          rw [List.map_id, Bool.eq_iff_iff, decide_eq_true_eq, List.filter_eq_nil_iff, List.all_eq_true]
          simp
        rw [e2] at h
        apply h
theorem run_law_is_list (n : Nat) (v : D) (vv : vis v = true) (Q : R → En → Prop) (h : ∀ G, Q (.d (.bl (isSeq v))) G) : ∃ r G, Rf.run cx prg (n + 1) "_law_is_list" [.fr v] = some (r, G) ∧ Q r G := by
  refine run_of lk__law_is_list rfl ?_
  unfold d__law_is_list; get_elem_tactic_extensible
  refine ⟨_, isi_seq _ vv, ?_⟩
  exact h _
theorem cutL_len (ds : List D) (a b : Option Int) : (cutL ds a b).length ≤ ds.length := by
  unfold cutL
  simp only [List.length_take, List.length_drop]
  omega
theorem cutL_mem {ds : List D} {a b : Option Int} {d : D} (h : d ∈ cutL ds a b) : d ∈ ds := by
  unfold cutL at h
  exact List.mem_of_mem_drop (List.mem_of_mem_take h)
/-! ### a row with one thing wrong -/
def BentOk (d : D) : Prop := plB (big 4) 2 d = true ∧ shB 50 100000 d ∧ (isSeq d = true → ∃ ds, d = .tup ds ∧ ds.length ≤ 8)
theorem el_rat {v : D} (hn : numB (big 4) v = true) : plB (big 4) 1 v = true ∧ shB 49 4000 v := ⟨num_pl hn, sh_rat (n := 48) (by omega) hn⟩
theorem bent_tup {ds : List D} (hl : ds.length ≤ 8) (h : ∀ d ∈ ds, plB (big 4) 1 d = true ∧ shB 49 4000 d) : BentOk (.tup ds) :=
  ⟨plB_tup (by omega) fun d hd => (h d hd).1, sh_up (sh_tup fun d hd => (h d hd).2) (by omega), fun _ => ⟨ds, rfl, hl⟩⟩
theorem odds_el : ∀ d ∈ odds, plB (big 4) 1 d = true ∧ shB 49 4000 d := by
  have h : odds.all (fun d => shC 49 4000 d) = true := by decide +kernel
  intro d hd
  exact ⟨plB_up 1 1 d _ (odds_ok d hd) (Nat.le_refl 1) (big_le (by omega)), shC_ok (List.all_eq_true.mp h d hd)⟩
theorem wp_odd' {n k : Nat} {p : Pen} (h : PenOk k p) (hk : k < 100000000) {Q : R → M → Prop}
    (q : ∀ d ∈ odds, ∀ (p' : Pen), PenOk (k + 1) p' → Q (.d d) p'.toM) : ∃ r m' G, Rf.run cx prg (n + 3) "_law_odd" [.bo p.toM] = some (r, some (.bo m') :: G) ∧ Q r m' := by
  have key : ∃ r G, Rf.run cx prg (n + 3) "_law_odd" [.bo p.toM] = some (r, G) ∧ ∃ m' G', G = some (.bo m') :: G' ∧ Q r m' := by
    refine run_of lk__law_odd rfl ?_
    unfold d__law_odd; get_elem_tactic_extensible
    refine wp_pick (ds := odds) h hk (by decide) (by decide) (fun d hd p' hp' => ?_) _ (.inl rfl)
    exact ⟨_, _, rfl, q d hd p' hp'⟩
  obtain ⟨r, G, e, m', G', rfl, q⟩ := key
  exact ⟨r, m', G', e, q⟩
theorem wp_bent {n k m : Nat} {p : Pen} (h : PenOk k p) (hk : k < 8000000) (hm : m ≤ 6) {fs : List D} (hf : RowR m fs) {Q : R → M → Prop}
    (q : ∀ d, BentOk d → ∀ (p' : Pen), PenOk (k + 5) p' → Q (.d d) p'.toM) : ∃ r m' G, Rf.run cx prg (n + 4) "_law_bent_row" [.bo p.toM, .fr (.tup fs)] = some (r, some (.bo m') :: G) ∧ Q r m' := by
  have hl : fs.length ≤ 6 := by rw [hf.1]; exact hm
  have el : ∀ v ∈ fs, plB (big 4) 1 v = true ∧ shB 49 4000 v := fun v hv => el_rat (hf.2 v hv).2
  have b4 : (2000 : Int) < big 4 := by rw [big_def]; decide
  have others : ∀ (Q' : R → En → Prop) (k2 : Nat) (p2 : Pen), True := fun _ _ _ => trivial
  have oth : ∀ d ∈ ([.non, .int 3, .str "row", .bl true, .dct [] []] : List D), BentOk d := by
    have e : ([.non, .int 3, .str "row", .bl true, .dct [] []] : List D).all (fun d => plB 10 2 d && shC 50 100000 d && !isSeq d) = true := by decide +kernel
    intro d hd
    have z := List.all_eq_true.mp e d hd
    simp only [Bool.and_eq_true, Bool.not_eq_true'] at z
    exact ⟨plB_up 2 2 d _ z.1.1 (Nat.le_refl 2) (by omega), shC_ok z.1.2, fun w => by rw [w] at z; cases z.2⟩
  have key : ∃ r G, Rf.run cx prg (n + 4) "_law_bent_row" [.bo p.toM, .fr (.tup fs)] = some (r, G) ∧ ∃ m' G', G = some (.bo m') :: G' ∧ Q r m' := by
    refine run_of lk__law_bent_row rfl ?_
    unfold d__law_bent_row; get_elem_tactic_extensible
    refine wp_draw (many := 4) lk__law_draw h (by omega) (by omega) (by omega) fun way p1 hw hp1 => ?_
    get_elem_tactic_extensible
    all_goals first
      | exact ⟨_, _, rfl, q _ (bent_tup (Nat.le_trans (cutL_len _ _ _) (by omega)) fun d hd => el d (cutL_mem hd)) p1 (hp1.up (by omega))⟩
      | (refine wp_draw (many := 3) lk__law_draw hp1 (by omega) (by omega) (by omega) fun a p2 ha hp2 => ?_
         get_elem_tactic_extensible
         refine bin_addT (by simp; omega) ?_
         refine ⟨_, _, rfl, q _ (bent_tup (by simp; omega) fun d hd => ?_) p2 (hp2.up (by omega))⟩
         rcases List.mem_append.mp hd with hd | hd
         · exact el d hd
         · rw [List.mem_singleton] at hd
           subst hd
           exact el_rat (num_int (i := (a : Int)) (by omega) (by omega)))
      | (refine wp_pick (ds := [.non, .int 3, .str "row", .bl true, .dct [] []]) hp1 (by omega) (by decide) (by decide) (fun d hd p2 hp2 => ?_) _ (.inl rfl)
         exact ⟨_, _, rfl, q d (oth d hd) p2 (hp2.up (by omega))⟩)
      | (refine wp_draw (many := fs.length) lk__law_draw hp1 (by omega) (by omega) (by omega) fun a p2 ha hp2 => ?_
         get_elem_tactic_extensible
         rw [cutL_take (a := a) rfl (by omega)]
         refine wp_odd' hp2 (by omega) fun o ho p3 hp3 => ?_
         get_elem_tactic_extensible
         refine bin_addT (by simp; omega) ?_
         array_mem_dec
         rw [cutL_drop (i := (a : Int) + 1) (a := a + 1) rfl (by omega)]
         refine bin_addT (by simp; omega) ?_
         refine ⟨_, _, rfl, q _ (bent_tup (by simp; omega) fun d hd => ?_) p3 (hp3.up (by omega))⟩
         rcases List.mem_append.mp hd with hd | hd
         · rcases List.mem_append.mp hd with hd | hd
           · exact el d (List.mem_of_mem_take hd)
           · rw [List.mem_singleton] at hd
             subst hd
             exact odds_el _ ho
         · exact el d (List.mem_of_mem_drop hd))
  obtain ⟨r, G, e, m', G', rfl, q⟩ := key
  exact ⟨r, m', G', e, q⟩



/-! ### ratios made -/
def oddsT : List D := [.non, .bl true, .str "1", .tup [.int 1, .int 2], .lst [.int 1]]
def oddsB : List D := [.int 0, .non, .bl false, .tup [.int 1, .int 2]]
def bys : List D := [.int 1, .int (-1), .int 2, .int (-6), .int 100000000000000000000]
theorem big25 : (100000000000000000000000 : Int) < big 25 := by rw [big_def]; decide
theorem wp_made {n k : Nat} {p : Pen} (h : PenOk k p) (hk : k < 7000000) {Q : R → M → Prop}
    (q : ∀ (p' : Pen), PenOk (k + 40) p' → Q (.d (.bl true)) p'.toM) : ∃ r m' G, Rf.run cx prg (n + 6) "_law_made_right" [.bo p.toM] = some (r, some (.bo m') :: G) ∧ Q r m' := by
  have key : ∃ r G, Rf.run cx prg (n + 6) "_law_made_right" [.bo p.toM] = some (r, G) ∧ ∃ m' G', G = some (.bo m') :: G' ∧ Q r m' := by
    have b25 := big25
    refine run_of lk__law_made_right rfl ?_
    unfold d__law_made_right; get_elem_tactic_extensible
    refine wp_pick (ds := bys) h (by omega) (by decide) (by decide) (fun d hd p1 hp1 => ?_) _ (.inl rfl)
    have hby : ∃ c : Int, d = .int c ∧ c ≠ 0 ∧ -100000000000000000000 ≤ c ∧ c ≤ 100000000000000000000 := by
      simp only [bys, List.mem_cons, List.not_mem_nil, or_false] at hd
      rcases hd with rfl | rfl | rfl | rfl | rfl <;> exact ⟨_, rfl, by decide, by decide, by decide⟩
    obtain ⟨c, rfl, c0, c1, c2⟩ := hby
    get_elem_tactic_extensible
    refine wp_draw (many := 999) lk__law_draw hp1 (by omega) (by omega) (by omega) fun a p2 ha hp2 => ?_
    get_elem_tactic_extensible
    refine wp_draw (many := 99) lk__law_draw hp2 (by omega) (by omega) (by omega) fun b p3 hb hp3 => ?_
    get_elem_tactic_extensible
    generalize ht : (a : Int) - 499 = t
    generalize hbb : (1 : Int) + (b : Int) = bb
    have t1 : -500 < t ∧ t < 500 := by omega
    have bb1 : 0 < bb ∧ bb < 100 := by omega
    have sc : small c = true := small_big (n := 25) (by omega) (by omega) (by omega)
    have st : small t = true := small_big (n := 25) (by omega) (by omega) (by omega)
    have sb : small bb = true := small_big (n := 25) (by omega) (by omega) (by omega)
    have m1 : -big 25 < t * c ∧ t * c < big 25 := by
      have x1 := mul_lt_big (a := 3) (b := 21) (i := t) (j := c) (by rw [big_def]; omega) (by rw [big_def]; omega) (by rw [big_def]; omega) (by rw [big_def]; omega)
      have := big_le (a := 3 + 21) (b := 25) (by omega)
      omega
    have m2 : -big 25 < bb * c ∧ bb * c < big 25 := by
      have x1 := mul_lt_big (a := 3) (b := 21) (i := bb) (j := c) (by rw [big_def]; omega) (by rw [big_def]; omega) (by rw [big_def]; omega) (by rw [big_def]; omega)
      have := big_le (a := 3 + 21) (b := 25) (by omega)
      omega
    have bc : bb * c ≠ 0 := Int.mul_ne_zero (by omega) c0
    have lo := lowD_ok (p := 25) (t := t) (b := bb) (by omega) (by omega) bb1.1 (by omega)
    refine bin_mul st sc ?_
    get_elem_tactic_extensible
    refine bin_mul sb sc ?_
    get_elem_tactic_extensible
    refine run_ratio (n + 2) 25 (by omega) _ _ m1.1 m1.2 bc m2.1 m2.2 _ fun G => ?_
    get_elem_tactic_extensible
    refine run_law_lowE (n + 3) 25 (by omega) t bb (by omega) (by omega) bb1.1 (by omega) _ fun G => ?_
    get_elem_tactic_extensible
    rw [lowZ_mul bb1.1 c0]
    refine run_law_isR (n + 3) _ lo.1 _ fun G => ?_
    get_elem_tactic_extensible
    refine run_law_lowE (n + 3) 25 (by omega) t bb (by omega) (by omega) bb1.1 (by omega) _ fun G => ?_
    get_elem_tactic_extensible
    refine run_is_ratioG (n + 3) 1 (big 25) _ (num_pl lo.2) _ fun G => ?_
    rw [lo.1]
    get_elem_tactic_extensible
    refine wp_odd' hp3 (by omega) fun o ho p4 hp4 => ?_
    get_elem_tactic_extensible
    refine wp_number3 (n := n + 2) hp4 (by omega) fun v hv1 hv2 p5 hp5 => ?_
    get_elem_tactic_extensible
    refine bin_mul st sc ?_
    get_elem_tactic_extensible
    refine bin_mul sb sc ?_
    get_elem_tactic_extensible
    refine wp_pick (ds := [o, v, .tup [.int (t * c), .int (bb * c)], .lst [.int t, .int bb], .int t]) hp5 (by omega) (by simp) (by simp) (fun d hd p6 hp6 => ?_) _ (.inl rfl)
    have b41 := big_le (a := 25) (b := 41) (by omega)
    have pd : plB (big 41) 1 d = true := by
      simp only [List.mem_cons, List.not_mem_nil, or_false] at hd
      rcases hd with rfl | rfl | rfl | rfl | rfl
      · exact plB_up 1 1 _ _ (odds_ok _ ho) (Nat.le_refl 1) (big_le (by omega))
      · exact num_pl hv2
      · refine plB_tup (by simp) fun x hx => ?_
        simp only [List.mem_cons, List.not_mem_nil, or_false] at hx
        rcases hx with rfl | rfl <;> exact plB_int (by omega) (by omega)
      · refine plB_lst (by simp) fun x hx => ?_
        simp only [List.mem_cons, List.not_mem_nil, or_false] at hx
        rcases hx with rfl | rfl <;> exact plB_int (by omega) (by omega)
      · exact plB_int (by omega) (by omega)
    get_elem_tactic_extensible
    refine run_is_ratioG (n + 3) 1 (big 41) _ pd _ fun G => ?_
    get_elem_tactic_extensible
    refine run_law_is_ratioG (n + 3) 1 41 (by omega) _ pd _ fun G => ?_
    get_elem_tactic_extensible
    refine run_law_says (n + 4) _ _ fun G => ?_
    get_elem_tactic_extensible
    refine wp_pick (ds := oddsT) hp6 (by omega) (by decide) (by decide) (fun o1 ho1 p7 hp7 => ?_) _ (.inl rfl)
    have e1 : oddsT.all (fun d => vis d && !isIntD d && shC 50 4000 d) = true := by decide +kernel
    have z1 := List.all_eq_true.mp e1 o1 ho1
    simp only [Bool.and_eq_true, Bool.not_eq_true'] at z1
    obtain ⟨s1, hs1, hk1⟩ := sh_repr (shC_ok z1.2) (by omega)
    get_elem_tactic_extensible
    refine .inr (rx_ratio1 (n + 3) o1 _ z1.1.1 z1.1.2 _ ⟨_, kind_badN hs1, ?_⟩)
    array_mem_dec
    refine ⟨_, hs1, ?_⟩
    array_mem_dec
    refine ⟨_, ne_told hk1, ?_⟩
    get_elem_tactic_extensible
    refine wp_pick (ds := oddsB) hp7 (by omega) (by decide) (by decide) (fun o2 ho2 p8 hp8 => ?_) _ (.inl rfl)
    have e2 : oddsB.all (fun d => vis d && (!isIntD d || decide (topD d = 0 ∧ isIntD d = true)) && shC 50 4000 d) = true := by decide +kernel
    have z2 := List.all_eq_true.mp e2 o2 ho2
    simp only [Bool.and_eq_true, Bool.or_eq_true, Bool.not_eq_true', decide_eq_true_eq] at z2
    obtain ⟨s2, hs2, hk2⟩ := sh_repr (shC_ok z2.2) (by omega)
    have i2 : isIntD o2 = false ∨ o2 = .int 0 := by
      rcases z2.1.2 with z | ⟨z, zi⟩
      · exact .inl z
      · obtain ⟨i, rfl⟩ := isIntD_of zi
        have z : i = 0 := z
        rw [z]
        exact .inr rfl
    get_elem_tactic_extensible
    refine .inr (rx_ratio2 (n + 3) t o2 z2.1.1 i2 _ ⟨_, kind_badN hs2, ?_⟩)
    array_mem_dec
    refine ⟨_, hs2, ?_⟩
    array_mem_dec
    refine ⟨_, eq_told hk2, ?_⟩
    exact ⟨_, _, rfl, q p8 (hp8.up (by omega))⟩
  obtain ⟨r, G, e, m', G', rfl, q⟩ := key
  exact ⟨r, m', G', e, q⟩
theorem repr0 : reprD (.int 0) = some "0" := by decide +kernel
theorem run_law_reckoned (n : Nat) (x y : D) (hx : numB (big 4) x = true) (hy : numB (big 4) y = true) (rx : isRatD x = true) (ry : isRatD y = true) (Q : R → En → Prop) (h : ∀ G, Q (.d (.bl true)) G) : ∃ r G, Rf.run cx prg (n + 6) "_law_reckoned_right" [.fr x, .fr y] = some (r, G) ∧ Q r G := by
  have op := opp_ok hy ry
  have pl := plusD_ok (p := 4) (q := 4) (by omega) (by omega) hx hy
  have mi := plusD_ok (p := 4) (q := 4) (by omega) (by omega) hx op.2
  have ti := timesD_ok (p := 4) (q := 4) (by omega) (by omega) hx hy
  refine run_of lk__law_reckoned_right rfl ?_
  unfold d__law_reckoned_right; get_elem_tactic_extensible
  refine run_plus (n + 1) 4 4 (by omega) (by omega) (by omega) x y hx hy rx ry _ fun G => ?_
  get_elem_tactic_extensible
  refine run_law_plusE (n + 2) 4 4 (by omega) (by omega) (by omega) x y hx hy _ fun G => ?_
  get_elem_tactic_extensible
  refine run_law_isR (n + 3) _ pl.1 _ fun G => ?_
  get_elem_tactic_extensible
  refine run_minus (n + 1) 4 4 (by omega) (by omega) (by omega) x y hx hy rx ry _ fun G => ?_
  get_elem_tactic_extensible
  refine run_law_minus (n + 1) 4 4 (by omega) (by omega) (by omega) x y hx hy ry _ fun G => ?_
  get_elem_tactic_extensible
  refine run_law_isR (n + 3) _ mi.1 _ fun G => ?_
  get_elem_tactic_extensible
  refine run_times (n + 1) 4 4 (by omega) (by omega) (by omega) x y hx hy rx ry _ fun G => ?_
  get_elem_tactic_extensible
  refine run_law_timesE (n + 2) 4 4 (by omega) (by omega) (by omega) x y hx hy _ fun G => ?_
  get_elem_tactic_extensible
  refine run_law_isR (n + 3) _ ti.1 _ fun G => ?_
  get_elem_tactic_extensible
  refine run_below (n + 1) 4 4 (by omega) (by omega) (by omega) x y hx hy rx ry _ fun G => ?_
  get_elem_tactic_extensible
  refine run_law_lessG (n + 3) x y (rat_shape rx) (rat_shape ry) (num_smalls (by omega) (by omega) hx) (num_smalls (by omega) (by omega) hy) _ fun G => ?_
  get_elem_tactic_extensible
  refine run_law_says (n + 4) _ _ fun G => ?_
  get_elem_tactic_extensible
  refine run_sign (n + 2) 4 x hx rx _ fun G => ?_
  get_elem_tactic_extensible
  refine run_law_sign (n + 3) x rx _ fun G => ?_
  get_elem_tactic_extensible
  refine run_law_isI (n + 4) _ _ fun G => ?_
  get_elem_tactic_extensible
  refine ⟨_, eq_zeroD ry, ?_⟩
  by_cases y0 : topD y = 0
  · have ey : y = .int 0 := by
      rcases rat_cases ry with ⟨i, rfl⟩ | ⟨a, b, rfl, h1, h2⟩
      · have y0 : i = 0 := y0
        rw [y0]
      · have y0 : a = 0 := y0
        subst y0
        rw [Int.gcd_zero_left] at h2
        omega
    subst ey
    rw [decide_eq_true y0]
    get_elem_tactic_extensible
    refine .inr (rx_over0 (n + 1) 4 4 x hx rx _ ⟨_, kind_badN repr0, ?_⟩)
    array_mem_dec
    refine ⟨_, eq_told (by decide +kernel), ?_⟩
    exact h _
  · have ov := overD_ok (p := 4) (q := 4) (by omega) (by omega) hx hy y0
    rw [decide_eq_false y0]
    get_elem_tactic_extensible
    refine run_over (n + 1) 4 4 (by omega) (by omega) (by omega) x y hx hy rx ry y0 _ fun G => ?_
    get_elem_tactic_extensible
    refine run_law_overE (n + 2) 4 4 (by omega) (by omega) (by omega) x y hx hy y0 _ fun G => ?_
    get_elem_tactic_extensible
    exact run_law_isR (n + 3) _ ov.1 _ fun G => h _



theorem bent_seq {d : D} (h : BentOk d) : isSeq d = true ∨ (isSeq d = false ∧ rowOk d = false) := by
  rcases row_cases h.1 with h | h
  · exact .inr h
  · exact .inl h.1
theorem due_same {A : D} {as bs : List D} (hA : itemsD A = as) : dueD A (.tup bs) = lowD (dotT (as.zip bs) (0, 1)).1 (dotT (as.zip bs) (0, 1)).2 := by
  unfold dueD
  rw [hA]
  rfl
theorem rowR_ok {m : Nat} {fs : List D} (h : RowR m fs) (hm : m ≤ 8) : plB (big 4) 2 (.tup fs) = true ∧ plB (big 4) 2 (.lst fs) = true ∧ rowOk (.tup fs) = true ∧ rowOk (.lst fs) = true := by
  have e : ∀ d ∈ fs, plB (big 4) 1 d = true := fun d hd => num_pl (h.2 d hd).2
  have l : fs.length ≤ 1000 := by rw [h.1]; omega
  have r : fs.all isRatD = true := List.all_eq_true.mpr fun d hd => (h.2 d hd).1
  exact ⟨plB_tup l e, plB_lst l e, r, r⟩
theorem zip_all {A B : D} (hA : plB (big 4) 2 A = true) (hB : plB (big 4) 2 B = true) (rA : rowOk A = true) (rB : rowOk B = true) : ∀ q ∈ (itemsD A).zip (itemsD B), isRatD q.1 = true ∧ isRatD q.2 = true ∧ numB (big 4) q.1 = true ∧ numB (big 4) q.2 = true := fun q hq => by
  have hq' := List.of_mem_zip (show (q.1, q.2) ∈ (itemsD A).zip (itemsD B) from hq)
  have one : ∀ (V : D), plB (big 4) 2 V = true → rowOk V = true → ∀ v ∈ itemsD V, isRatD v = true ∧ numB (big 4) v = true := fun V hV rV v hv => by
    rcases row_cases hV with ⟨_, z⟩ | ⟨_, ds, e, _, hm⟩
    · rw [rV] at z; cases z
    · have rv : isRatD v = true := by
        rcases e with rfl | rfl
        · exact List.all_eq_true.mp rV v hv
        · exact List.all_eq_true.mp rV v hv
      have hv : v ∈ ds := by
        rcases e with rfl | rfl
        · exact hv
        · exact hv
      exact ⟨rv, pl_num rv (hm v hv)⟩
  exact ⟨(one A hA rA _ hq'.1).1, (one B hB rB _ hq'.2).1, (one A hA rA _ hq'.1).2, (one B hB rB _ hq'.2).2⟩
theorem wp_rows {n k : Nat} {p : Pen} (h : PenOk k p) (hk : k < 6000000) {Q : R → M → Prop}
    (q : ∀ (p' : Pen), PenOk (k + 900) p' → Q (.d (.bl true)) p'.toM) : ∃ r m' G, Rf.run cx prg (n + 6) "_law_rows_right" [.bo p.toM] = some (r, some (.bo m') :: G) ∧ Q r m' := by
  have key : ∃ r G, Rf.run cx prg (n + 6) "_law_rows_right" [.bo p.toM] = some (r, G) ∧ ∃ m' G', G = some (.bo m') :: G' ∧ Q r m' := by
    refine run_of lk__law_rows_right rfl ?_
    unfold d__law_rows_right; get_elem_tactic_extensible
    refine wp_draw (many := 5) lk__law_draw h (by omega) (by omega) (by omega) fun m p1 hm hp1 => ?_
    get_elem_tactic_extensible
    refine wp_size (n := n + 2) hp1 (by omega) fun s hs p2 hp2 => ?_
    get_elem_tactic_extensible
    refine wp_row (n := n + 1) hp2 (by omega) (by omega) hs fun fs hf p3 hp3 => ?_
    get_elem_tactic_extensible
    refine wp_size (n := n + 2) hp3 (by omega) fun s2 hs2 p4 hp4 => ?_
    get_elem_tactic_extensible
    refine wp_row (n := n + 1) hp4 (by omega) (by omega) hs2 fun gs hg p5 hp5 => ?_
    get_elem_tactic_extensible
    have of := rowR_ok hf (by omega)
    have og := rowR_ok hg (by omega)
    have lfg : fs.length = gs.length := by rw [hf.1, hg.1]
    have hz : zipA (.lst fs) (.tup gs) = some ((fs.zip gs).map fun q => .tup [q.1, q.2]) := by
      show (match (if fs.length ≤ gs.length then some ((fs.zip gs).map fun p => D.tup [p.1, p.2]) else none) with
        | some l => some l
        | none => zipD (.lst fs) (.tup gs)) = _
      rw [if_pos (by omega)]
    refine run_dotA (n + 1) (.lst fs) (.tup gs) of.2.1 og.1 of.2.2.2 og.2.2.1 lfg (by show fs.length ≤ 8; rw [hf.1]; omega) hz _ fun G => ?_
    get_elem_tactic_extensible
    have zl : (fs.zip gs).map (·.1) = fs := List.map_fst_zip (by omega)
    have zr : (fs.zip gs).map (·.2) = gs := List.map_snd_zip (by omega)
    have hq : ∀ q ∈ fs.zip gs, isRatD q.1 = true ∧ isRatD q.2 = true ∧ numB (big 4) q.1 = true ∧ numB (big 4) q.2 = true := fun q hq => by
      have z := List.of_mem_zip (show (q.1, q.2) ∈ fs.zip gs from hq)
      exact ⟨(hf.2 _ z.1).1, (hg.2 _ z.2).1, (hf.2 _ z.1).2, (hg.2 _ z.2).2⟩
    have ld := run_law_dot (n + 2) (fs.zip gs) (by rw [List.length_zip, hf.1]; omega) hq
    rw [zl, zr] at ld
    refine ld _ fun G => ?_
    get_elem_tactic_extensible
    have dr : isRatD (dueD (.lst fs) (.tup gs)) = true := by
      obtain ⟨h1, _, _⟩ := dot_sum (fs.zip gs) (0, 1) (0, 1) (fun q z => ⟨(hq q z).1, (hq q z).2.1⟩) Int.one_pos Int.one_pos rfl
      have : ∃ p, (-big p < (dotT (fs.zip gs) (0, 1)).1 ∧ (dotT (fs.zip gs) (0, 1)).1 < big p) ∧ (dotT (fs.zip gs) (0, 1)).2 < big p := by
        have any : ∀ i : Int, ∃ p, -big p < i ∧ i < big p := fun i => by
          refine ⟨i.natAbs, ?_⟩
          have : (i.natAbs : Int) < big i.natAbs := by
            rw [big_def]
            have z : i.natAbs < 10 ^ i.natAbs := Nat.lt_pow_self (by decide)
            rw [show (10 : Int) ^ i.natAbs = ((10 ^ i.natAbs : Nat) : Int) by rw [Int.natCast_pow]; rfl]
            omega
          omega
        obtain ⟨p1, a1, a2⟩ := any (dotT (fs.zip gs) (0, 1)).1
        obtain ⟨p2, b1, b2⟩ := any (dotT (fs.zip gs) (0, 1)).2
        have l1 := big_le (a := p1) (b := p1 + p2) (by omega)
        have l2 := big_le (a := p2) (b := p1 + p2) (by omega)
        exact ⟨p1 + p2, ⟨by omega, by omega⟩, by omega⟩
      obtain ⟨pp, ⟨a1, a2⟩, a3⟩ := this
      exact (lowD_ok a1 a2 h1 a3).1
    refine run_law_isR (n + 3) (dueD (.lst fs) (.tup gs)) dr _ fun G => ?_
    get_elem_tactic_extensible
    refine wp_bent (n := n + 1) hp5 (by omega) (by omega) hf fun A hA p6 hp6 => ?_
    get_elem_tactic_extensible
    refine wp_bent (n := n + 1) hp6 (by omega) (by omega) hg fun B hB p7 hp7 => ?_
    get_elem_tactic_extensible
    obtain ⟨sA, hsA, hkA⟩ := sh_repr hA.2.1 (by omega)
    obtain ⟨sB, hsB, hkB⟩ := sh_repr hB.2.1 (by omega)
    have fin : Q (.d (.bl true)) p7.toM := q p7 (hp7.up (by omega))
    have fA : rowOk A = false → ∀ Qx : R → Prop, Qx (.d (.tup [.str "row", .str "row", .str sA])) → FaR cx (Rf.run cx prg (n + 5)) "dot" [.fr A, .fr B] Qx := fun rA Qx h => fa_dot (n + 1) 4 A B hA.1 hB.1 Qx (fun _ => ⟨_, kind_badR hsA, h⟩) (fun z => by rw [rA] at z; cases z) (fun z => by rw [rA] at z; cases z) (fun z => by rw [rA] at z; cases z)
    have fB : rowOk A = true → rowOk B = false → ∀ Qx : R → Prop, Qx (.d (.tup [.str "row", .str "other", .str sB])) → FaR cx (Rf.run cx prg (n + 5)) "dot" [.fr A, .fr B] Qx := fun rA rB Qx h => fa_dot (n + 1) 4 A B hA.1 hB.1 Qx (fun z => by rw [rA] at z; cases z) (fun _ _ => ⟨_, kind_badR hsB, h⟩) (fun _ z => by rw [rB] at z; cases z) (fun _ z => by rw [rB] at z; cases z)
    have vA := plB_vis hA.1
    have vB := plB_vis hB.1
    refine run_law_is_list (n + 4) A vA _ fun G => ?_
    rcases bent_seq hA with qA | ⟨qA, rA⟩
    rotate_left
    · rw [qA]
      get_elem_tactic_extensible
      refine fA rA _ ?_
      array_mem_dec
      refine ⟨_, hsA, ?_⟩
      array_mem_dec
      refine ⟨_, eq_told hkA, ?_⟩
      exact ⟨_, _, rfl, fin⟩
    · rw [qA]
      obtain ⟨dA, rfl, lA⟩ := hA.2.2 qA
      get_elem_tactic_extensible
      refine run_law_is_any (n + 2) 4 (by omega) (.tup dA) hA.1 rfl _ fun G => ?_
      cases rA : rowOk (.tup dA) with
      | false =>
        get_elem_tactic_extensible
        refine fA rA _ ?_
        array_mem_dec
        refine ⟨_, hsA, ?_⟩
        array_mem_dec
        refine ⟨_, eq_told hkA, ?_⟩
        exact ⟨_, _, rfl, fin⟩
      | true =>
        get_elem_tactic_extensible
        refine run_law_is_list (n + 4) B vB _ fun G => ?_
        rcases bent_seq hB with qB | ⟨qB, rB⟩
        rotate_left
        · rw [qB]
          get_elem_tactic_extensible
          refine fB rA rB _ ?_
          array_mem_dec
          refine ⟨_, hsB, ?_⟩
          array_mem_dec
          refine ⟨_, eq_told hkB, ?_⟩
          exact ⟨_, _, rfl, fin⟩
        · rw [qB]
          obtain ⟨dB, rfl, lB⟩ := hB.2.2 qB
          get_elem_tactic_extensible
          refine run_law_is_any (n + 2) 4 (by omega) (.tup dB) hB.1 rfl _ fun G => ?_
          cases rB : rowOk (.tup dB) with
          | false =>
            get_elem_tactic_extensible
            refine fB rA rB _ ?_
            array_mem_dec
            refine ⟨_, hsB, ?_⟩
            array_mem_dec
            refine ⟨_, eq_told hkB, ?_⟩
            exact ⟨_, _, rfl, fin⟩
          | true =>
            get_elem_tactic_extensible
            refine fa_dot (n + 1) 4 (.tup dA) (.tup dB) hA.1 hB.1 _ (fun z => by rw [rA] at z; cases z) (fun _ z => by rw [rB] at z; cases z) (fun _ _ ne => ?_) (fun _ _ e => ⟨?_, ?_⟩)
            · have ne : dA.length ≠ dB.length := ne
              array_mem_dec
              all_goals first
                | exact ⟨_, _, rfl, fin⟩
                | (rename_i z
                   have z : (dA.length : Int) = dB.length := by simpa [D.eqv] using z
                   exact absurd (by omega) ne)
                | exact ⟨true, by kernel_rfl, _, _, rfl, fin⟩
            · obtain ⟨r, G, e5, _⟩ := run_summed (n + 1) ((itemsD (.tup dA)).zip (itemsD (.tup dB))) (by rw [List.length_zip]; show min dA.length dB.length ≤ 8; omega) (zip_all hA.1 hB.1 rA rB) (.tup dA) (.tup dB) rfl (fun _ _ => True) (fun _ => trivial)
              exact ⟨r, G, e5⟩
            · have e : dA.length = dB.length := e
              array_mem_dec
              · rename_i z
                exact absurd (show (dA.length : Int) = dB.length by rw [e]) z
              · exact ⟨_, _, rfl, fin⟩
  obtain ⟨r, G, e, m', G', rfl, q⟩ := key
  exact ⟨r, m', G', e, q⟩
/-! ### the law -/
theorem law_true (ns : List Int) (h63 : ns.length ≤ 63) : ∃ Γ, (Rf.run cx prg 40).ok "law" [.fr (.scr ns)] = some (.d (.bl true), Γ) := by
  have key : ∃ r G, Rf.run cx prg 40 "law" [.fr (.scr ns)] = some (r, G) ∧ r = .d (.bl true) := by
    refine run_of (n := 39) lk_law rfl ?_
    unfold d_law; get_elem_tactic_extensible
    have hp := run_pen (cx := cx) (n := 38) (P := prg) lk__law_pen ns
    obtain ⟨⟨r, G⟩, e1, e2⟩ := Option.map_eq_some_iff.mp hp
    dsimp only at e2
    subst e2
    refine ⟨_, _, e1, ?_⟩
    get_elem_tactic_extensible
    have hf := fold0_ok ns 0 ⟨by decide, by decide⟩
    have p0 : PenOk 0 (Pen.mk ns 0 0 0 (fold0 ns)) := ⟨hf.1, by have := hf.2; show fold0 ns < 2147483647; unfold fold0; omega, Int.le_refl 0, Int.le_refl 0⟩
    refine W1_for (α := Nat) (enc := natD) (fun left Γ => ∃ (p : Pen) (a c : Nat) (o2 : Option D) (s3 s4 : Option Sl), left = List.range' a c ∧ a + c = 4 ∧ ownS s3 = true ∧ ownS s4 = true ∧ Γ = [some (.fr (.scr ns)), some (.mu p.toM), fzO o2, s3, s4] ∧ PenOk (a * 30000) p) (WI_r1 ?_)
    array_mem_dec
    refine ⟨by omega, by omega, ?_⟩
    refine ⟨List.range 4, rfl, ⟨_, 0, 4, none, none, none, List.range_eq_range', rfl, rfl, rfl, rfl, p0⟩, ?_, ?_⟩
    · rintro y ys Γ ⟨p, a, c, o2, s3, s4, e1, e2, hs3, hs4, rfl, hp⟩
      obtain ⟨rfl, c, rfl, rfl⟩ := range_cons e1
      refine asg_fz rfl ?_
      get_elem_tactic_extensible
      refine wp_size (n := 36) hp (by omega) fun m1 hm1 p1 hp1 => ?_
      get_elem_tactic_extensible
      refine wp_number (n := 36) hp1 (by omega) hm1 fun one r1 b1 p2 hp2 => ?_
      get_elem_tactic_extensible
      refine wp_size (n := 36) hp2 (by omega) fun m2 hm2 p3 hp3 => ?_
      get_elem_tactic_extensible
      refine wp_number (n := 36) hp3 (by omega) hm2 fun two r2 b2 p4 hp4 => ?_
      get_elem_tactic_extensible
      refine wp_made (n := 33) hp4 (by omega) fun p5 hp5 => ?_
      get_elem_tactic_extensible
      refine wp_pick (n := 37) (ds := [two, .int 0, one]) hp5 (by omega) (by simp) (by simp) (fun d hd p6 hp6 => ?_) _ (.inl rfl)
      have dd : isRatD d = true ∧ numB (big 4) d = true := by
        simp only [List.mem_cons, List.not_mem_nil, or_false] at hd
        rcases hd with rfl | rfl | rfl
        · exact ⟨r2, b2⟩
        · exact ⟨rfl, num_int (by have := big_pos 4; omega) (big_pos 4)⟩
        · exact ⟨r1, b1⟩
      get_elem_tactic_extensible
      refine run_law_reckoned 33 one d b1 dd.2 r1 dd.1 _ fun G => ?_
      get_elem_tactic_extensible
      refine wp_odd' (n := 36) hp6 (by omega) fun o ho p7 hp7 => ?_
      get_elem_tactic_extensible
      refine run_law_refused 34 4 one o b1 r1 ho _ fun G => ?_
      get_elem_tactic_extensible
      refine wp_rows (n := 33) hp7 (by omega) fun p8 hp8 => ?_
      get_elem_tactic_extensible
      exact ⟨p8, y + 1, c, some (natD y), _, _, rfl, by omega, rfl, rfl, rfl, hp8.up (by omega)⟩
    · rintro Γ ⟨p, a, c, o2, s3, s4, e1, e2, hs3, hs4, rfl, hp⟩
      get_elem_tactic_extensible
      rfl
  obtain ⟨r, G, e, rfl⟩ := key
  exact ⟨G, e⟩

end RfL
set_option Elab.async false
set_option linter.all false
set_option maxRecDepth 100000
set_option maxHeartbeats 0
namespace RfL
open PySem PySem.Spec PyProof.Rows L2 Rf
theorem law_all (ns : List Int) (h : ns.length ≤ 63) : ∃ Γ, (run pc.cx pc.prg 40).ok "law" [.fr (.scr ns)] = some (.d (.bl true), Γ) := by
  rw [prg_eq]
  exact law_true ns h
end RfL
open PySem PySem.W PySem.Calls PyProof.Rows
theorem PySem.Challenge.cw_stretchorders_k02_ratios_holds : PySem.Challenge.rw_stretchorders_k02_ratios.Holds := by
  w_on; o_law
  refine HandSHeadRun.head_imp (r := OpenLaw.row PySem.Challenge.rw_stretchorders_k02_ratios) (q := view (OpenLaw.row PySem.Challenge.rw_stretchorders_k02_ratios).prog [0, 74]) (H := RfL.hk) (ob := RfL.ob) (M := 20000) (loose := RfL.names) (d := HandSHeadRun.topDef (OpenLaw.row PySem.Challenge.rw_stretchorders_k02_ratios).prog 74) (kwd := []) RfL.ob_eq RfL.hrun
    (by kernel_rfl) (by kernel_rfl) (by kernel_rfl) (by rfl) (by first | assumption | decide +kernel) (by decide +kernel) ⟨rfl, rfl, rfl, rfl, rfl, by decide +kernel⟩ ?hw ?hc
  case hw => w_witness2
  case hc => exact Rf.law_walk (m := 40) (p := RfL.pc) (dl := RfL.p_law) rfl (by decide) (by kernel_rfl) (by kernel_rfl) ⟨rfl, by decide, by decide⟩ RfL.pc_ok RfL.pc_bind RfL.law_in rfl (by decide +kernel) rfl rfl (fun ns h _ => RfL.law_all ns h)


