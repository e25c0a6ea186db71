import PyProof.Rows.All
import Wide.All
import OpenK.AllK
import Wide.FinOn
import HandS.ForMost
import HandS.ForExc
import HandS.CallSlots
import HandS.IsInst
import HandS.StrMore
import HandS.Deep
import HandS.Rev
import HandS.ClsMeth
import HandS.Property
import HandS.TupAny
import HandS.IterVal
import HandS.GenList
import HandS.GenYield
import HandS.OwnIter
import HandS.GenBody
import HandS.GenCall
import HandS.Iter
import HandS.Exc
import HandS.ExcField
import HandS.ExcIs
import KE.KExcIs
import HandS.Nested
import HandS.ExcInit
import HandS.ExcOwn
import HandS.ExcSuper
import KE.KExcSuper
import HandS.TupSets
import KE.KeyNested
import HandS.SetBool
import KE.SortCalls
import HandS.Conv
import HandS.Sort
import HandS.RevRange
import HandS.TupLe
import HandS.Defaults
import HandS.Star
import KE.GoesMore
import HandS.Text
import HandS.EndBits
import PySem.Challenge.RW_whatisdue_k97_whole_seen_told_back
set_option Elab.async false
set_option linter.all false
set_option maxRecDepth 100000
set_option maxHeartbeats 1000000
/-! DL1: values as data (no heap), what represents them, and the readings of expressions by plain functions. -/
namespace DL
open PySem PySem.Spec PyProof.Rows L2

/-- a value as plain data -/
inductive D where
  | non | bl (b : Bool) | int (i : Int) | str (x : Str)
  | tup (xs : List D) | lst (xs : List D) | obj (c : Str) (ns : List Str) (fs : List D)
  deriving Inhabited

structure Exn where
  c : Str
  ns : List Str
  fs : List D

inductive Res (α : Type) where
  | ok (a : α) | er (x : Exn) | st
def Res.bind {α β : Type} (r : Res α) (g : α → Res β) : Res β := match r with
  | .ok a => g a
  | .er x => .er x
  | .st => .st

/-- what a slot holds: nothing that is known, a value that stands still, a list of the def's own that may change, an instance of its own; t: it came in that slot at the entry -/
inductive Slot where
  | un | d (v : D) | own (t : Bool) (xs : List D) | obo (t : Bool) (c : Str) (ns : List Str) (fs : List D) | exc (x : Exn)
def Slot.val : Slot → Option D
  | .un => none
  | .d v => some v
  | .own _ xs => some (.lst xs)
  | .obo _ c ns fs => some (.obj c ns fs)
  | .exc _ => none
abbrev DEnv := List Slot
/-- the exception that an except clause holds: where, its class, its fields -/
abbrev EXP := Option (Addr × Value × Option Addr)
/-- what is wished of an exception; what is at hand of a caught one -/
structure WeX where
  w : WX
  ex : EXP := none
instance : CoeFun WeX (fun _ => WX) := ⟨WeX.w⟩
instance : Coe WeX WX := ⟨WeX.w⟩

mutual
inductive Rep (K : PySem.W.Frag) (mg : Str → Option Value) (F : Hp) : V → D → Prop
  | non : Rep K mg F .non .non
  | bl (b : Bool) : Rep K mg F (.bl b) (.bl b)
  | int (i : Int) : Rep K mg F (.int i) (.int i)
  | str (x : Str) : Rep K mg F (.str x) (.str x)
  | lst {a : Addr} {xs : List V} {ds : List D} : SqL K F a xs → RepAll K mg F xs ds → Rep K mg F (.ref a) (.lst ds)
  | tup {a : Addr} {xs : List V} {ds : List D} : SqT K F a xs → RepAll K mg F xs ds → Rep K mg F (.ref a) (.tup ds)
  | obj {a C dx : Addr} {c : Str} {ns : List Str} {fs : List (Str × V)} {ds : List D} : mg c = some (.ref C) → F a = some (.ins C dx fs) → fs.map (·.1) = ns → RepAll K mg F (fs.map (·.2)) ds → Rep K mg F (.ref a) (.obj c ns ds)
inductive RepAll (K : PySem.W.Frag) (mg : Str → Option Value) (F : Hp) : List V → List D → Prop
  | nil : RepAll K mg F [] []
  | cons {v : V} {vs : List V} {d : D} {ds : List D} : Rep K mg F v d → RepAll K mg F vs ds → RepAll K mg F (v :: vs) (d :: ds)
end

mutual
/-- no list within; b: no instance either -/
def D.nlx (b : Bool) : D → Bool
  | .lst _ => false
  | .tup xs => nlxs b xs
  | .obj _ _ fs => !b && nlxs b fs
  | _ => true
def nlxs (b : Bool) : List D → Bool
  | [] => true
  | d :: ds => d.nlx b && nlxs b ds
end

section
variable {K : PySem.W.Frag} {mg : Str → Option Value}
mutual
theorem Rep.mono {F F' : Hp} (e : Same F F') : ∀ (d : D) (v : V), Rep K mg F v d → Rep K mg F' v d
  | .non, _, h => by cases h; exact .non
  | .bl b, _, h => by cases h; exact .bl b
  | .int i, _, h => by cases h; exact .int i
  | .str x, _, h => by cases h; exact .str x
  | .lst ds, _, h => by
    cases h with
    | lst a b => exact .lst (e.seq a) (RepAll.mono e ds _ b)
  | .tup ds, _, h => by
    cases h with
    | tup a b =>
      refine .tup ?_ (RepAll.mono e ds _ b)
      rcases a with (a | ⟨o, a⟩) | a
      · exact .inl (.inl (e _ _ a))
      · exact .inl (.inr ⟨o, e _ _ a⟩)
      · exact .inr a
  | .obj c ns ds, _, h => by
    cases h with
    | obj a b n r => exact .obj a (e _ _ b) n (RepAll.mono e ds _ r)
theorem RepAll.mono {F F' : Hp} (e : Same F F') : ∀ (ds : List D) (vs : List V), RepAll K mg F vs ds → RepAll K mg F' vs ds
  | [], _, h => by cases h; exact .nil
  | d :: ds, _, h => by
    cases h with
    | cons a b => exact .cons (Rep.mono e d _ a) (RepAll.mono e ds _ b)
end
/-- lists taken away; b: instances too -/
def LessL (b : Bool) (F F' : Hp) : Prop := ∀ p o, F p = some o → ((∃ xs, o = .lst xs) ∨ (b = true ∧ ∃ C dx fs, o = .ins C dx fs)) ∨ F' p = some o
mutual
theorem Rep.less {b : Bool} {F F' : Hp} (e : LessL b F F') : ∀ (d : D) (v : V), d.nlx b = true → Rep K mg F v d → Rep K mg F' v d
  | .non, _, _, h => by cases h; exact .non
  | .bl b, _, _, h => by cases h; exact .bl b
  | .int i, _, _, h => by cases h; exact .int i
  | .str x, _, _, h => by cases h; exact .str x
  | .lst ds, _, n, h => by
    have : false = true := n
    cases this
  | .tup ds, _, n, h => by
    cases h with
    | tup a c =>
      refine .tup ?_ (RepAll.less e ds _ n c)
      rcases a with (a | ⟨o, a⟩) | a
      · rcases e _ _ a with (⟨xs, q⟩ | ⟨_, _, _, _, q⟩) | q
        · cases q
        · cases q
        · exact .inl (.inl q)
      · rcases e _ _ a with (⟨xs, q⟩ | ⟨_, _, _, _, q⟩) | q
        · cases q
        · cases q
        · exact .inl (.inr ⟨o, q⟩)
      · exact .inr a
  | .obj c ns ds, _, n, h => by
    have n : (!b && nlxs b ds) = true := n
    rw [Bool.and_eq_true, Bool.not_eq_true'] at n
    cases h with
    | obj a c m r =>
      rcases e _ _ c with (⟨xs, q⟩ | ⟨q, _⟩) | q
      · cases q
      · rw [n.1] at q; cases q
      · exact .obj a q m (RepAll.less e ds _ n.2 r)
theorem RepAll.less {b : Bool} {F F' : Hp} (e : LessL b F F') : ∀ (ds : List D) (vs : List V), nlxs b ds = true → RepAll K mg F vs ds → RepAll K mg F' vs ds
  | [], _, _, h => by cases h; exact .nil
  | d :: ds, _, n, h => by
    have n' : (d.nlx b && nlxs b ds) = true := n
    rw [Bool.and_eq_true] at n'
    cases h with
    | cons a c => exact .cons (Rep.less e d _ n'.1 a) (RepAll.less e ds _ n'.2 c)
end
theorem RepAll.length {F : Hp} : ∀ {vs : List V} {ds : List D}, RepAll K mg F vs ds → vs.length = ds.length
  | [], [], _ => rfl
  | [], _ :: _, h => by cases h
  | _ :: _, [], h => by cases h
  | _ :: _, _ :: _, h => by
    cases h with
    | cons a b => rw [List.length_cons, List.length_cons, RepAll.length b]
theorem RepAll.get {F : Hp} : ∀ {vs : List V} {ds : List D} {i : Nat} {d : D}, RepAll K mg F vs ds → ds[i]? = some d → ∃ v, vs[i]? = some v ∧ Rep K mg F v d
  | [], [], _, _, _, e => by simp at e
  | [], _ :: _, _, _, h, _ => by cases h
  | _ :: _, [], _, _, h, _ => by cases h
  | _ :: _, _ :: _, 0, _, h, e => by
    cases h with
    | cons a b => simp at e; subst e; exact ⟨_, rfl, a⟩
  | _ :: _, _ :: _, i + 1, _, h, e => by
    cases h with
    | cons a b =>
      obtain ⟨v, h1, h2⟩ := RepAll.get (i := i) b (by simpa using e)
      exact ⟨v, by simpa using h1, h2⟩
theorem RepAll.append {F : Hp} : ∀ {vs us : List V} {ds es : List D}, RepAll K mg F vs ds → RepAll K mg F us es → RepAll K mg F (vs ++ us) (ds ++ es)
  | [], _, [], _, _, s => s
  | [], _, _ :: _, _, h, _ => by cases h
  | _ :: _, _, [], _, h, _ => by cases h
  | _ :: _, _, _ :: _, _, h, s => by
    cases h with
    | cons a b => exact .cons a (RepAll.append b s)
theorem RepAll.take {F : Hp} : ∀ {vs : List V} {ds : List D} (n : Nat), RepAll K mg F vs ds → RepAll K mg F (vs.take n) (ds.take n)
  | _, _, 0, _ => by simpa using RepAll.nil
  | [], [], _ + 1, _ => .nil
  | [], _ :: _, _ + 1, h => by cases h
  | _ :: _, [], _ + 1, h => by cases h
  | _ :: _, _ :: _, n + 1, h => by
    cases h with
    | cons a b => exact .cons a (RepAll.take n b)
theorem RepAll.drop {F : Hp} : ∀ {vs : List V} {ds : List D} (n : Nat), RepAll K mg F vs ds → RepAll K mg F (vs.drop n) (ds.drop n)
  | _, _, 0, h => h
  | [], [], _ + 1, _ => .nil
  | [], _ :: _, _ + 1, h => by cases h
  | _ :: _, [], _ + 1, h => by cases h
  | _ :: _, _ :: _, n + 1, h => by
    cases h with
    | cons a b => exact RepAll.drop n b
theorem RepAll.set {F : Hp} {v : V} {d : D} (r : Rep K mg F v d) : ∀ {vs : List V} {ds : List D} (i : Nat), RepAll K mg F vs ds → RepAll K mg F (vs.set i v) (ds.set i d)
  | [], [], _, _ => .nil
  | [], _ :: _, _, h => by cases h
  | _ :: _, [], _, h => by cases h
  | _ :: _, _ :: _, 0, h => by
    cases h with
    | cons a b => exact .cons r b
  | _ :: _, _ :: _, i + 1, h => by
    cases h with
    | cons a b => exact .cons a (RepAll.set r i b)
theorem RepAll.reverse {F : Hp} : ∀ {vs : List V} {ds : List D}, RepAll K mg F vs ds → RepAll K mg F vs.reverse ds.reverse
  | [], [], _ => .nil
  | [], _ :: _, h => by cases h
  | _ :: _, [], h => by cases h
  | _ :: _, _ :: _, h => by
    cases h with
    | cons a b =>
      rw [List.reverse_cons, List.reverse_cons]
      exact RepAll.append (RepAll.reverse b) (.cons a .nil)
theorem RepAll.one {F : Hp} {vs : List V} {d : D} (h : RepAll K mg F vs [d]) : ∃ v, vs = [v] ∧ Rep K mg F v d := by
  cases h with
  | cons a b => cases b; exact ⟨_, rfl, a⟩
theorem RepAll.two {F : Hp} {vs : List V} {d e : D} (h : RepAll K mg F vs [d, e]) : ∃ v u, vs = [v, u] ∧ Rep K mg F v d ∧ Rep K mg F u e := by
  cases h with
  | cons a b =>
    cases b with
    | cons a' b' => cases b'; exact ⟨_, _, rfl, a, a'⟩
end

/-! ### the heap grows -/
/-- from (F, H): F what stands still, H all that is tracked -/
def Ext (F H F' H' : Hp) : Prop := Same F F' ∧ Same F' H' ∧ Same H H' ∧ ∀ p o, H p = some o → F' p = F p
section
variable {F H F1 H1 F2 H2 : Hp} {p : Addr} {o : HO}
theorem Ext.refl (h : Same F H) : Ext F H F H := ⟨Same.refl F, h, Same.refl H, fun _ _ _ => rfl⟩
theorem Ext.trans (a : Ext F H F1 H1) (b : Ext F1 H1 F2 H2) : Ext F H F2 H2 :=
  ⟨a.1.trans b.1, b.2.1, a.2.2.1.trans b.2.2.1, fun p o h => (b.2.2.2 p o (a.2.2.1 p o h)).trans (a.2.2.2 p o h)⟩
theorem same_upd (n : H p = none) : Same H (upd H p o) := fun b x e => by
  rw [upd_ne (ne_of_none e n)]
  exact e
theorem Ext.new (h : Same F H) (n : H p = none) : Ext F H (upd F p o) (upd H p o) := by
  refine ⟨same_upd (h.free n), fun b x e => ?_, same_upd n, fun b x e => ?_⟩
  · by_cases z : b = p
    · subst z; rw [upd_same] at e ⊢; exact e
    · rw [upd_ne z] at e ⊢; exact h _ _ e
  · exact upd_ne (ne_of_none e n)
/-- a new object that is not frozen -/
theorem Ext.new0 (h : Same F H) (n : H p = none) : Ext F H F (upd H p o) :=
  ⟨Same.refl F, h.trans (same_upd n), same_upd n, fun _ _ _ => rfl⟩
end

/-! ### what comes out -/
def XFs (K : PySem.W.Frag) (mg : Str → Option Value) (H H' : Hp) (d : Option Addr) (ns : List Str) (fs : List D) : Prop :=
  (ns = [] ∧ d = none) ∨ ∃ dx fv, d = some dx ∧ H dx = none ∧ H' dx = some (.xd fv) ∧ fv.map (·.1) = ns ∧ RepAll K mg (fun _ => none) (fv.map (·.2)) fs
theorem XFs.back {K : PySem.W.Frag} {mg : Str → Option Value} {H H1 H' : Hp} {d : Option Addr} {ns : List Str} {fs : List D} (e : Same H H1) (x : XFs K mg H1 H' d ns fs) : XFs K mg H H' d ns fs := by
  rcases x with x | ⟨dx, fv, e1, e2, r⟩
  · exact .inl x
  · exact .inr ⟨dx, fv, e1, e.free e2, r⟩

def Out (K : PySem.W.Frag) (mg : Str → Option Value) {α β : Type} (We : WeX) (R : Hp → Hp → Hp → α → β → Prop) (F H : Hp) (σ : L2.St) (Q : α → Hp → Prop) : Res β → Prop
  | .ok d => ∀ F' H' v, Ext F H F' H' → R H F' H' v d → Q v H'
  | .er x => ∀ C d H', Same H H' → mg x.c = some (.ref C) → XFs K mg H H' d x.ns x.fs → We (.ref C) d σ H'
  | .st => False
abbrev RD (K : PySem.W.Frag) (mg : Str → Option Value) : Hp → Hp → Hp → V → D → Prop := fun _ F' _ v d => Rep K mg F' v d
abbrev RDs (K : PySem.W.Frag) (mg : Str → Option Value) : Hp → Hp → Hp → List V → List D → Prop := fun _ F' _ v d => RepAll K mg F' v d
abbrev RB : Hp → Hp → Hp → Bool → Bool → Prop := fun _ _ _ v d => v = d
/-- a new list -/
def RF (K : PySem.W.Frag) (mg : Str → Option Value) : Hp → Hp → Hp → V → List D → Prop := fun H F' H' v xs =>
  ∃ p vs, v = .ref p ∧ H p = none ∧ F' p = none ∧ H' p = some (.lst vs) ∧ RepAll K mg F' vs xs
class Anti {α β : Type} (R : Hp → Hp → Hp → α → β → Prop) : Prop where
  anti : ∀ {H H1 F' H' : Hp} {v : α} {d : β}, Same H H1 → R H1 F' H' v d → R H F' H' v d
instance {K : PySem.W.Frag} {mg : Str → Option Value} : Anti (RD K mg) := ⟨fun _ h => h⟩
instance {K : PySem.W.Frag} {mg : Str → Option Value} : Anti (RDs K mg) := ⟨fun _ h => h⟩
instance : Anti RB := ⟨fun _ h => h⟩
instance {K : PySem.W.Frag} {mg : Str → Option Value} : Anti (RF K mg) := ⟨fun e ⟨p, vs, h1, h2, h3⟩ => ⟨p, vs, h1, e.free h2, h3⟩⟩
section
variable {K : PySem.W.Frag} {mg : Str → Option Value} {α β γ δ : Type} {We : WeX} {R : Hp → Hp → Hp → α → β → Prop} {T : Hp → Hp → Hp → γ → δ → Prop} {F H F1 H1 : Hp} {σ : L2.St} {Q : α → Hp → Prop} {Q' : γ → Hp → Prop}
theorem Out.mono [Anti R] {r : Res β} (h : Out K mg We R F H σ Q r) (e : Ext F H F1 H1) : Out K mg We R F1 H1 σ Q r := by
  cases r with
  | ok d => exact fun F' H' v e' q => h F' H' v (e.trans e') (Anti.anti e.2.2.1 q)
  | er x => exact fun C d H' e' m q => h C d H' (e.2.2.1.trans e') m (q.back e.2.2.1)
  | st => exact h
theorem Out.bind [Anti R] {r : Res δ} {g : δ → Res β} (h : Out K mg We R F H σ Q (r.bind g)) (k : ∀ d F1 H1 v, Ext F H F1 H1 → T H F1 H1 v d → Out K mg We R F1 H1 σ Q (g d) → Q' v H1) : Out K mg We T F H σ Q' r := by
  cases r with
  | ok d => exact fun F' H' v e' q => k d F' H' v e' q (Out.mono (R := R) h e')
  | er x => exact h
  | st => exact h
theorem Out.imp {r : Res β} {Q1 : α → Hp → Prop} (h : Out K mg We R F H σ Q r) (k : ∀ F' H' v d, Ext F H F' H' → R H F' H' v d → Q v H' → Q1 v H') : Out K mg We R F H σ Q1 r := by
  cases r with
  | ok d => exact fun F' H' v e' q => k F' H' v d e' q (h F' H' v e' q)
  | er x => exact h
  | st => exact h
end

/-! ### the slots as data -/
def ExcOk (K : PySem.W.Frag) (mg : Str → Option Value) (ex : EXP) (F : Hp) (y : Option (Option V)) (x : Exn) : Prop :=
  ∃ (a C : Addr) (d : Option Addr), ex = some (a, .ref C, d) ∧ y = some (some (.ref a)) ∧ mg x.c = some (.ref C) ∧ ((x.ns = [] ∧ d = none) ∨ ∃ dx fv, d = some dx ∧ F dx = some (.xd fv) ∧ fv.map (·.1) = x.ns ∧ RepAll K mg (fun _ => none) (fv.map (·.2)) x.fs)
theorem ExcOk.mono {K : PySem.W.Frag} {mg : Str → Option Value} {ex : EXP} {F F' : Hp} {y : Option (Option V)} {x : Exn} (h : ExcOk K mg ex F y x) (e : Same F F') : ExcOk K mg ex F' y x := by
  obtain ⟨a, C, d, h1, h2, h3, h4⟩ := h
  refine ⟨a, C, d, h1, h2, h3, ?_⟩
  rcases h4 with h4 | ⟨dx, fv, k1, k2, k3⟩
  · exact .inl h4
  · exact .inr ⟨dx, fv, k1, e _ _ k2, k3⟩
def EnvE (K : PySem.W.Frag) (mg : Str → Option Value) (ex : EXP) (S : List Nat) (F : Hp) (σ : L2.St) (ρ : DEnv) : Prop :=
  σ.length = ρ.length ∧ (∀ i ∈ S, ∀ s d, ρ[i]? = some s → s.val = some d → ∃ v, σ[i]? = some (some v) ∧ Rep K mg F v d) ∧ ∀ i ∈ S, ∀ x, ρ[i]? = some (.exc x) → ExcOk K mg ex F σ[i]? x
section
variable {K : PySem.W.Frag} {mg : Str → Option Value} {ex : EXP} {S T : List Nat} {F F' : Hp} {σ : L2.St} {ρ : DEnv}
theorem EnvE.mono (h : EnvE K mg ex S F σ ρ) (e : Same F F') : EnvE K mg ex S F' σ ρ := ⟨h.1, fun i hi s d a b => by
  obtain ⟨v, q, r⟩ := h.2.1 i hi s d a b
  exact ⟨v, q, r.mono e⟩, fun i hi x q => (h.2.2 i hi x q).mono e⟩
theorem EnvE.sub (h : EnvE K mg ex T F σ ρ) (e : ∀ i ∈ S, i ∈ T) : EnvE K mg ex S F σ ρ := ⟨h.1, fun i hi => h.2.1 i (e i hi), fun i hi => h.2.2 i (e i hi)⟩
theorem EnvE.l (h : EnvE K mg ex (S ++ T) F σ ρ) : EnvE K mg ex S F σ ρ := h.sub fun _ q => List.mem_append_left _ q
theorem EnvE.r (h : EnvE K mg ex (S ++ T) F σ ρ) : EnvE K mg ex T F σ ρ := h.sub fun _ q => List.mem_append_right _ q
end
/-- the reading of a function of the slots -/
def tG (K : PySem.W.Frag) (mg : Str → Option Value) {α β : Type} (We : WeX) (R : Hp → Hp → Hp → α → β → Prop) (S : List Nat) (f : DEnv → Res β) : L2.St → Hp → (α → Hp → Prop) → Prop := fun σ H Q =>
  ∃ F ρ, Same F H ∧ EnvE K mg We.ex S F σ ρ ∧ Out K mg We R F H σ Q (f ρ)

abbrev PD (X : Cx) (We : WeX) (S : List Nat) (e : PySem.Expr) (f : DEnv → Res D) : Prop := PE X e (tG X.K X.mg We (RD X.K X.mg) S f)
abbrev PF (X : Cx) (We : WeX) (S : List Nat) (e : PySem.Expr) (f : DEnv → Res (List D)) : Prop := PE X e (tG X.K X.mg We (RF X.K X.mg) S f)
abbrev PTD (X : Cx) (We : WeX) (S : List Nat) (e : PySem.Expr) (f : DEnv → Res Bool) : Prop := PT X e (tG X.K X.mg We RB S f)
abbrev PWD (X : Cx) (We : WeX) (S : List Nat) (e : PySem.Expr) (f : DEnv → Res Bool) : Prop := PW X e (tG X.K X.mg We RB S f)
abbrev PAD (X : Cx) (We : WeX) (S : List Nat) (es : List PySem.Expr) (f : DEnv → Res (List D)) : Prop := PA X es (tG X.K X.mg We (RDs X.K X.mg) S f)

section
variable {X : Cx} {e : PySem.Expr} {es : List PySem.Expr}
theorem pe_imp {t t' : TE} (h : PE X e t) (i : ∀ σ H Q, t' σ H Q → t σ H Q) : PE X e t' := ⟨fun pins s σ H Q I q => h.run pins s σ H Q I (i σ H Q q)⟩
theorem pt_imp {t t' : TT} (h : PT X e t) (i : ∀ σ H Q, t' σ H Q → t σ H Q) : PT X e t' := ⟨fun pins s σ H Q I q => h.run pins s σ H Q I (i σ H Q q)⟩
theorem pw_imp {t t' : TT} (h : PW X e t) (i : ∀ σ H Q, t' σ H Q → t σ H Q) : PW X e t' := ⟨fun wh pins s σ H Q I q => h.run wh pins s σ H Q I (i σ H Q q)⟩
theorem pa_imp {t t' : TA} (h : PA X es t) (i : ∀ σ H Q, t' σ H Q → t σ H Q) : PA X es t' := ⟨fun pos pins s σ H Q I q => h.run pos pins s σ H Q I (i σ H Q q)⟩
theorem ps_imp {st : Stmt} {t t' : TS} (h : PS X st t) (i : ∀ D σ H, t' D σ H → t D σ H) : PS X st t' := ⟨fun pins s σ H D I q => h.run pins s σ H D I (i D σ H q)⟩
theorem pss_imp {st : List Stmt} {t t' : TS} (h : PSs X st t) (i : ∀ D σ H, t' D σ H → t D σ H) : PSs X st t' := ⟨fun pins s σ H D I q => h.run pins s σ H D I (i D σ H q)⟩
end

/-! ### names, constants -/
def eVar (i : Nat) : DEnv → Res D := fun ρ => match ρ[i]? with
  | some s => match s.val with
    | some d => .ok d
    | none => .st
  | none => .st
def eC (d : D) : DEnv → Res D := fun _ => .ok d
section
variable {X : Cx} {We : WeX} {pos : Pos}
theorem pd_var (i : Nat) {x : Str} (hN : X.N[i]? = some x := by rfl) (hv : Vis X.env.scope x := by first | exact Or.inl rfl | exact Or.inr (Or.inl rfl) | exact Or.inr (Or.inr rfl)) (hd : (x == ("__debug__" : Str)) = false := by decide)
    (hcd : (x == ("__classdict__" : Str)) = false := by decide) : PD X We [i] (.Name x pos) (eVar i) := by
  refine pe_imp (pe_var hN hv hd hcd) fun σ H Q ⟨F, ρ, hF, hE, h⟩ => ?_
  unfold eVar at h
  cases h1 : ρ[i]? with
  | none => rw [h1] at h; exact h.elim
  | some s =>
    rw [h1] at h
    cases h2 : s.val with
    | none => simp only [h2] at h; exact h.elim
    | some d =>
      simp only [h2] at h
      obtain ⟨v, a, b⟩ := hE.2.1 i (by simp) s d h1 h2
      exact ⟨v, a, h F H v (Ext.refl hF) b⟩
theorem pd_c {v : V} {d : D} (h : PE X e (tC v)) (r : ∀ F, Rep X.K X.mg F v d) : PD X We [] e (eC d) :=
  pe_imp h fun σ H Q ⟨F, ρ, hF, hE, q⟩ => q F H v (Ext.refl hF) (r F)
theorem pd_int {i : Int} {j} : PD X We [] (.Constant (.int i) j pos) (eC (.int i)) := pd_c pe_int fun _ => .int i
theorem pd_bl {b : Bool} {j} : PD X We [] (.Constant (.bool b) j pos) (eC (.bl b)) := pd_c pe_bl fun _ => .bl b
theorem pd_non {j} : PD X We [] (.Constant .none j pos) (eC .non) := pd_c pe_non fun _ => .non
theorem pd_str {x : Str} {j} : PD X We [] (.Constant (.str x) j pos) (eC (.str x)) := pd_c pe_str fun _ => .str x
end

/-! ### operators by values -/
/-- what an operator's rule asks, from data -/
def OpD (K : PySem.W.Frag) (mg : Str → Option Value) (r : R2) (o : D → D → Res D) : Prop :=
  ∀ (We : WeX) (F H : Hp) (σ : L2.St) (x y : D) (v u : V) (Q : VK), Same F H → Rep K mg F v x → Rep K mg F u y → Out K mg We (RD K mg) F H σ Q (o x y) → r v u H Q
def OpF (K : PySem.W.Frag) (mg : Str → Option Value) (r : R2) (o : D → D → Res (List D)) : Prop :=
  ∀ (We : WeX) (F H : Hp) (σ : L2.St) (x y : D) (v u : V) (Q : VK), Same F H → Rep K mg F v x → Rep K mg F u y → Out K mg We (RF K mg) F H σ Q (o x y) → r v u H Q
def e2 {β : Type} (o : D → D → Res β) (fa fb : DEnv → Res D) : DEnv → Res β := fun ρ => (fa ρ).bind fun x => (fb ρ).bind fun y => o x y
def e1 {β : Type} (o : D → Res β) (fa : DEnv → Res D) : DEnv → Res β := fun ρ => (fa ρ).bind fun x => o x
section
variable {K : PySem.W.Frag} {mg : Str → Option Value} {We : WeX} {Sa Sb Sc : List Nat} {fa fb fc : DEnv → Res D}
theorem tG_op {r : R2} {o : D → D → Res D} (hop : OpD K mg r o) {σ : L2.St} {H : Hp} {Q : VK} (h : tG K mg We (RD K mg) (Sa ++ Sb) (e2 o fa fb) σ H Q) :
    tOp r (tG K mg We (RD K mg) Sa fa) (tG K mg We (RD K mg) Sb fb) σ H Q := by
  obtain ⟨F, ρ, hF, hE, q⟩ := h
  refine ⟨F, ρ, hF, hE.l, Out.bind q fun x F1 H1 v ex rx q1 => ?_⟩
  refine ⟨F1, ρ, ex.2.1, hE.r.mono ex.1, Out.bind q1 fun y F2 H2 u ey ry q2 => ?_⟩
  exact hop We F2 H2 σ x y v u Q ey.2.1 (rx.mono ey.1) ry q2
theorem tG_opF {r : R2} {o : D → D → Res (List D)} (hop : OpF K mg r o) {σ : L2.St} {H : Hp} {Q : VK} (h : tG K mg We (RF K mg) (Sa ++ Sb) (e2 o fa fb) σ H Q) :
    tOp r (tG K mg We (RD K mg) Sa fa) (tG K mg We (RD K mg) Sb fb) σ H Q := by
  obtain ⟨F, ρ, hF, hE, q⟩ := h
  refine ⟨F, ρ, hF, hE.l, Out.bind q fun x F1 H1 v ex rx q1 => ?_⟩
  refine ⟨F1, ρ, ex.2.1, hE.r.mono ex.1, Out.bind q1 fun y F2 H2 u ey ry q2 => ?_⟩
  exact hop We F2 H2 σ x y v u Q ey.2.1 (rx.mono ey.1) ry q2
end
section
variable {X : Cx} {We : WeX} {Sa Sb Sc : List Nat} {fa fb fc : DEnv → Res D} {a b c : PySem.Expr} {pos : Pos} {op op' : Operator}
theorem pd_bin {op : Operator} {r : R2} {o : D → D → Res D} (ho : OpR X (binaryOp op) r) (hop : OpD X.K X.mg r o) (ha : PD X We Sa a fa) (hb : PD X We Sb b fb) : PD X We (Sa ++ Sb) (.BinOp a op b pos) (e2 o fa fb) :=
  pe_imp (pe_op ho ha hb) fun _ _ _ h => tG_op hop h
theorem pf_bin {op : Operator} {r : R2} {o : D → D → Res (List D)} (ho : OpR X (binaryOp op) r) (hop : OpF X.K X.mg r o) (ha : PD X We Sa a fa) (hb : PD X We Sb b fb) : PF X We (Sa ++ Sb) (.BinOp a op b pos) (e2 o fa fb) :=
  pe_imp (pe_op ho ha hb) fun _ _ _ h => tG_opF hop h
theorem pd_cmp {op : CmpOp} {r : R2} {o : D → D → Res D} (ho : OpR X (compareOp op) r) (hop : OpD X.K X.mg r o) (ha : PD X We Sa a fa) (hb : PD X We Sb b fb) (hm : behindInMarks op b = false) : PD X We (Sa ++ Sb) (.Compare a [op] [b] pos) (e2 o fa fb) :=
  pe_imp (pe_cmpR ho ha hb hm) fun _ _ _ h => tG_op hop h
end
/-- a result that is a bool -/
def asB : D → Res Bool
  | .bl b => .ok b
  | _ => .st
def eB (f : DEnv → Res D) : DEnv → Res Bool := fun ρ => (f ρ).bind asB
section
variable {K : PySem.W.Frag} {mg : Str → Option Value} {We : WeX} {F H : Hp} {σ : L2.St}
theorem asB_out {d : D} {v : V} {Q : Bool → Hp → Prop} (hF : Same F H) (r : Rep K mg F v d) (h : Out K mg We RB F H σ Q (asB d)) : ∃ k, v = .bl k ∧ Q k H := by
  cases d with
  | bl b => cases r; exact ⟨b, rfl, h F H b (Ext.refl hF) rfl⟩
  | _ => exact h.elim
/-- a value's reading continues as a bool's -/
theorem tG_B {S : List Nat} {f : DEnv → Res D} {Q : Bool → Hp → Prop} (h : tG K mg We RB S (eB f) σ H Q) : tG K mg We (RD K mg) S f σ H (fun x H' => ∃ k, x = .bl k ∧ Q k H') := by
  obtain ⟨F, ρ, hF, hE, q⟩ := h
  exact ⟨F, ρ, hF, hE, Out.bind q fun x F1 H1 v ex rx q1 => asB_out ex.2.1 rx q1⟩
end
section
variable {X : Cx} {We : WeX} {Sa Sb Sc : List Nat} {fa fb fc : DEnv → Res D} {a b c : PySem.Expr} {pos : Pos}
theorem ptd_cmp {op : CmpOp} {r : R2} {o : D → D → Res D} (ho : OpR X (compareOp op) r) (hop : OpD X.K X.mg r o) (ha : PD X We Sa a fa) (hb : PD X We Sb b fb) (hm : behindInMarks op b = false) : PTD X We (Sa ++ Sb) (.Compare a [op] [b] pos) (eB (e2 o fa fb)) :=
  pt_imp (pt_cmpR ho ha hb hm) fun _ _ _ h => tG_op hop (tG_B h)
/-- a op b op' c -/
def eCh (o o' : D → D → Res D) (fa fb fc : DEnv → Res D) : DEnv → Res D := fun ρ => (fa ρ).bind fun x => (fb ρ).bind fun y => (o x y).bind fun k => match k with
  | .bl true => (fc ρ).bind fun z => o' y z
  | .bl false => .ok (.bl false)
  | _ => .st
theorem tG_ch {r r' : R2} {o o' : D → D → Res D} (hop : OpD X.K X.mg r o) (hop' : OpD X.K X.mg r' o') {σ : L2.St} {H : Hp} {Q : VK} (h : tG X.K X.mg We (RD X.K X.mg) (Sa ++ Sb ++ Sc) (eCh o o' fa fb fc) σ H Q) :
    tChain r r' (tG X.K X.mg We (RD X.K X.mg) Sa fa) (tG X.K X.mg We (RD X.K X.mg) Sb fb) (tG X.K X.mg We (RD X.K X.mg) Sc fc) σ H Q := by
  obtain ⟨F, ρ, hF, hE, q⟩ := h
  refine ⟨F, ρ, hF, hE.l.l, Out.bind q fun x F1 H1 v ex rx q1 => ?_⟩
  refine ⟨F1, ρ, ex.2.1, hE.l.r.mono ex.1, Out.bind q1 fun y F2 H2 u ey ry q2 => ?_⟩
  refine hop We F2 H2 σ x y v u _ ey.2.1 (rx.mono ey.1) ry (Out.bind q2 fun k F3 H3 z ek rk q3 => ?_)
  cases k with
  | bl k =>
    cases rk
    refine ⟨k, rfl, ?_⟩
    cases k with
    | true =>
      rw [if_pos rfl]
      refine ⟨F3, ρ, ek.2.1, hE.r.mono ((ex.1.trans ey.1).trans ek.1), Out.bind q3 fun z F4 H4 w ez rz q4 => ?_⟩
      exact hop' We F4 H4 σ y z u w Q ez.2.1 ((ry.mono ek.1).mono ez.1) rz q4
    | false =>
      rw [if_neg Bool.false_ne_true]
      exact q3 F3 H3 _ (Ext.refl ek.2.1) (.bl false)
  | _ => exact q3.elim
theorem pd_chain {op op' : CmpOp} {r r' : R2} {o o' : D → D → Res D} (ho : OpR X (compareOp op) r) (hop : OpD X.K X.mg r o) (ho' : OpR X (compareOp op') r') (hop' : OpD X.K X.mg r' o') (ha : PD X We Sa a fa) (hb : PD X We Sb b fb) (hc : PD X We Sc c fc)
    (hm : lastMarks [op, op'] [b, c] = false := by with_unfolding_all rfl) : PD X We (Sa ++ Sb ++ Sc) (.Compare a [op, op'] [b, c] pos) (eCh o o' fa fb fc) :=
  pe_imp (pe_chain ho ho' ha hb hc hm) fun _ _ _ h => tG_ch hop hop' h
theorem ptd_chain {op op' : CmpOp} {r r' : R2} {o o' : D → D → Res D} (ho : OpR X (compareOp op) r) (hop : OpD X.K X.mg r o) (ho' : OpR X (compareOp op') r') (hop' : OpD X.K X.mg r' o') (ha : PD X We Sa a fa) (hb : PD X We Sb b fb) (hc : PD X We Sc c fc)
    (hm : lastMarks [op, op'] [b, c] = false := by with_unfolding_all rfl) : PTD X We (Sa ++ Sb ++ Sc) (.Compare a [op, op'] [b, c] pos) (eB (eCh o o' fa fb fc)) :=
  pt_imp (pt_chain ho ho' ha hb hc hm) fun _ _ _ h => tG_ch hop hop' (tG_B h)
end

/-! ### tests -/
def lim : Nat := 100000
theorem lim_le : lim ≤ sizeLine := by rw [sizeLine_eq]; decide
theorem le_line {n : Nat} (h : n ≤ lim) : n ≤ sizeLine := Nat.le_trans h lim_le
theorem lt_line {n : Nat} (h : n < lim) : n < sizeLine := Nat.lt_of_lt_of_le h lim_le
/-- a value's truth -/
def truth : D → Res Bool
  | .non => .ok false
  | .bl b => .ok b
  | .int i => .ok (i != 0)
  | .str z => if z.length ≤ lim then .ok ((z.length : Int) != 0) else .st
  | .lst xs => .ok (!xs.isEmpty)
  | .tup xs => .ok (!xs.isEmpty)
  | .obj _ _ _ => .st
theorem RepAll.isEmpty {K : PySem.W.Frag} {mg : Str → Option Value} {F : Hp} {vs : List V} {ds : List D} (r : RepAll K mg F vs ds) : vs.isEmpty = ds.isEmpty := by
  cases r <;> rfl
theorem SqL.same {K : PySem.W.Frag} {F H : Hp} {a : Addr} {xs : List V} (e : Same F H) (h : SqL K F a xs) : SqL K H a xs := e.seq h
theorem SqT.same {K : PySem.W.Frag} {F H : Hp} {a : Addr} {xs : List V} (e : Same F H) (h : SqT K F a xs) : SqT K H a xs := by
  rcases h with (h | ⟨o, h⟩) | h
  · exact .inl (.inl (e _ _ h))
  · exact .inl (.inr ⟨o, e _ _ h⟩)
  · exact .inr h
section
variable {K : PySem.W.Frag} {mg : Str → Option Value} {We : WeX} {F H : Hp} {σ : L2.St}
theorem truth_out {d : D} {v : V} {Q : Bool → Hp → Prop} (hF : Same F H) (r : Rep K mg F v d) (h : Out K mg We RB F H σ Q (truth d)) : ∃ k, TruV K v H k ∧ Q k H := by
  cases d with
  | non => cases r; exact ⟨false, rfl, h F H _ (Ext.refl hF) rfl⟩
  | bl b => cases r; exact ⟨b, rfl, h F H _ (Ext.refl hF) rfl⟩
  | int i => cases r; exact ⟨i != 0, rfl, h F H _ (Ext.refl hF) rfl⟩
  | str z =>
    cases r
    have h : Out K mg We RB F H σ Q (if z.length ≤ lim then .ok ((z.length : Int) != 0) else .st) := h
    by_cases hz : z.length ≤ lim
    · rw [if_pos hz] at h
      exact ⟨_, ⟨le_line hz, rfl⟩, h F H _ (Ext.refl hF) rfl⟩
    · rw [if_neg hz] at h; exact h.elim
  | lst xs =>
    cases r with
    | lst a b => exact ⟨_, .inl ⟨_, SqL.same hF a, rfl⟩, h F H _ (Ext.refl hF) (by rw [b.isEmpty])⟩
  | tup xs =>
    cases r with
    | tup a b => exact ⟨_, .inr (.inl ⟨_, SqT.same hF a, rfl⟩), h F H _ (Ext.refl hF) (by rw [b.isEmpty])⟩
  | obj _ _ _ => exact h.elim
end
def eTru (f : DEnv → Res D) : DEnv → Res Bool := fun ρ => (f ρ).bind truth
def eAnd (f g : DEnv → Res Bool) : DEnv → Res Bool := fun ρ => (f ρ).bind fun b => if b then g ρ else .ok false
def eOr (f g : DEnv → Res Bool) : DEnv → Res Bool := fun ρ => (f ρ).bind fun b => if b then .ok true else g ρ
def eNot (f : DEnv → Res Bool) : DEnv → Res Bool := fun ρ => (f ρ).bind fun b => .ok (!b)
def eIf {β : Type} (c : DEnv → Res Bool) (f g : DEnv → Res β) : DEnv → Res β := fun ρ => (c ρ).bind fun b => if b then f ρ else g ρ
def eAndV (f g : DEnv → Res D) : DEnv → Res D := fun ρ => (f ρ).bind fun x => (asB x).bind fun b => if b then g ρ else .ok (.bl false)
def eOrV (f g : DEnv → Res D) : DEnv → Res D := fun ρ => (f ρ).bind fun x => (asB x).bind fun b => if b then .ok (.bl true) else g ρ
def eNotV (f : DEnv → Res D) : DEnv → Res D := fun ρ => (f ρ).bind fun x => (asB x).bind fun b => .ok (.bl (!b))
section
variable {X : Cx} {We : WeX} {Sa Sb Sc : List Nat} {fa fb : DEnv → Res D} {ca cb : DEnv → Res Bool} {a b c : PySem.Expr} {rest : List PySem.Expr} {pos : Pos}
theorem ptd_tru (ha : PD X We Sa a fa) (he : ∀ whole, isTrue a X.env whole = (do let v ← whole; standAt a.pos; holding [v] (truthy v)) := by intro _; rfl) : PTD X We Sa a (eTru fa) :=
  pt_imp (pt_truth ha he) fun σ H Q ⟨F, ρ, hF, hE, q⟩ => ⟨F, ρ, hF, hE, Out.bind q fun x F1 H1 v ex rx q1 => truth_out ex.2.1 rx q1⟩
theorem ptd_val (ha : PD X We Sa a fa) (he : ∀ whole, isTrue a X.env whole = (do let v ← whole; standAt a.pos; holding [v] (truthy v)) := by intro _; rfl) : PTD X We Sa a (eB fa) :=
  pt_imp (pt_val ha he) fun σ H Q h => tG_B h
theorem ptd_not (ha : PTD X We Sa a ca) : PTD X We Sa (.UnaryOp .Not a pos) (eNot ca) :=
  pt_imp (pt_not ha) fun σ H Q ⟨F, ρ, hF, hE, q⟩ => ⟨F, ρ, hF, hE, Out.bind q fun x F1 H1 v ex rx q1 => by
    have e : v = x := rx
    subst e
    exact q1 F1 H1 _ (Ext.refl ex.2.1) rfl⟩
theorem tG_and {σ : L2.St} {H : Hp} {Q : Bool → Hp → Prop} (h : tG X.K X.mg We RB (Sa ++ Sb) (eAnd ca cb) σ H Q) : tAnd (tG X.K X.mg We RB Sa ca) (tG X.K X.mg We RB Sb cb) σ H Q := by
  obtain ⟨F, ρ, hF, hE, q⟩ := h
  refine ⟨F, ρ, hF, hE.l, Out.bind q fun x F1 H1 v ex rx q1 => ?_⟩
  have e : v = x := rx
  subst e
  cases v with
  | true => rw [if_pos rfl]; exact ⟨F1, ρ, ex.2.1, hE.r.mono ex.1, q1⟩
  | false => rw [if_neg Bool.false_ne_true]; exact q1 F1 H1 _ (Ext.refl ex.2.1) rfl
theorem tG_or {σ : L2.St} {H : Hp} {Q : Bool → Hp → Prop} (h : tG X.K X.mg We RB (Sa ++ Sb) (eOr ca cb) σ H Q) : tOr (tG X.K X.mg We RB Sa ca) (tG X.K X.mg We RB Sb cb) σ H Q := by
  obtain ⟨F, ρ, hF, hE, q⟩ := h
  refine ⟨F, ρ, hF, hE.l, Out.bind q fun x F1 H1 v ex rx q1 => ?_⟩
  have e : v = x := rx
  subst e
  cases v with
  | true => rw [if_pos rfl]; exact q1 F1 H1 _ (Ext.refl ex.2.1) rfl
  | false => rw [if_neg Bool.false_ne_true]; exact ⟨F1, ρ, ex.2.1, hE.r.mono ex.1, q1⟩
theorem pwd_and1 (ha : PTD X We Sa a ca) : PWD X We Sa (.BoolOp .And [a] pos) ca := pw_and1 ha
theorem pwd_or1 (ha : PTD X We Sa a ca) : PWD X We Sa (.BoolOp .Or [a] pos) ca := pw_or1 ha
theorem pwd_and (ha : PTD X We Sa a ca) (hb : PWD X We Sb (.BoolOp .And (b :: rest) pos) cb) : PWD X We (Sa ++ Sb) (.BoolOp .And (a :: b :: rest) pos) (eAnd ca cb) :=
  pw_imp (pw_and ha hb) fun _ _ _ h => tG_and h
theorem pwd_or (ha : PTD X We Sa a ca) (hb : PWD X We Sb (.BoolOp .Or (b :: rest) pos) cb) : PWD X We (Sa ++ Sb) (.BoolOp .Or (a :: b :: rest) pos) (eOr ca cb) :=
  pw_imp (pw_or ha hb) fun _ _ _ h => tG_or h
theorem ptd_w (h : PWD X We Sa a ca) : PTD X We Sa a ca := h.pt
theorem pd_one {op} (h : PD X We Sa a fa) : PD X We Sa (.BoolOp op [a] pos) fa := pe_one h
theorem pd_and (ha : PD X We Sa a fa) (hb : PD X We Sb (.BoolOp .And (b :: rest) pos) fb) : PD X We (Sa ++ Sb) (.BoolOp .And (a :: b :: rest) pos) (eAndV fa fb) :=
  pe_imp (pe_and ha hb) fun σ H Q ⟨F, ρ, hF, hE, q⟩ => ⟨F, ρ, hF, hE.l, Out.bind q fun x F1 H1 v ex rx q1 => by
    cases x with
    | bl k =>
      cases rx
      refine ⟨k, rfl, ?_⟩
      cases k with
      | true => rw [if_pos rfl]; exact ⟨F1, ρ, ex.2.1, hE.r.mono ex.1, q1⟩
      | false => rw [if_neg Bool.false_ne_true]; exact q1 F1 H1 _ (Ext.refl ex.2.1) (.bl false)
    | _ => exact q1.elim⟩
theorem pd_or (ha : PD X We Sa a fa) (hb : PD X We Sb (.BoolOp .Or (b :: rest) pos) fb) : PD X We (Sa ++ Sb) (.BoolOp .Or (a :: b :: rest) pos) (eOrV fa fb) :=
  pe_imp (pe_or ha hb) fun σ H Q ⟨F, ρ, hF, hE, q⟩ => ⟨F, ρ, hF, hE.l, Out.bind q fun x F1 H1 v ex rx q1 => by
    cases x with
    | bl k =>
      cases rx
      refine ⟨k, rfl, ?_⟩
      cases k with
      | true => rw [if_pos rfl]; exact q1 F1 H1 _ (Ext.refl ex.2.1) (.bl true)
      | false => rw [if_neg Bool.false_ne_true]; exact ⟨F1, ρ, ex.2.1, hE.r.mono ex.1, q1⟩
    | _ => exact q1.elim⟩
theorem pd_not (ha : PD X We Sa a fa) : PD X We Sa (.UnaryOp .Not a pos) (eNotV fa) :=
  pe_imp (pe_not ha) fun σ H Q ⟨F, ρ, hF, hE, q⟩ => ⟨F, ρ, hF, hE, Out.bind q fun x F1 H1 v ex rx q1 => by
    cases x with
    | bl k =>
      cases rx
      exact ⟨k, rfl, q1 F1 H1 _ (Ext.refl ex.2.1) (.bl (!k))⟩
    | _ => exact q1.elim⟩
theorem tG_if {α β : Type} {R : Hp → Hp → Hp → α → β → Prop} [Anti R] {f g : DEnv → Res β} {σ : L2.St} {H : Hp} {Q : α → Hp → Prop} (h : tG X.K X.mg We R (Sa ++ Sb ++ Sc) (eIf ca f g) σ H Q) :
    tG X.K X.mg We RB Sa ca σ H fun c H1 => if c = true then tG X.K X.mg We R Sb f σ H1 Q else tG X.K X.mg We R Sc g σ H1 Q := by
  obtain ⟨F, ρ, hF, hE, q⟩ := h
  refine ⟨F, ρ, hF, hE.l.l, Out.bind q fun x F1 H1 v ex rx q1 => ?_⟩
  have e : v = x := rx
  subst e
  cases v with
  | true => rw [if_pos rfl] at q1 ⊢; exact ⟨F1, ρ, ex.2.1, hE.l.r.mono ex.1, q1⟩
  | false => rw [if_neg Bool.false_ne_true] at q1 ⊢; exact ⟨F1, ρ, ex.2.1, hE.r.mono ex.1, q1⟩
theorem pd_if (hc : PTD X We Sa c ca) (ha : PD X We Sb a fa) (hb : PD X We Sc b fb) : PD X We (Sa ++ Sb ++ Sc) (.IfExp c a b pos) (eIf ca fa fb) :=
  pe_imp (pe_ifExp hc ha hb) fun _ _ _ h => tG_if h
end

/-! ### arguments, displays -/
def eNil : DEnv → Res (List D) := fun _ => .ok []
def eCons (f : DEnv → Res D) (g : DEnv → Res (List D)) : DEnv → Res (List D) := fun ρ => (f ρ).bind fun x => (g ρ).bind fun xs => .ok (x :: xs)
/-- the length as a display or a call wants it -/
def okLen (xs : List D) : Res (List D) := if xs.length ≤ lim then .ok xs else .st
def eTup (f : DEnv → Res (List D)) : DEnv → Res D := fun ρ => (f ρ).bind fun xs => (okLen xs).bind fun ys => .ok (.tup ys)
def eLst (f : DEnv → Res (List D)) : DEnv → Res (List D) := fun ρ => (f ρ).bind okLen
/-- a new list as a value -/
def eFz (f : DEnv → Res (List D)) : DEnv → Res D := fun ρ => (f ρ).bind fun xs => .ok (.lst xs)
section
variable {X : Cx} {We : WeX} {Sa Sb : List Nat} {f : DEnv → Res D} {g : DEnv → Res (List D)} {e : PySem.Expr} {es : List PySem.Expr} {pos : Pos}
theorem pad_nil : PAD X We [] [] eNil := pa_imp pa_nil fun σ H Q ⟨F, ρ, hF, hE, q⟩ => q F H _ (Ext.refl hF) .nil
theorem pad_cons (ha : PD X We Sa e f) (hr : PAD X We Sb es g) (hs : starEach (e :: es) X.env = (false, eval e X.env) :: starEach es X.env := by rfl) : PAD X We (Sa ++ Sb) (e :: es) (eCons f g) :=
  pa_imp (pa_cons ha hr hs) fun σ H Q ⟨F, ρ, hF, hE, q⟩ => ⟨F, ρ, hF, hE.l, Out.bind q fun x F1 H1 v ex rx q1 =>
    ⟨F1, ρ, ex.2.1, hE.r.mono ex.1, Out.bind q1 fun xs F2 H2 vs ey ry q2 => q2 F2 H2 _ (Ext.refl ey.2.1) (.cons (rx.mono ey.1) ry)⟩⟩
theorem pd_tup {k} (h : PAD X We Sa es g) : PD X We Sa (.Tuple es k pos) (eTup g) :=
  pe_imp (pe_tup h) fun σ H Q ⟨F, ρ, hF, hE, q⟩ => ⟨F, ρ, hF, hE, Out.bind q fun xs F1 H1 vs ex rx q1 => by
    unfold okLen at q1
    by_cases hl : xs.length ≤ lim
    · rw [if_pos hl] at q1
      refine ⟨by rw [rx.length]; exact le_line hl, fun p hp => ?_⟩
      exact q1 (upd F1 p (.tup vs)) _ _ (Ext.new ex.2.1 hp) (.tup (SqT.of upd_same) (rx.mono (same_upd (ex.2.1.free hp))))
    · rw [if_neg hl] at q1; exact q1.elim⟩
theorem pf_lst (h : PAD X We Sa es g) : PF X We Sa (.List es pos) (eLst g) :=
  pe_imp (pe_lst h) fun σ H Q ⟨F, ρ, hF, hE, q⟩ => ⟨F, ρ, hF, hE, Out.bind q fun xs F1 H1 vs ex rx q1 => by
    unfold okLen at q1
    by_cases hl : xs.length ≤ lim
    · rw [if_pos hl] at q1
      refine ⟨by rw [rx.length]; exact le_line hl, fun p hp => ?_⟩
      exact q1 F1 _ _ (Ext.new0 ex.2.1 hp) ⟨p, vs, rfl, hp, ex.2.1.free hp, upd_same, rx⟩
    · rw [if_neg hl] at q1; exact q1.elim⟩
/-- a new list put to rest -/
theorem fz_ok {K : PySem.W.Frag} {mg : Str → Option Value} {F H F1 H1 : Hp} {v : V} {xs : List D} (ex : Ext F H F1 H1) (h : RF K mg H F1 H1 v xs) : ∃ F2, Ext F H F2 H1 ∧ Same F1 F2 ∧ Rep K mg F2 v (.lst xs) := by
  obtain ⟨p, vs, rfl, hp, f1, h1, r⟩ := h
  refine ⟨upd F1 p (.lst vs), ⟨ex.1.trans (same_upd f1), fun b o q => ?_, ex.2.2.1, fun b o q => ?_⟩, same_upd f1, .lst (SqL.of upd_same) (r.mono (same_upd f1))⟩
  · by_cases z : b = p
    · subst z; rw [upd_same] at q; cases q; exact h1
    · rw [upd_ne z] at q; exact ex.2.1 _ _ q
  · rw [upd_ne (ne_of_none q hp)]; exact ex.2.2.2 b o q
theorem pd_fz (h : PF X We Sa e g) : PD X We Sa e (eFz g) :=
  pe_imp h fun σ H Q ⟨F, ρ, hF, hE, q⟩ => ⟨F, ρ, hF, hE, by
    show Out _ _ _ _ _ _ _ _ (g ρ)
    have q' : Out X.K X.mg We (RD X.K X.mg) F H σ Q ((g ρ).bind fun xs => .ok (.lst xs)) := q
    cases hg : g ρ with
    | ok xs =>
      rw [hg] at q'
      intro F' H' v ex r
      obtain ⟨F2, ex2, _, r2⟩ := fz_ok ex r
      exact q' F2 H' v ex2 r2
    | er x => rw [hg] at q'; exact q'
    | st => rw [hg] at q'; exact q'⟩
end
end DL
set_option Elab.async false
set_option linter.all false
set_option maxRecDepth 100000
set_option maxHeartbeats 1000000
/-! DL2: statements by plain functions of the slots. -/
namespace DL
open PySem PySem.Spec PyProof.Rows L2

/-- a def's base: what stands still and what is tracked at its entry (without what is its own), the addresses of its own things by slot -/
structure Bs where
  F : Hp
  H : Hp
  τ : Nat → Addr
def SlotOk (K : PySem.W.Frag) (mg : Str → Option Value) (ex : EXP) (B : Bs) (F H : Hp) (i : Nat) (x : Option (Option V)) : Slot → Prop
  | .un => True
  | .d d => ∃ v, x = some (some v) ∧ Rep K mg F v d
  | .own t xs => ∃ a vs, x = some (some (.ref a)) ∧ F a = none ∧ B.H a = none ∧ H a = some (.lst vs) ∧ RepAll K mg F vs xs ∧ (t = true → B.τ i = a)
  | .obo t c ns fs => ∃ a C dx fv, x = some (some (.ref a)) ∧ F a = none ∧ B.H a = none ∧ mg c = some (.ref C) ∧ H a = some (.ins C dx fv) ∧ fv.map (·.1) = ns ∧ RepAll K mg F (fv.map (·.2)) fs ∧ (t = true → B.τ i = a)
  | .exc z => ExcOk K mg ex F x z
def Slot.isO : Slot → Bool
  | .own _ _ => true
  | .obo _ _ _ _ => true
  | _ => false
/-- a def's state -/
structure EnvS (K : PySem.W.Frag) (mg : Str → Option Value) (ex : EXP) (B : Bs) (F : Hp) (σ : L2.St) (H : Hp) (ρ : DEnv) : Prop where
  f0 : Same B.F B.H
  ff : Same B.F F
  fh : Same F H
  hh : Same B.H H
  ag : ∀ p o, B.H p = some o → F p = B.F p
  len : σ.length = ρ.length
  sl : ∀ (i : Nat) (s : Slot), ρ[i]? = some s → SlotOk K mg ex B F H i σ[i]? s
  ap : ∀ (i j : Nat) (a : Addr) (s t : Slot), ρ[i]? = some s → ρ[j]? = some t → s.isO = true → t.isO = true → σ[i]? = some (some (V.ref a)) → σ[j]? = some (some (V.ref a)) → i = j

def demS (b : Bool) : Slot → Slot
  | .own t xs => if b then .d (.lst xs) else .own t xs
  | .obo t c ns fs => if b then .d (.obj c ns fs) else .obo t c ns fs
  | s => s
def dem (S : List Nat) (ρ : DEnv) : DEnv := ρ.mapIdx fun i s => demS (S.contains i) s
/-- is an instance of the def's own among S -/
def hasO (S : List Nat) (ρ : DEnv) : Bool := S.any fun i => match ρ[i]? with
  | some (.obo _ _ _ _) => true
  | _ => false

section
variable {K : PySem.W.Frag} {mg : Str → Option Value} {ex : EXP} {B : Bs} {F F1 H H1 : Hp} {σ : L2.St} {ρ : DEnv} {S : List Nat}
theorem EnvS.ext (E : EnvS K mg ex B F σ H ρ) : Ext B.F B.H F H := ⟨E.ff, E.fh, E.hh, E.ag⟩
theorem dem_get {i : Nat} : (dem S ρ)[i]? = (ρ[i]?).map (demS (S.contains i)) := by
  unfold dem
  rw [List.getElem?_mapIdx]
/-- a slot that is the def's own behind dem was so before -/
theorem dem_own {i : Nat} {t : Slot} (h : (dem S ρ)[i]? = some t) (o : t.isO = true) : ρ[i]? = some t ∧ S.contains i = false := by
  rw [dem_get] at h
  cases h3 : ρ[i]? with
  | none => rw [h3] at h; cases h
  | some u =>
    rw [h3] at h
    have h : demS (S.contains i) u = t := Option.some.inj h
    cases z : S.contains i with
    | true =>
      rw [z] at h
      subst h
      cases u <;> cases o
    | false =>
      rw [z] at h
      subst h
      cases u <;> first | (cases o; done) | exact ⟨rfl, rfl⟩
/-- the heap grows, what stands still too -/
theorem EnvS.grow (E : EnvS K mg ex B F σ H ρ) (e : Ext F H F1 H1) : EnvS K mg ex B F1 σ H1 ρ where
  f0 := E.f0
  ff := E.ff.trans e.1
  fh := e.2.1
  hh := E.hh.trans e.2.2.1
  ag := fun p o q => (e.2.2.2 p o (E.hh p o q)).trans (E.ag p o q)
  len := E.len
  sl := fun i s q => by
    have z := E.sl i s q
    cases s with
    | un => trivial
    | d d => obtain ⟨v, a, b⟩ := z; exact ⟨v, a, b.mono e.1⟩
    | own t xs => obtain ⟨a, vs, a1, a2, a3, a4, a5, a6⟩ := z; exact ⟨a, vs, a1, (e.2.2.2 _ _ a4).trans a2, a3, e.2.2.1 _ _ a4, a5.mono e.1, a6⟩
    | obo t c ns fs => obtain ⟨a, C, dx, fv, a1, a2, a3, m, a4, n, a5, a6⟩ := z; exact ⟨a, C, dx, fv, a1, (e.2.2.2 _ _ a4).trans a2, a3, m, e.2.2.1 _ _ a4, n, a5.mono e.1, a6⟩
    | exc x => exact z.mono e.1
  ap := E.ap
theorem EnvS.heap (E : EnvS K mg ex B F σ H ρ) (e : Same H H1) : EnvS K mg ex B F σ H1 ρ :=
  E.grow ⟨Same.refl F, E.fh.trans e, e, fun _ _ _ => rfl⟩

/-- the address of the def's own thing at a slot -/
theorem EnvS.at (E : EnvS K mg ex B F σ H ρ) {i : Nat} {s : Slot} (h : ρ[i]? = some s) (o : s.isO = true) : ∃ a u, σ[i]? = some (some (.ref a)) ∧ F a = none ∧ B.H a = none ∧ H a = some u ∧
    ((∃ t xs, s = .own t xs ∧ ∃ vs, u = .lst vs ∧ RepAll K mg F vs xs ∧ (t = true → B.τ i = a)) ∨ ∃ t c ns fs, s = .obo t c ns fs ∧ ∃ C dx fv, u = .ins C dx fv ∧ mg c = some (.ref C) ∧ fv.map (·.1) = ns ∧ RepAll K mg F (fv.map (·.2)) fs ∧ (t = true → B.τ i = a)) := by
  have z := E.sl i s h
  cases s with
  | un => cases o
  | d d => cases o
  | exc x => cases o
  | own t xs => obtain ⟨a, vs, a1, a2, a3, a4, a5, a6⟩ := z; exact ⟨a, _, a1, a2, a3, a4, .inl ⟨t, xs, rfl, vs, rfl, a5, a6⟩⟩
  | obo t c ns fs => obtain ⟨a, C, dx, fv, a1, a2, a3, m, a4, n, a5, a6⟩ := z; exact ⟨a, _, a1, a2, a3, a4, .inr ⟨t, c, ns, fs, rfl, C, dx, fv, rfl, m, n, a5, a6⟩⟩
/-- the own things of S are put to rest for a while -/
theorem EnvS.fz (E : EnvS K mg ex B F σ H ρ) (S : List Nat) : ∃ Fp, Same Fp H ∧ EnvE K mg ex S Fp σ ρ ∧ (∀ F' H', Ext Fp H F' H' → EnvS K mg ex B F' σ H' (dem S ρ)) ∧
    ∀ F' H', Ext Fp H F' H' → ∃ F2, EnvS K mg ex B F2 σ H' ρ ∧ LessL (hasO S ρ) F' F2 ∧ Same F2 F' := by
  classical
  let own : Addr → Prop := fun p => ∃ i ∈ S, ∃ s, ρ[i]? = some s ∧ s.isO = true ∧ σ[i]? = some (some (V.ref p))
  have ownF : ∀ p, own p → F p = none ∧ B.H p = none ∧ ∃ u, H p = some u ∧ ((∃ vs, u = .lst vs) ∨ (hasO S ρ = true ∧ ∃ C dx fv, u = .ins C dx fv)) := fun p ⟨i, hi, s, h1, ho, h2⟩ => by
    obtain ⟨a, u, a1, a2, a3, a4, z⟩ := E.at h1 ho
    rw [h2] at a1; cases a1
    refine ⟨a2, a3, u, a4, ?_⟩
    rcases z with ⟨_, xs, _, vs, e, _⟩ | ⟨_, c, ns, fs, es, C, dx, fv, e, _⟩
    · exact .inl ⟨vs, e⟩
    · refine .inr ⟨List.any_eq_true.mpr ⟨i, hi, ?_⟩, C, dx, fv, e⟩
      rw [h1, es]
  let Fp : Hp := fun p => if own p then H p else F p
  have fpo : ∀ p, own p → Fp p = H p := fun p h => if_pos h
  have fpn : ∀ p, ¬ own p → Fp p = F p := fun p h => if_neg h
  have sF : Same F Fp := fun p o q => by
    have n : ¬ own p := fun z => by rw [(ownF p z).1] at q; cases q
    rw [fpn p n]; exact q
  have sH : Same Fp H := fun p o q => by
    by_cases z : own p
    · rw [fpo p z] at q; exact q
    · rw [fpn p z] at q; exact E.fh _ _ q
  -- behind the evaluation
  have after : ∀ F' H', Ext Fp H F' H' → Same F F' ∧ (∀ p o, B.H p = some o → F' p = B.F p) := fun F' H' e => ⟨sF.trans e.1, fun p o q => by
    have n : ¬ own p := fun z => by rw [(ownF p z).2.1] at q; cases q
    rw [e.2.2.2 p o (E.hh p o q), fpn p n]
    exact E.ag p o q⟩
  have apart : ∀ {i a u}, S.contains i = false → (∃ s, ρ[i]? = some s ∧ s.isO = true) → σ[i]? = some (some (V.ref a)) → H a = some u → F a = none → ∀ F' H', Ext Fp H F' H' → F' a = none := fun {i a u} hi ⟨s, h1, ho⟩ a1 a4 a2 F' H' e => by
    have n : ¬ own a := fun ⟨j, hj, t, q1, qo, q2⟩ => by
      have := E.ap i j a s t h1 q1 ho qo a1 q2
      subst this
      have : S.contains i = true := by simpa using hj
      rw [hi] at this; cases this
    rw [e.2.2.2 _ _ a4, fpn a n]; exact a2
  refine ⟨Fp, sH, ⟨E.len, fun i hi s d h1 h2 => ?_, fun i hi x h1 => (show ExcOk K mg ex F σ[i]? x from E.sl i _ h1).mono sF⟩, fun F' H' e => ?_, fun F' H' e => ?_⟩
  · have z := E.sl i s h1
    cases s with
    | un => cases h2
    | d v =>
      cases h2
      obtain ⟨v, a, b⟩ := z
      exact ⟨v, a, b.mono sF⟩
    | exc x => cases h2
    | own t xs =>
      cases h2
      obtain ⟨a, vs, a1, a2, a3, a4, a5, a6⟩ := z
      refine ⟨_, a1, .lst (SqL.of ?_) (a5.mono sF)⟩
      rw [fpo a ⟨i, hi, _, h1, rfl, a1⟩]; exact a4
    | obo t c ns fs =>
      cases h2
      obtain ⟨a, C, dx, fv, a1, a2, a3, m, a4, n, a5, a6⟩ := z
      refine ⟨_, a1, .obj (dx := dx) m ?_ n (a5.mono sF)⟩
      rw [fpo a ⟨i, hi, _, h1, rfl, a1⟩]; exact a4
  · obtain ⟨aF, ag⟩ := after F' H' e
    refine ⟨E.f0, E.ff.trans aF, e.2.1, E.hh.trans e.2.2.1, ag, ?_, fun i s h1 => ?_, fun i j a s t h1 h2 o1 o2 => ?_⟩
    · unfold dem; rw [List.length_mapIdx]; exact E.len
    · rw [dem_get] at h1
      cases h2 : ρ[i]? with
      | none => rw [h2] at h1; cases h1
      | some t =>
        rw [h2] at h1
        have h1 : demS (S.contains i) t = s := Option.some.inj h1
        have z := E.sl i t h2
        cases t with
        | un => subst h1; trivial
        | d d => subst h1; obtain ⟨v, a, b⟩ := z; exact ⟨v, a, b.mono aF⟩
        | exc x => subst h1; exact z.mono aF
        | own t xs =>
          obtain ⟨a, vs, a1, a2, a3, a4, a5, a6⟩ := z
          cases hi : S.contains i with
          | true =>
            rw [hi] at h1
            subst h1
            have hi' : i ∈ S := by simpa using hi
            refine ⟨_, a1, .lst (SqL.of (e.1 _ _ ?_)) (a5.mono aF)⟩
            rw [fpo a ⟨i, hi', _, h2, rfl, a1⟩]; exact a4
          | false =>
            rw [hi] at h1
            subst h1
            exact ⟨a, vs, a1, apart hi ⟨_, h2, rfl⟩ a1 a4 a2 F' H' e, a3, e.2.2.1 _ _ a4, a5.mono aF, a6⟩
        | obo t c ns fs =>
          obtain ⟨a, C, dx, fv, a1, a2, a3, m, a4, n, a5, a6⟩ := z
          cases hi : S.contains i with
          | true =>
            rw [hi] at h1
            subst h1
            have hi' : i ∈ S := by simpa using hi
            refine ⟨_, a1, .obj (dx := dx) m (e.1 _ _ ?_) n (a5.mono aF)⟩
            rw [fpo a ⟨i, hi', _, h2, rfl, a1⟩]; exact a4
          | false =>
            rw [hi] at h1
            subst h1
            exact ⟨a, C, dx, fv, a1, apart hi ⟨_, h2, rfl⟩ a1 a4 a2 F' H' e, a3, m, e.2.2.1 _ _ a4, n, a5.mono aF, a6⟩
    · exact E.ap i j a s t (dem_own h1 o1).1 (dem_own h2 o2).1 o1 o2
  · obtain ⟨aF, ag⟩ := after F' H' e
    let F2 : Hp := fun p => if own p then none else F' p
    have f2o : ∀ p, own p → F2 p = none := fun p h => if_pos h
    have f2n : ∀ p, ¬ own p → F2 p = F' p := fun p h => if_neg h
    have s2 : Same F2 F' := fun p o q => by
      by_cases z : own p
      · rw [f2o p z] at q; cases q
      · rw [f2n p z] at q; exact q
    have sF2 : Same F F2 := fun p o q => by
      have n : ¬ own p := fun z => by rw [(ownF p z).1] at q; cases q
      rw [f2n p n]; exact aF _ _ q
    have at2 : ∀ {a u}, F a = none → H a = some u → F2 a = none := fun {a u} a2 a4 => by
      by_cases z : own a
      · exact f2o a z
      · rw [f2n a z, e.2.2.2 _ _ a4, fpn a z]; exact a2
    refine ⟨F2, ⟨E.f0, E.ff.trans sF2, s2.trans e.2.1, E.hh.trans e.2.2.1, fun p o q => ?_, E.len, fun i s h1 => ?_, E.ap⟩, fun p o q => ?_, s2⟩
    · have n : ¬ own p := fun z => by rw [(ownF p z).2.1] at q; cases q
      rw [f2n p n]; exact ag p o q
    · have z := E.sl i s h1
      cases s with
      | un => trivial
      | d d => obtain ⟨v, a, b⟩ := z; exact ⟨v, a, b.mono sF2⟩
      | exc x => exact z.mono sF2
      | own t xs =>
        obtain ⟨a, vs, a1, a2, a3, a4, a5, a6⟩ := z
        exact ⟨a, vs, a1, at2 a2 a4, a3, e.2.2.1 _ _ a4, a5.mono sF2, a6⟩
      | obo t c ns fs =>
        obtain ⟨a, C, dx, fv, a1, a2, a3, m, a4, n, a5, a6⟩ := z
        exact ⟨a, C, dx, fv, a1, at2 a2 a4, a3, m, e.2.2.1 _ _ a4, n, a5.mono sF2, a6⟩
    · by_cases z : own p
      · obtain ⟨_, _, u, q2, z2⟩ := ownF p z
        have q3 : F' p = some u := e.1 p _ (by rw [fpo p z]; exact q2)
        rw [q3] at q; cases q
        exact .inl z2
      · exact .inr (by rw [f2n p z]; exact q)

theorem set_get {α : Type} {l : List α} {i j : Nat} {x y : α} (h : (l.set i x)[j]? = some y) : (j = i ∧ y = x ∧ i < l.length) ∨ (j ≠ i ∧ l[j]? = some y) := by
  by_cases e : j = i
  · subst e
    by_cases hl : j < l.length
    · rw [List.getElem?_set_self hl] at h
      exact .inl ⟨rfl, (Option.some.inj h).symm, hl⟩
    · rw [List.getElem?_eq_none (by simpa using hl)] at h; cases h
  · rw [List.getElem?_set_ne (Ne.symm e)] at h
    exact .inr ⟨e, h⟩
theorem EnvS.set (E : EnvS K mg ex B F σ H ρ) {v : V} {d : D} (r : Rep K mg F v d) (i : Nat) : EnvS K mg ex B F (σ.set i (some v)) H (ρ.set i (.d d)) := by
  refine ⟨E.f0, E.ff, E.fh, E.hh, E.ag, by rw [List.length_set, List.length_set]; exact E.len, fun j s h => ?_, fun j k a s t h1 h2 o1 o2 h3 h4 => ?_⟩
  · rcases set_get h with ⟨rfl, rfl, hl⟩ | ⟨hn, h⟩
    · exact ⟨v, by rw [List.getElem?_set_self (by rw [E.len]; exact hl)], r⟩
    · rw [List.getElem?_set_ne (Ne.symm hn)]
      exact E.sl j s h
  · rcases set_get h1 with ⟨_, z, _⟩ | ⟨n1, h1⟩
    · rw [z] at o1; cases o1
    · rcases set_get h2 with ⟨_, z, _⟩ | ⟨n2, h2⟩
      · rw [z] at o2; cases o2
      · rw [List.getElem?_set_ne (Ne.symm n1)] at h3
        rw [List.getElem?_set_ne (Ne.symm n2)] at h4
        exact E.ap j k a s t h1 h2 o1 o2 h3 h4
/-- a thing of the def's own comes to slot i -/
theorem EnvS.setO (E : EnvS K mg ex B F σ H ρ) {p : Addr} {t : Slot} (ok : ∀ i, SlotOk K mg ex B F H i (some (some (V.ref p))) t) (new : ∀ (j : Nat) s, ρ[j]? = some s → s.isO = true → σ[j]? ≠ some (some (V.ref p))) (i : Nat) :
    EnvS K mg ex B F (σ.set i (some (V.ref p))) H (ρ.set i t) := by
  refine ⟨E.f0, E.ff, E.fh, E.hh, E.ag, by rw [List.length_set, List.length_set]; exact E.len, fun j s h => ?_, fun j k a s t' h1 h2 o1 o2 h3 h4 => ?_⟩
  · rcases set_get h with ⟨rfl, rfl, hl⟩ | ⟨hn, h⟩
    · rw [List.getElem?_set_self (by rw [E.len]; exact hl)]; exact ok _
    · rw [List.getElem?_set_ne (Ne.symm hn)]
      exact E.sl j s h
  · rcases set_get h1 with ⟨e1, z1, l1⟩ | ⟨n1, h1'⟩
    · rcases set_get h2 with ⟨e2, z2, l2⟩ | ⟨n2, h2'⟩
      · rw [e1, e2]
      · rw [e1, List.getElem?_set_self (by rw [E.len]; exact l1)] at h3
        cases h3
        rw [List.getElem?_set_ne (Ne.symm n2)] at h4
        exact absurd h4 (new k _ h2' o2)
    · rcases set_get h2 with ⟨e2, z2, l2⟩ | ⟨n2, h2'⟩
      · rw [e2, List.getElem?_set_self (by rw [E.len]; exact l2)] at h4
        cases h4
        rw [List.getElem?_set_ne (Ne.symm n1)] at h3
        exact absurd h3 (new j _ h1' o1)
      · rw [List.getElem?_set_ne (Ne.symm n1)] at h3
        rw [List.getElem?_set_ne (Ne.symm n2)] at h4
        exact E.ap j k a _ _ h1' h2' o1 o2 h3 h4
theorem EnvS.setOwn (E : EnvS K mg ex B F σ H ρ) {p : Addr} {vs : List V} {xs : List D} (n0 : B.H p = none) (nf : F p = none) (hp : H p = some (.lst vs)) (r : RepAll K mg F vs xs) (new : ∀ (j : Nat) s, ρ[j]? = some s → s.isO = true → σ[j]? ≠ some (some (V.ref p))) (i : Nat) :
    EnvS K mg ex B F (σ.set i (some (V.ref p))) H (ρ.set i (.own false xs)) := E.setO (t := .own false xs) (fun _ => ⟨p, vs, rfl, nf, n0, hp, r, fun z => by cases z⟩) new i
/-- a new address is no slot's -/
theorem EnvS.newA (E : EnvS K mg ex B F σ H ρ) {p : Addr} (n : H p = none) : ∀ (j : Nat) s, ρ[j]? = some s → s.isO = true → σ[j]? ≠ some (some (V.ref p)) := fun j s h1 o h2 => by
  obtain ⟨a, u, a1, _, _, a4, _⟩ := E.at h1 o
  rw [h2] at a1; cases a1
  rw [n] at a4; cases a4
/-- a new list comes to a slot -/
theorem EnvS.setNew (E : EnvS K mg ex B F σ H ρ) {p : Addr} {vs : List V} {xs : List D} {H1 : Hp} (e : Ext F H F1 H1) (n : H p = none) (nf : F1 p = none) (hp : H1 p = some (.lst vs)) (r : RepAll K mg F1 vs xs) (i : Nat) :
    EnvS K mg ex B F1 (σ.set i (some (V.ref p))) H1 (ρ.set i (.own false xs)) := (E.grow e).setOwn (E.hh.free n) nf hp r (E.newA n) i
/-- the def's own thing at slot i changes -/
theorem EnvS.mutO (E : EnvS K mg ex B F σ H ρ) {i : Nat} {a : Addr} {s t : Slot} {u : HO} (h : ρ[i]? = some s) (o : s.isO = true) (ha : σ[i]? = some (some (V.ref a))) (ok : SlotOk K mg ex B F (upd H a u) i (some (some (V.ref a))) t) :
    EnvS K mg ex B F σ (upd H a u) (ρ.set i t) := by
  obtain ⟨a', w, a1, a2, a3, a4, _⟩ := E.at h o
  rw [ha] at a1; cases a1
  have hi : i < ρ.length := (List.getElem?_eq_some_iff.mp h).1
  refine ⟨E.f0, E.ff, fun p o q => ?_, fun p o q => ?_, E.ag, by rw [List.length_set]; exact E.len, fun j s' hj => ?_, fun j k b s' t' h1 h2 o1 o2 h3 h4 => ?_⟩
  · have n : p ≠ a := fun z => by rw [z, a2] at q; cases q
    rw [upd_ne n]; exact E.fh _ _ q
  · have n : p ≠ a := fun z => by rw [z, a3] at q; cases q
    rw [upd_ne n]; exact E.hh _ _ q
  · rcases set_get hj with ⟨rfl, rfl, hl⟩ | ⟨hn, hj⟩
    · rw [ha]; exact ok
    · have z := E.sl j s' hj
      cases s' with
      | un => trivial
      | d d => exact z
      | exc x => exact z
      | own t zs =>
        obtain ⟨b, ws, b1, b2, b3, b4, b5⟩ := z
        refine ⟨b, ws, b1, b2, b3, ?_, b5⟩
        have n : b ≠ a := fun z => hn (by subst z; exact E.ap j i b _ s hj h rfl o b1 ha)
        rw [upd_ne n]; exact b4
      | obo t c ns fs =>
        obtain ⟨b, C, dx, fv, b1, b2, b3, m, b4, n', b5⟩ := z
        refine ⟨b, C, dx, fv, b1, b2, b3, m, ?_, n', b5⟩
        have n : b ≠ a := fun z => hn (by subst z; exact E.ap j i b _ s hj h rfl o b1 ha)
        rw [upd_ne n]; exact b4
  · rcases set_get h1 with ⟨e1, z1, _⟩ | ⟨n1, h1'⟩
    · rcases set_get h2 with ⟨e2, z2, _⟩ | ⟨n2, h2'⟩
      · rw [e1, e2]
      · rw [e1] at h3
        rw [e1]
        exact E.ap _ _ b s t' h h2' o o2 h3 h4
    · rcases set_get h2 with ⟨e2, z2, _⟩ | ⟨n2, h2'⟩
      · rw [e2] at h4
        rw [e2]
        exact E.ap _ _ b s' s h1' h o1 o h3 h4
      · exact E.ap _ _ b s' t' h1' h2' o1 o2 h3 h4
theorem EnvS.mut (E : EnvS K mg ex B F σ H ρ) {i : Nat} {a : Addr} {t : Bool} {xs ys : List D} {us : List V} (h : ρ[i]? = some (.own t xs)) (ha : σ[i]? = some (some (V.ref a))) (r : RepAll K mg F us ys) :
    EnvS K mg ex B F σ (upd H a (.lst us)) (ρ.set i (.own t ys)) := by
  obtain ⟨a', vs, a1, a2, a3, a4, a5, a6⟩ := E.sl i _ h
  rw [ha] at a1; cases a1
  exact E.mutO h rfl ha ⟨a, us, rfl, a2, a3, upd_same, r, a6⟩
end

/-! ### what a statement comes to -/
inductive SRes where
  | nx (ρ : DEnv) | rt (d : D) | bk (ρ : DEnv) | ct (ρ : DEnv) | er (x : Exn) (ρ : DEnv) | st
/-- how a def hands back: fr: a list that is its own -/
def RR (K : PySem.W.Frag) (mg : Str → Option Value) : Bool → Hp → Hp → Hp → V → D → Prop
  | false => RD K mg
  | true => fun H F' H' v d => ∃ xs, d = .lst xs ∧ RF K mg H F' H' v xs
def OutS (K : PySem.W.Frag) (mg : Str → Option Value) (fr : Bool) (We : WeX) (B : Bs) (E : Ends) : SRes → Prop
  | .nx ρ => ∀ F σ H, EnvS K mg We.ex B F σ H ρ → E.nx σ H
  | .bk ρ => ∀ F σ H, EnvS K mg We.ex B F σ H ρ → E.bk σ H
  | .ct ρ => ∀ F σ H, EnvS K mg We.ex B F σ H ρ → E.ct σ H
  | .rt d => ∀ F H v, Ext B.F B.H F H → RR K mg fr B.H F H v d → E.rt v H
  | .er x ρ => ∀ F σ H C d, EnvS K mg We.ex B F σ H ρ → mg x.c = some (.ref C) → XFs K mg B.H H d x.ns x.fs → We (.ref C) d σ H
  | .st => False
def tS (K : PySem.W.Frag) (mg : Str → Option Value) (fr : Bool) (We : WeX) (g : DEnv → SRes) : TS := fun E σ H => ∃ B F ρ, EnvS K mg We.ex B F σ H ρ ∧ OutS K mg fr We B E (g ρ)
abbrev SD (X : Cx) (fr : Bool) (We : WeX) (st : Stmt) (g : DEnv → SRes) : Prop := PS X st (tS X.K X.mg fr We g)
abbrev SDs (X : Cx) (fr : Bool) (We : WeX) (st : List Stmt) (g : DEnv → SRes) : Prop := PSs X st (tS X.K X.mg fr We g)

def sNil : DEnv → SRes := .nx
def SRes.seq (r : SRes) (g : DEnv → SRes) : SRes := match r with
  | .nx ρ => g ρ
  | r => r
def sSeq (f g : DEnv → SRes) : DEnv → SRes := fun ρ => (f ρ).seq g
/-- what follows an evaluation: keep (S's lists stay the def's own: no list in the value), or not -/
def after {β : Type} (r : Res β) (ρ : DEnv) (g : β → SRes) : SRes := match r with
  | .ok d => g d
  | .er x => .er x ρ
  | .st => .st
def rest (k : Bool) (S : List Nat) (d : Bool → Bool) (ρ : DEnv) (g : DEnv → SRes) : SRes := if k then (if d (hasO S ρ) then g ρ else .st) else g (dem S ρ)

section
variable {K : PySem.W.Frag} {mg : Str → Option Value} {fr : Bool} {We : WeX} {B : Bs} {F H : Hp} {σ : L2.St} {ρ : DEnv} {E : Ends} {S : List Nat}
theorem OutS.imp {r : SRes} {E' : Ends} (h : OutS K mg fr We B E r) (h1 : ∀ σ H, E.nx σ H → E'.nx σ H) (h2 : ∀ v H, E.rt v H → E'.rt v H) (h3 : ∀ σ H, E.bk σ H → E'.bk σ H) (h4 : ∀ σ H, E.ct σ H → E'.ct σ H) : OutS K mg fr We B E' r := by
  cases r with
  | nx ρ => exact fun F σ H q => h1 _ _ (h F σ H q)
  | bk ρ => exact fun F σ H q => h3 _ _ (h F σ H q)
  | ct ρ => exact fun F σ H q => h4 _ _ (h F σ H q)
  | rt d => exact fun F H v a b => h2 _ _ (h F H v a b)
  | er x ρ => exact h
  | st => exact h
theorem OutS.seq {r : SRes} {g : DEnv → SRes} (h : OutS K mg fr We B E (r.seq g)) : OutS K mg fr We B { E with nx := tS K mg fr We g E } r := by
  cases r with
  | nx ρ => exact fun F σ H q => ⟨B, F, ρ, q, h⟩
  | bk ρ => exact h
  | ct ρ => exact h
  | rt d => exact h
  | er x ρ => exact h
  | st => exact h
/-- an expression within a statement -/
theorem OutS.eval {α β : Type} {R : Hp → Hp → Hp → α → β → Prop} {f : DEnv → Res β} {g : β → SRes} {Q : α → Hp → Prop} (e : EnvS K mg We.ex B F σ H ρ) (h : OutS K mg fr We B E (after (f ρ) ρ g))
    (k : ∀ Fp F' H' v d, f ρ = .ok d → OutS K mg fr We B E (g d) → Ext Fp H F' H' → R H F' H' v d → EnvS K mg We.ex B F' σ H' (dem S ρ) → (∃ F2, EnvS K mg We.ex B F2 σ H' ρ ∧ LessL (hasO S ρ) F' F2 ∧ Same F2 F') → Q v H') : tG K mg We R S f σ H Q := by
  obtain ⟨Fp, h1, h2, h3, h4⟩ := e.fz S
  refine ⟨Fp, ρ, h1, h2, ?_⟩
  cases hf : f ρ with
  | ok d =>
    rw [hf] at h
    exact fun F' H' v ex r => k Fp F' H' v d hf h ex r (h3 F' H' ex) (h4 F' H' ex)
  | er x =>
    rw [hf] at h
    exact fun C d H' sm m q => h F σ H' C d (e.heap sm) m (q.back e.hh)
  | st => rw [hf] at h; exact h
/-- .. a value -/
theorem OutS.evalD {k : Bool} {f : DEnv → Res D} {g : D → DEnv → SRes} {Q : VK} (e : EnvS K mg We.ex B F σ H ρ) (h : OutS K mg fr We B E (after (f ρ) ρ fun d => rest k S (fun b => d.nlx b) ρ (g d)))
    (q : ∀ F' H' v d ρ', EnvS K mg We.ex B F' σ H' ρ' → Rep K mg F' v d → OutS K mg fr We B E (g d ρ') → Q v H') : tG K mg We (RD K mg) S f σ H Q := by
  refine OutS.eval e h fun Fp F' H' v d hf hg ex r e1 ⟨F2, e2, l, s2⟩ => ?_
  cases k with
  | true =>
    have hg : OutS K mg fr We B E (if d.nlx (hasO S ρ) then g d ρ else .st) := hg
    cases hn : d.nlx (hasO S ρ) with
    | true =>
      rw [hn, if_pos rfl] at hg
      exact q F2 H' v d ρ e2 (r.less l d v hn) hg
    | false => rw [hn, if_neg Bool.false_ne_true] at hg; exact hg.elim
  | false => exact q F' H' v d _ e1 r hg
/-- .. a bool -/
theorem OutS.evalB {f : DEnv → Res Bool} {g : Bool → SRes} {Q : Bool → Hp → Prop} (e : EnvS K mg We.ex B F σ H ρ) (h : OutS K mg fr We B E (after (f ρ) ρ g))
    (q : ∀ F' H' b, EnvS K mg We.ex B F' σ H' ρ → OutS K mg fr We B E (g b) → Q b H') : tG K mg We RB S f σ H Q := by
  refine OutS.eval e h fun Fp F' H' v d hf hg ex r e1 ⟨F2, e2, l, s2⟩ => ?_
  have z : v = d := r
  subst z
  exact q F2 H' v e2 hg
end

section
variable {X : Cx} {fr : Bool} {We : WeX} {st : Stmt} {rest' : List Stmt} {f g : DEnv → SRes} {e c : PySem.Expr} {S : List Nat} {pos : Pos}
theorem sds_nil : SDs X fr We [] sNil := pss_imp pss_nil fun E σ H ⟨B, F, ρ, e, h⟩ => h F σ H e
theorem sds_cons (h1 : SD X fr We st f) (h2 : SDs X fr We rest' g) : SDs X fr We (st :: rest') (sSeq f g) :=
  pss_imp (pss_cons h1 h2) fun E σ H ⟨B, F, ρ, e, h⟩ => ⟨B, F, ρ, e, OutS.seq h⟩
theorem sds_one (h1 : SD X fr We st f) : SDs X fr We [st] f := pss_one h1
def sNever : DEnv → SRes := fun _ => .st
theorem sd_never : SD X fr We st sNever := ps_imp ps_never fun E σ H ⟨B, F, ρ, e, h⟩ => h
theorem sds_never {sts : List Stmt} : SDs X fr We sts sNever := pss_imp pss_never fun E σ H ⟨B, F, ρ, e, h⟩ => h
theorem sd_pass : SD X fr We (.Pass pos) sNil := ps_imp ps_pass fun E σ H ⟨B, F, ρ, e, h⟩ => h F σ H e
def sBk : DEnv → SRes := .bk
def sCt : DEnv → SRes := .ct
theorem sd_break : SD X fr We (.Break pos) sBk := ps_imp ps_break fun E σ H ⟨B, F, ρ, e, h⟩ => h F σ H e
theorem sd_cont : SD X fr We (.Continue pos) sCt := ps_imp ps_continue fun E σ H ⟨B, F, ρ, e, h⟩ => h F σ H e
/-! ### name = value -/
def sAsg (k : Bool) (S : List Nat) (i : Nat) (f : DEnv → Res D) : DEnv → SRes := fun ρ => after (f ρ) ρ fun d => rest k S (fun b => d.nlx b) ρ fun ρ' => .nx (ρ'.set i (.d d))
theorem sd_asg (k : Bool) {i : Nat} {x : Str} {pos' : Pos} {fe : DEnv → Res D} (hN : X.N.Nodup) (he : PD X We S e fe) (hi : X.N[i]? = some x := by rfl) (hx : Loc X.env.scope x := by first | exact Or.inl rfl | exact Or.inr rfl)
    (hs : swapsWith e (some (.Name x pos')) pos.line X.env = pure false := by rfl) (hf : X.fn x = true ∨ X.env.scope.names.lookup x = some .local := by first | exact .inl rfl | exact .inr rfl | assumption) :
    SD X fr We (.Assign [.Name x pos'] e pos) (sAsg k S i fe) :=
  ps_imp (ps_set hN hi hx he hs hf) fun E σ H ⟨B, F, ρ, e, h⟩ => OutS.evalD e h fun F' H' v d ρ' e' r q => q F' _ H' (e'.set r i)
def sAsgF (k : Bool) (S : List Nat) (i : Nat) (f : DEnv → Res (List D)) : DEnv → SRes := fun ρ => after (f ρ) ρ fun xs => rest k S (fun b => nlxs b xs) ρ fun ρ' => .nx (ρ'.set i (.own false xs))
theorem evalF_set {K : PySem.W.Frag} {mg : Str → Option Value} {B : Bs} {F H : Hp} {σ : L2.St} {ρ : DEnv} {E : Ends} {k : Bool} {i : Nat} {fe : DEnv → Res (List D)} (e : EnvS K mg We.ex B F σ H ρ) (h : OutS K mg fr We B E (sAsgF k S i fe ρ)) :
    tG K mg We (RF K mg) S fe σ H (fun v H' => E.nx (σ.set i (some v)) H') := by
  refine OutS.eval e h fun Fp F' H' v xs hf hg ex r e1 ⟨F2, e2, l, s2⟩ => ?_
  obtain ⟨p, vs, rfl, n, nf, hp, r⟩ := r
  have new := e.newA n
  cases k with
  | true =>
    have hg : OutS K mg fr We B E (if nlxs (hasO S ρ) xs then .nx (ρ.set i (.own false xs)) else .st) := hg
    cases hn : nlxs (hasO S ρ) xs with
    | true =>
      rw [hn, if_pos rfl] at hg
      refine hg F2 _ H' (e2.setOwn (e.hh.free n) ?_ hp (r.less l xs vs hn) new i)
      cases q : F2 p with
      | none => rfl
      | some o => rw [s2 p o q] at nf; cases nf
    | false => rw [hn, if_neg Bool.false_ne_true] at hg; exact hg.elim
  | false => exact hg F' _ H' (e1.setOwn (e.hh.free n) nf hp r (fun j s h1 o => new j s (dem_own h1 o).1 o) i)
theorem sd_asgF (k : Bool) {i : Nat} {x : Str} {pos' : Pos} {fe : DEnv → Res (List D)} (hN : X.N.Nodup) (he : PF X We S e fe) (hi : X.N[i]? = some x := by rfl) (hx : Loc X.env.scope x := by first | exact Or.inl rfl | exact Or.inr rfl)
    (hs : swapsWith e (some (.Name x pos')) pos.line X.env = pure false := by rfl) (hf : X.fn x = true ∨ X.env.scope.names.lookup x = some .local := by first | exact .inl rfl | exact .inr rfl | assumption) :
    SD X fr We (.Assign [.Name x pos'] e pos) (sAsgF k S i fe) :=
  ps_imp (ps_set hN hi hx he hs hf) fun E σ H ⟨B, F, ρ, e, h⟩ => evalF_set e h

/-! ### if, while, return -/
def sIf (c : DEnv → Res Bool) (f g : DEnv → SRes) : DEnv → SRes := fun ρ => after (c ρ) ρ fun b => if b then f ρ else g ρ
theorem sd_if {a b : List Stmt} {ce : DEnv → Res Bool} (hc : PTD X We S c ce) (ha : SDs X fr We a f) (hb : SDs X fr We b g) : SD X fr We (.If c a b pos) (sIf ce f g) :=
  ps_imp (ps_if hc ha hb) fun E σ H ⟨B, F, ρ, e, h⟩ => OutS.evalB e h fun F' H' b e' q => by
    cases b with
    | true => rw [if_pos rfl] at q ⊢; exact ⟨B, F', ρ, e', q⟩
    | false => rw [if_neg Bool.false_ne_true] at q ⊢; exact ⟨B, F', ρ, e', q⟩
def sRet (S : List Nat) (f : DEnv → Res D) : DEnv → SRes := fun ρ => after (f ρ) ρ fun d => .rt d
theorem sd_ret {fe : DEnv → Res D} (he : PD X We S e fe) : SD X false We (.Return (some e) pos) (sRet S fe) :=
  ps_imp (ps_ret he) fun E σ H ⟨B, F, ρ, e, h⟩ => OutS.eval e h fun Fp F' H' v d hf hg ex r e1 _ => hg F' H' v e1.ext r
def sRetF (S : List Nat) (f : DEnv → Res (List D)) : DEnv → SRes := fun ρ => after (f ρ) ρ fun xs => .rt (.lst xs)
theorem sd_retF {fe : DEnv → Res (List D)} (he : PF X We S e fe) : SD X true We (.Return (some e) pos) (sRetF S fe) :=
  ps_imp (ps_ret he) fun E σ H ⟨B, F, ρ, e, h⟩ => OutS.eval e h fun Fp F' H' v d hf hg ex r e1 _ => hg F' H' v e1.ext ⟨d, rfl, Anti.anti e.hh r⟩
/-- return of the def's own list -/
def sRetO (i : Nat) : DEnv → SRes := fun ρ => match ρ[i]? with
  | some (.own _ xs) => .rt (.lst xs)
  | _ => .st
theorem sd_retO (i : Nat) {x : Str} {p : Pos} (hN : X.N[i]? = some x := by rfl) (hv : Vis X.env.scope x := by first | exact Or.inl rfl | exact Or.inr (Or.inl rfl) | exact Or.inr (Or.inr rfl)) (hd : (x == ("__debug__" : Str)) = false := by decide)
    (hcd : (x == ("__classdict__" : Str)) = false := by decide) : SD X true We (.Return (some (.Name x p)) pos) (sRetO i) :=
  ps_imp (ps_ret (pe_var hN hv hd hcd)) fun E σ H ⟨B, F, ρ, e, h⟩ => by
    unfold sRetO at h
    cases h1 : ρ[i]? with
    | none => rw [h1] at h; exact h.elim
    | some s =>
      rw [h1] at h
      cases s with
      | own t xs =>
        obtain ⟨a, vs, a1, a2, a3, a4, a5, _⟩ := e.sl i _ h1
        exact ⟨_, a1, h F H _ e.ext ⟨xs, rfl, a, vs, rfl, a3, a2, a4, a5⟩⟩
      | un => exact h.elim
      | d d => exact h.elim
      | obo t c ns fs => exact h.elim
      | exc x => exact h.elim
def sRetN : DEnv → SRes := fun _ => .rt .non
theorem sd_retN : SD X false We (.Return none pos) sRetN :=
  ps_imp ps_retN fun E σ H ⟨B, F, ρ, e, h⟩ => h F H .non e.ext .non
/-- while: n turns at most -/
def whL (c : DEnv → Res Bool) (f : DEnv → SRes) : Nat → DEnv → SRes
  | 0, _ => .st
  | n + 1, ρ => after (c ρ) ρ fun b => if b then (match f ρ with
      | .nx ρ' => whL c f n ρ'
      | .ct ρ' => whL c f n ρ'
      | .bk ρ' => .nx ρ'
      | r => r) else .nx ρ
theorem sd_while (n : Nat) {body : List Stmt} {ce : DEnv → Res Bool} (hp : PassesOwn (model X.prog X.w) X.A X.env X.xe) (hc : PTD X We S c ce) (hb : SDs X fr We body f) : SD X fr We (.While c body [] pos) (whL ce f n) :=
  ps_imp (ps_while hp hc hb) fun E σ H ⟨B, F, ρ, e, h⟩ => by
    refine ⟨fun m σ H => ∃ F ρ, EnvS X.K X.mg We.ex B F σ H ρ ∧ OutS X.K X.mg fr We B E (whL ce f m ρ), ⟨n, F, ρ, e, h⟩, fun m σ H ⟨F, ρ, e, h⟩ => ?_⟩
    cases m with
    | zero => exact h.elim
    | succ m =>
      refine OutS.evalB e h fun F' H' b e' q => ?_
      cases b with
      | false => rw [if_neg Bool.false_ne_true] at q ⊢; exact q F' σ H' e'
      | true =>
        rw [if_pos rfl] at q ⊢
        refine ⟨fun σ H => ∃ F ρ, EnvS X.K X.mg We.ex B F σ H ρ ∧ OutS X.K X.mg fr We B E (whL ce f m ρ), fun σ' H' h' => ⟨m, Nat.lt_succ_self m, h'⟩, B, F', ρ, e', ?_⟩
        cases hf : f ρ with
        | nx ρ' => rw [hf] at q; exact fun F σ H z => ⟨F, ρ', z, q⟩
        | ct ρ' => rw [hf] at q; exact fun F σ H z => ⟨F, ρ', z, q⟩
        | bk ρ' => rw [hf] at q; exact q
        | rt d => rw [hf] at q; exact q
        | er x ρ' => rw [hf] at q; exact q
        | st => rw [hf] at q; exact q
/-- an expression's value is dropped -/
def sDrop (k : Bool) (S : List Nat) (f : DEnv → Res D) : DEnv → SRes := fun ρ => after (f ρ) ρ fun d => rest k S (fun b => d.nlx b) ρ fun ρ' => .nx ρ'
theorem sd_drop (k : Bool) {fe : DEnv → Res D} (he : PD X We S e fe) (hs : swapsWith e none pos.line X.env = pure false := by rfl) : SD X fr We (.Expr e pos) (sDrop k S fe) :=
  ps_imp (ps_expr he hs) fun E σ H ⟨B, F, ρ, e, h⟩ => OutS.evalD e h fun F' H' v d ρ' e' r q => q F' _ H' e'
end

/-! ### targets: which slots get what -/
def setAll {α : Type} (l : List α) : List Nat → List α → List α
  | [], _ => l
  | _ :: _, [] => l
  | i :: is, x :: xs => setAll (l.set i x) is xs
def tT (K : PySem.W.Frag) (mg : Str → Option Value) (sl : List Nat) (g : D → Option (List D)) : TG := fun v σ H Q =>
  ∃ F d ds, Same F H ∧ Rep K mg F v d ∧ g d = some ds ∧ ds.length = sl.length ∧ ∀ vs, RepAll K mg F vs ds → Q (setAll σ sl (vs.map some)) H
def tTs (K : PySem.W.Frag) (mg : Str → Option Value) (sl : List Nat) (g : List D → Option (List D)) : TGs := fun vs σ H Q =>
  ∃ F d ds, Same F H ∧ RepAll K mg F vs d ∧ g d = some ds ∧ ds.length = sl.length ∧ ∀ vs, RepAll K mg F vs ds → Q (setAll σ sl (vs.map some)) H
abbrev GD (X : Cx) (tg : PySem.Expr) (sl : List Nat) (g : D → Option (List D)) : Prop := PG X tg (tT X.K X.mg sl g) ∧ ∀ d ds, g d = some ds → ds.length = sl.length
abbrev GDs (X : Cx) (tgs : List PySem.Expr) (sl : List Nat) (g : List D → Option (List D)) : Prop := PGs X tgs (tTs X.K X.mg sl g) ∧ ∀ d ds, g d = some ds → ds.length = sl.length
theorem pg_imp {X : Cx} {tg : PySem.Expr} {t t' : TG} (h : PG X tg t) (i : ∀ v σ H Q, t' v σ H Q → t v σ H Q) : PG X tg t' := ⟨fun pins s σ H v u Q I r q => h.run pins s σ H v u Q I r (i v σ H Q q)⟩
theorem pgs_imp {X : Cx} {tg : List PySem.Expr} {t t' : TGs} (h : PGs X tg t) (i : ∀ v σ H Q, t' v σ H Q → t v σ H Q) : PGs X tg t' := ⟨fun pins s σ H v u Q I r q => h.run pins s σ H v u Q I r (i v σ H Q q)⟩
def g1 : D → Option (List D) := fun d => some [d]
def gN : List D → Option (List D)
  | [] => some []
  | _ => none
def gC (g : D → Option (List D)) (r : List D → Option (List D)) : List D → Option (List D)
  | d :: ds => (g d).bind fun a => (r ds).bind fun b => some (a ++ b)
  | [] => none
def gT (n : Nat) (g : List D → Option (List D)) : D → Option (List D)
  | .tup xs => if xs.length = n then g xs else none
  | _ => none
def gL (n : Nat) (g : List D → Option (List D)) : D → Option (List D)
  | .lst xs => if xs.length = n then g xs else none
  | _ => none
theorem setAll_append {α : Type} : ∀ (a b : List Nat) (xs ys : List α) (l : List α), xs.length = a.length → setAll l (a ++ b) (xs ++ ys) = setAll (setAll l a xs) b ys
  | [], _, [], _, _, _ => rfl
  | [], _, _ :: _, _, _, h => by cases h
  | _ :: _, _, [], _, _, h => by cases h
  | i :: a, b, x :: xs, ys, l, h => setAll_append a b xs ys (l.set i x) (by simpa using h)
theorem RepAll.split {K : PySem.W.Frag} {mg : Str → Option Value} {F : Hp} : ∀ {ds es : List D} {vs : List V}, RepAll K mg F vs (ds ++ es) → ∃ us ws, vs = us ++ ws ∧ RepAll K mg F us ds ∧ RepAll K mg F ws es
  | [], _, vs, h => ⟨[], vs, rfl, .nil, h⟩
  | d :: ds, es, vs, h => by
    cases h with
    | cons a b =>
      obtain ⟨us, ws, e, r1, r2⟩ := RepAll.split b
      exact ⟨_ :: us, ws, by rw [e]; rfl, .cons a r1, r2⟩
section
variable {X : Cx} {pos : Pos}
theorem gd_name {i : Nat} {x : Str} (hN : X.N.Nodup) (hi : X.N[i]? = some x := by rfl) (hx : Loc X.env.scope x := by first | exact Or.inl rfl | exact Or.inr rfl) (hf : X.fn x = true ∨ X.env.scope.names.lookup x = some .local := by first | exact .inl rfl | exact .inr rfl | assumption) : GD X (.Name x pos) [i] g1 := by
  refine ⟨pg_imp (pg_name hN hi hx hf) fun v σ H Q ⟨F, d, ds, hF, r, e, _, q⟩ => ?_, fun d ds e => ?_⟩
  · cases e
    exact q [v] (.cons r .nil)
  · cases e; rfl
theorem gds_nil : GDs X [] [] gN := by
  refine ⟨pgs_imp pgs_nil fun v σ H Q ⟨F, d, ds, hF, r, e, _, q⟩ => ?_, fun d ds e => ?_⟩
  · cases d with
    | nil => cases r; cases e; exact ⟨rfl, q [] .nil⟩
    | cons a b => cases e
  · cases d with
    | nil => cases e; rfl
    | cons a b => cases e
theorem gC_some {g : D → Option (List D)} {r : List D → Option (List D)} {a : D} {b : List D} {ds : List D} (e : gC g r (a :: b) = some ds) : ∃ x y, g a = some x ∧ r b = some y ∧ ds = x ++ y := by
  have e : ((g a).bind fun x => (r b).bind fun y => some (x ++ y)) = some ds := e
  cases ha : g a with
  | none => rw [ha] at e; cases e
  | some x =>
    rw [ha] at e
    cases hb : r b with
    | none => simp only [Option.bind_some, hb] at e; cases e
    | some y =>
      simp only [Option.bind_some, hb] at e
      cases e
      exact ⟨x, y, rfl, rfl, rfl⟩
theorem gds_cons {e : PySem.Expr} {es : List PySem.Expr} {s1 s2 : List Nat} {g : D → Option (List D)} {r : List D → Option (List D)} (h1 : GD X e s1 g) (h2 : GDs X es s2 r)
    (hs : (assignEach (e :: es) X.env).map (·.2) = assign e X.env :: (assignEach es X.env).map (·.2) := by rfl) : GDs X (e :: es) (s1 ++ s2) (gC g r) := by
  refine ⟨pgs_imp (pgs_cons h1.1 h2.1 hs) fun v σ H Q ⟨F, d, ds, hF, rr, e, _, q⟩ => ?_, fun d ds e => ?_⟩
  · cases d with
    | nil => cases e
    | cons a b =>
      obtain ⟨x, y, ha, hb, rfl⟩ := gC_some e
      cases v with
      | nil => cases rr
      | cons v0 vs0 =>
      cases rr with
      | cons r1 r2 =>
        refine ⟨v0, vs0, rfl, F, a, x, hF, r1, ha, h1.2 _ _ ha, fun us ru => ?_⟩
        refine ⟨F, b, y, hF, r2, hb, h2.2 _ _ hb, fun ws rw' => ?_⟩
        have z := q (us ++ ws) (ru.append rw')
        rw [List.map_append, setAll_append s1 s2 _ _ _ (by rw [List.length_map, ru.length]; exact h1.2 _ _ ha)] at z
        exact z
  · cases d with
    | nil => cases e
    | cons a b =>
      obtain ⟨x, y, ha, hb, rfl⟩ := gC_some e
      rw [List.length_append, List.length_append, h1.2 _ _ ha, h2.2 _ _ hb]
theorem gT_some {n : Nat} {g : List D → Option (List D)} {d : D} {ds : List D} (e : gT n g d = some ds) : ∃ xs, d = .tup xs ∧ xs.length = n ∧ g xs = some ds := by
  cases d with
  | tup xs =>
    have e : (if xs.length = n then g xs else none) = some ds := e
    by_cases hl : xs.length = n
    · rw [if_pos hl] at e; exact ⟨xs, rfl, hl, e⟩
    · rw [if_neg hl] at e; cases e
  | _ => cases e
theorem gd_tup {es : List PySem.Expr} {k n : Nat} {s : List Nat} {g : List D → Option (List D)} (hc : X.calm = true) (h : GDs X es s g)
    (hn : (assignEach es X.env).length = n := by rfl) (hst : (assignEach es X.env).findIdx? (·.1) = none := by rfl) : GD X (.Tuple es k pos) s (gT n g) := by
  refine ⟨pg_imp (pg_tup hc h.1 hn hst) fun v σ H Q ⟨F, d, ds, hF, r, e, l, q⟩ => ?_, fun d ds e => ?_⟩
  · obtain ⟨xs, rfl, hl, e⟩ := gT_some e
    cases r with
    | tup a b => exact ⟨_, _, rfl, SqT.same hF a, by rw [b.length]; exact hl, F, xs, ds, hF, b, e, l, q⟩
  · obtain ⟨xs, rfl, hl, e⟩ := gT_some e
    exact h.2 _ _ e
end

section
variable {K : PySem.W.Frag} {mg : Str → Option Value} {B : Bs} {F H : Hp}
theorem EnvS.setAll {ex : EXP} : ∀ (sl : List Nat) (vs : List V) (ds : List D) {σ : L2.St} {ρ : DEnv}, EnvS K mg ex B F σ H ρ → RepAll K mg F vs ds → EnvS K mg ex B F (DL.setAll σ sl (vs.map some)) H (DL.setAll ρ sl (ds.map Slot.d))
  | [], [], [], _, _, e, _ => e
  | [], _ :: _, _ :: _, _, _, e, _ => e
  | _, [], _ :: _, _, _, _, h => by cases h
  | _, _ :: _, [], _, _, _, h => by cases h
  | _ :: _, [], [], _, _, e, _ => e
  | i :: sl, v :: vs, d :: ds, _, _, e, h => by
    cases h with
    | cons a b => exact EnvS.setAll sl vs ds (e.set a i) b
end
/-- a, b = e -/
def sTgt (k : Bool) (S sl : List Nat) (g : D → Option (List D)) (f : DEnv → Res D) : DEnv → SRes := fun ρ => after (f ρ) ρ fun d => rest k S (fun b => d.nlx b) ρ fun ρ' => match g d with
  | some ds => .nx (setAll ρ' sl (ds.map Slot.d))
  | none => .st
section
variable {X : Cx} {fr : Bool} {We : WeX} {S sl : List Nat} {pos : Pos} {e tg : PySem.Expr}
theorem sd_tgt (k : Bool) {g : D → Option (List D)} {fe : DEnv → Res D} (he : PD X We S e fe) (hg : GD X tg sl g) (hs : swapsWithSole [tg] e pos.line X.env = pure false := by rfl) (hw : swappedStores [tg] e X.env = pure none := by rfl)
    (h1 : (assignEach [tg] X.env).map (·.2) = [assign tg X.env] := by rfl) : SD X fr We (.Assign [tg] e pos) (sTgt k S sl g fe) :=
  ps_imp (ps_asg he hg.1 hs hw h1) fun E σ H ⟨B, F, ρ, e, h⟩ => OutS.evalD e h fun F' H' v d ρ' e' r q => by
    cases hd : g d with
    | none => rw [hd] at q; exact q.elim
    | some ds =>
      rw [hd] at q
      exact ⟨F', d, ds, e'.fh, r, hd, hg.2 _ _ hd, fun vs rv => q F' _ H' (EnvS.setAll sl vs ds e' rv)⟩

/-! ### the def's own list changes -/
def sApp (k : Bool) (S : List Nat) (i : Nat) (f : DEnv → Res D) : DEnv → SRes := fun ρ => match ρ[i]? with
  | some (.own _ _) => after (f ρ) ρ fun d => rest k S (fun b => d.nlx b) ρ fun ρ' => match ρ'[i]? with
    | some (.own t xs) => if xs.length < lim then .nx (ρ'.set i (.own t (xs ++ [d]))) else .st
    | _ => .st
  | _ => .st
theorem sd_app (k : Bool) (i : Nat) {x : Str} {np apos cpos : Pos} {e : PySem.Expr} {fe : DEnv → Res D} (he : PD X We S e fe) (hN : X.N[i]? = some x := by rfl) (hv : Vis X.env.scope x := by first | exact Or.inl rfl | exact Or.inr (Or.inl rfl) | exact Or.inr (Or.inr rfl))
    (hpe : ∀ {r : TE} {t : TA}, PE X (.Name x np) r → PA X [e] t → PE X (.Call (.Attribute (.Name x np) "append" apos) [e] [] cpos) (tBM X.K "list" rAppend r t) := by exact fun a b => pe_bm PySem.F.plainAttrs_list PySem.F.slot_list_append PySem.F.type_list_append mt_append a b)
    (hd : (x == ("__debug__" : Str)) = false := by decide) (hcd : (x == ("__classdict__" : Str)) = false := by decide) (hs1 : starEach [e] X.env = (false, eval e X.env) :: starEach [] X.env := by rfl)
    (hs : swapsWith (.Call (.Attribute (.Name x np) "append" apos) [e] [] cpos) none pos.line X.env = pure false := by rfl) : SD X fr We (.Expr (.Call (.Attribute (.Name x np) "append" apos) [e] [] cpos) pos) (sApp k S i fe) :=
  ps_imp (ps_expr (hpe (pe_var hN hv hd hcd) (pa_cons he pa_nil hs1)) hs) fun E σ H ⟨B, F, ρ, e, h⟩ => by
    have h : OutS X.K X.mg fr We B E (match ρ[i]? with
      | some (.own _ _) => after (fe ρ) ρ fun d => rest k S (fun b => d.nlx b) ρ fun ρ' => match ρ'[i]? with
        | some (.own t xs) => if xs.length < lim then .nx (ρ'.set i (.own t (xs ++ [d]))) else .st
        | _ => .st
      | _ => .st) := h
    cases h0 : ρ[i]? with
    | none => rw [h0] at h; exact h.elim
    | some s =>
    rw [h0] at h
    cases s with
    | un => exact h.elim
    | d d => exact h.elim
    | exc x => exact h.elim
    | obo t c ns fs => exact h.elim
    | own t xs =>
    obtain ⟨a, vs, ha, a2, a3, a4, a5, _⟩ := e.sl i _ h0
    refine ⟨_, ha, .inl ⟨rfl, _, SqL.of a4⟩, ?_⟩
    refine OutS.evalD (k := k) (g := fun d ρ' => match ρ'[i]? with
        | some (.own t xs) => if xs.length < lim then .nx (ρ'.set i (.own t (xs ++ [d]))) else .st
        | _ => .st) e h fun F' H' v d ρ' e' r q => by
      cases h1 : ρ'[i]? with
      | none => rw [h1] at q; exact q.elim
      | some s =>
        rw [h1] at q
        cases s with
        | un => exact q.elim
        | d d => exact q.elim
        | exc x => exact q.elim
        | obo t c ns fs => exact q.elim
        | own t xs =>
          have q : OutS X.K X.mg fr We B E (if xs.length < lim then .nx (ρ'.set i (.own t (xs ++ [d]))) else .st) := q
          by_cases hl : xs.length < lim
          · rw [if_pos hl] at q
            obtain ⟨a', vs, a1, a2, a3, a4, a5, _⟩ := e'.sl i _ h1
            rw [ha] at a1; cases a1
            exact ⟨a, vs, v, rfl, rfl, a4, by rw [a5.length]; exact lt_line hl, q F' σ _ (e'.mut h1 ha (a5.append (.cons r .nil)))⟩
          · rw [if_neg hl] at q; exact q.elim
end
end DL
set_option Elab.async false
set_option linter.all false
set_option maxRecDepth 100000
set_option maxHeartbeats 1000000
/-! DL3: operators, built-ins, by data. -/
namespace DL
open PySem PySem.Spec PyProof.Rows L2

/-! ### arithmetic -/
def dAdd : D → D → Res D
  | .int i, .int j => .ok (.int (i + j))
  | .str x, .str y => if x.length + y.length ≤ lim then .ok (.str (x ++ y)) else .st
  | .tup xs, .tup ys => if xs.length + ys.length ≤ lim then .ok (.tup (xs ++ ys)) else .st
  | _, _ => .st
def dI2 (g : Int → Int → Int) : D → D → Res D
  | .int i, .int j => .ok (.int (g i j))
  | _, _ => .st
def dI2c (c : Int → Int → Bool) (g : Int → Int → Int) : D → D → Res D
  | .int i, .int j => if c i j = true then .ok (.int (g i j)) else .st
  | _, _ => .st
def dI2b (g : Int → Int → Bool) : D → D → Res D
  | .int i, .int j => .ok (.bl (g i j))
  | _, _ => .st
def big : Int := 18446744073709551616
def cMul (i j : Int) : Bool := decide (i.natAbs < 18446744073709551616) || decide (j.natAbs < 18446744073709551616)
def cDiv (_ j : Int) : Bool := decide (0 < j.toNat) && decide (j.toNat < 1073741824)
def cMod (_ j : Int) : Bool := decide (0 < j.toNat)
def cPow (i j : Int) : Bool := decide (0 ≤ j) && decide (j.toNat ≤ 1000000) && decide (i.natAbs < 18446744073709551616)
def cShr (_ j : Int) : Bool := decide (0 ≤ j)
abbrev dSub := dI2 (· - ·)
abbrev dMul := dI2c cMul (· * ·)
abbrev dDiv := dI2c cDiv (· / ·)
abbrev dMod := dI2c cMod (· % ·)
abbrev dPow := dI2c cPow fun i j => i ^ j.toNat
abbrev dShl := dI2c cPow fun i j => i * 2 ^ j.toNat
abbrev dShr := dI2c cShr fun i j => i / 2 ^ j.toNat
abbrev dAnd := dI2 Builtin.bitAnd
abbrev dOr := dI2 Builtin.bitOr
abbrev dXor := dI2 Builtin.bitXor
abbrev dLt := dI2b fun i j => decide (i < j)
abbrev dLe := dI2b fun i j => decide (i ≤ j)
abbrev dGt := dI2b fun i j => decide (j < i)
abbrev dGe := dI2b fun i j => decide (j ≤ i)
def dNeg : D → Res D
  | .int i => .ok (.int (-i))
  | _ => .st
def dInv : D → Res D
  | .int i => .ok (.int (Builtin.bitNot i))
  | _ => .st
section
variable {K : PySem.W.Frag} {mg : Str → Option Value}
theorem od_or {r r' : R2} {o : D → D → Res D} (h : ∀ (We : WeX) (F H : Hp) (σ : L2.St) (x y : D) (v u : V) (Q : VK), Same F H → Rep K mg F v x → Rep K mg F u y → Out K mg We (RD K mg) F H σ Q (o x y) → r v u H Q ∨ r' v u H Q) : OpD K mg (fun x y H Q => r x y H Q ∨ r' x y H Q) o := h
theorem od_int {g : Int → Int → Int} : OpD K mg (rI0 fun i j => .int (g i j)) (dI2 g) := fun We F H σ x y v u Q hF rx ry h => by
  cases x <;> try exact h.elim
  cases y <;> try exact h.elim
  cases rx; cases ry
  exact ⟨_, _, rfl, rfl, h F H _ (Ext.refl hF) (.int _)⟩
theorem od_intc {c : Int → Int → Bool} {C : Int → Int → Prop} {g : Int → Int → Int} (hc : ∀ i j, c i j = true → C i j) : OpD K mg (rI C fun i j => .int (g i j)) (dI2c c g) := fun We F H σ x y v u Q hF rx ry h => by
  cases x <;> try exact h.elim
  cases y <;> try exact h.elim
  cases rx; cases ry
  rename_i i j
  have h : Out K mg We (RD K mg) F H σ Q (if c i j = true then .ok (.int (g i j)) else .st) := h
  by_cases z : c i j = true
  · rw [if_pos z] at h
    exact ⟨_, _, rfl, rfl, hc _ _ z, h F H _ (Ext.refl hF) (.int _)⟩
  · rw [if_neg z] at h; exact h.elim
theorem od_intb {g : Int → Int → Bool} : OpD K mg (rI0 fun i j => .bl (g i j)) (dI2b g) := fun We F H σ x y v u Q hF rx ry h => by
  cases x <;> try exact h.elim
  cases y <;> try exact h.elim
  cases rx; cases ry
  exact ⟨_, _, rfl, rfl, h F H _ (Ext.refl hF) (.bl _)⟩
theorem od_sub : OpD K mg (rI0 fun i j => .int (i - j)) dSub := od_int
theorem od_and : OpD K mg (rI0 fun i j => .int (Builtin.bitAnd i j)) dAnd := od_int
theorem od_orr : OpD K mg (rI0 fun i j => .int (Builtin.bitOr i j)) dOr := od_int
theorem od_xor : OpD K mg (rI0 fun i j => .int (Builtin.bitXor i j)) dXor := od_int
theorem od_mul : OpD K mg (rI CMul fun i j => .int (i * j)) dMul := od_intc fun i j h => by
  simp only [cMul, Bool.or_eq_true, decide_eq_true_eq] at h
  have e : (2 : Int) ^ 64 = 18446744073709551616 := rfl
  unfold CMul
  rw [e]
  omega
theorem od_div : OpD K mg (rI CDiv fun i j => .int (i / j)) dDiv := od_intc fun i j h => by
  simp only [cDiv, Bool.and_eq_true, decide_eq_true_eq] at h
  exact ⟨by omega, by show j < 1073741824; omega⟩
theorem od_mod : OpD K mg (rI (fun _ j => 0 < j) fun i j => .int (i % j)) dMod := od_intc fun i j h => by
  simp only [cMod, decide_eq_true_eq] at h
  show 0 < j
  omega
theorem cPow_ok {i j : Int} (h : cPow i j = true) : CPow i j := by
  simp only [cPow, Bool.and_eq_true, decide_eq_true_eq] at h
  unfold CPow
  have e : (2 : Nat) ^ 64 = 18446744073709551616 := rfl
  refine ⟨h.1.1, by omega, ?_⟩
  rw [e]
  omega
theorem od_pow : OpD K mg (rI CPow fun i j => .int (i ^ j.toNat)) dPow := od_intc fun i j h => cPow_ok h
theorem od_shl : OpD K mg (rI CPow fun i j => .int (i * 2 ^ j.toNat)) dShl := od_intc fun i j h => cPow_ok h
theorem od_shr : OpD K mg (rI (fun _ j => 0 ≤ j) fun i j => .int (i / 2 ^ j.toNat)) dShr := od_intc fun i j h => by
  simp only [cShr, decide_eq_true_eq] at h
  exact h
def rAddA (K : PySem.W.Frag) : R2 := fun x y H Q => (rI0 (fun i j => .int (i + j)) x y H Q ∨ (∃ i j, x = .str i ∧ y = .str j ∧ i.length + j.length ≤ sizeLine ∧ Q (.str (i ++ j)) H)) ∨ rCatA K x y H Q
theorem op_addA {X : Cx} : OpR X (binaryOp .Add) (rAddA X.K) := (OpR.or (OpR.or op_add op_add_str) op_catA)
theorem od_add : OpD K mg (rAddA K) dAdd := fun We F H σ x y v u Q hF rx ry h => by
  cases x with
  | int i =>
    cases y <;> try exact h.elim
    cases rx; cases ry
    exact .inl (.inl ⟨_, _, rfl, rfl, h F H _ (Ext.refl hF) (.int _)⟩)
  | str a =>
    cases y <;> try exact h.elim
    cases rx; cases ry
    rename_i b
    have h : Out K mg We (RD K mg) F H σ Q (if a.length + b.length ≤ lim then .ok (.str (a ++ b)) else .st) := h
    by_cases z : a.length + b.length ≤ lim
    · rw [if_pos z] at h
      exact .inl (.inr ⟨_, _, rfl, rfl, le_line z, h F H _ (Ext.refl hF) (.str _)⟩)
    · rw [if_neg z] at h; exact h.elim
  | tup a =>
    cases y <;> try exact h.elim
    rename_i b
    have h : Out K mg We (RD K mg) F H σ Q (if a.length + b.length ≤ lim then .ok (.tup (a ++ b)) else .st) := h
    by_cases z : a.length + b.length ≤ lim
    · rw [if_pos z] at h
      cases rx with
      | tup s1 r1 =>
        cases ry with
        | tup s2 r2 =>
          refine .inr ⟨_, _, _, _, rfl, rfl, SqT.same hF s1, SqT.same hF s2, by rw [r1.length, r2.length]; exact le_line z, fun e => ?_, fun _ e => ?_, fun e e' p hp => ?_⟩
          · subst e
            cases r1
            exact h F H _ (Ext.refl hF) (.tup s2 r2)
          · subst e
            cases r2
            rw [List.append_nil] at h
            exact h F H _ (Ext.refl hF) (.tup s1 r1)
          · exact h _ _ _ (Ext.new hF hp) (.tup (SqT.of upd_same) ((r1.append r2).mono (same_upd (hF.free hp))))
    · rw [if_neg z] at h; exact h.elim
  | _ => exact h.elim
end

/-! ### == -/
mutual
def D.eqv : D → D → Bool
  | .non, .non => true
  | .bl a, .bl b => a == b
  | .bl a, .int j => (if a then 1 else 0) == j
  | .int i, .bl b => i == (if b then 1 else 0)
  | .int i, .int j => i == j
  | .str x, .str y => x == y
  | .lst xs, .lst ys => eqvs xs ys
  | .tup xs, .tup ys => eqvs xs ys
  | _, _ => false
def eqvs : List D → List D → Bool
  | [], [] => true
  | x :: xs, y :: ys => x.eqv y && eqvs xs ys
  | _, _ => false
end
mutual
def D.py : D → PyData
  | .non => .none
  | .bl b => .bool b
  | .int i => .int i
  | .str x => .str x
  | .lst xs => .list (pys xs)
  | .tup xs => .tuple (pys xs)
  | .obj _ _ _ => .none
def pys : List D → List PyData
  | [] => []
  | x :: xs => x.py :: pys xs
end
mutual
/-- of this depth at most, no instance, texts of real signs -/
def dOk : Nat → D → Bool
  | _, .non => true
  | _, .bl _ => true
  | _, .int _ => true
  | _, .str x => PyData.strOk x
  | n, .lst xs => match n with
    | 0 => false
    | n + 1 => dOks n xs
  | n, .tup xs => match n with
    | 0 => false
    | n + 1 => dOks n xs
  | _, .obj _ _ _ => false
def dOks : Nat → List D → Bool
  | _, [] => true
  | n, x :: xs => dOk n x && dOks n xs
end
mutual
theorem dOk_lay : ∀ (d : D) (n : Nat), dOk n d = true → d.py.canLay0 = true ∧ d.py.depth ≤ n
  | .non, _, _ => ⟨rfl, Nat.zero_le _⟩
  | .bl _, _, _ => ⟨rfl, Nat.zero_le _⟩
  | .int _, _, _ => ⟨rfl, Nat.zero_le _⟩
  | .str x, n, h => ⟨by cases n <;> exact h, Nat.zero_le _⟩
  | .lst xs, n, h => by
    cases n with
    | zero => cases h
    | succ n =>
      obtain ⟨a, b⟩ := dOks_lay xs n h
      exact ⟨a, Nat.succ_le_succ b⟩
  | .tup xs, n, h => by
    cases n with
    | zero => cases h
    | succ n =>
      obtain ⟨a, b⟩ := dOks_lay xs n h
      exact ⟨a, Nat.succ_le_succ b⟩
  | .obj _ _ _, n, h => by cases n <;> cases h
theorem dOks_lay : ∀ (ds : List D) (n : Nat), dOks n ds = true → PyData.canLayAll0 (pys ds) = true ∧ PyData.depthAll (pys ds) ≤ n
  | [], _, _ => ⟨rfl, Nat.zero_le _⟩
  | x :: xs, n, h => by
    have h : (dOk n x && dOks n xs) = true := by cases n <;> exact h
    rw [Bool.and_eq_true] at h
    obtain ⟨a, b⟩ := dOk_lay x n h.1
    obtain ⟨c, d⟩ := dOks_lay xs n h.2
    exact ⟨by show (_ && _) = true; rw [a, c]; rfl, Nat.max_le.mpr ⟨b, d⟩⟩
end
theorem dOk_shaped {d : D} (h : dOk 16 d = true) : SeqAt.shaped d.py = true := by
  obtain ⟨a, b⟩ := dOk_lay d 16 h
  unfold SeqAt.shaped
  rw [a, decide_eq_true (show d.py.depth ≤ 64 by omega)]
  rfl
mutual
theorem eqv_py : ∀ (d e : D) (n m : Nat), dOk n d = true → dOk m e = true → PyData.eqv d.py e.py = d.eqv e
  | .non, e, n, m, h1, h2 => by cases e <;> first | rfl | (cases m <;> cases h2)
  | .bl _, e, n, m, h1, h2 => by cases e <;> first | rfl | (cases m <;> cases h2)
  | .int _, e, n, m, h1, h2 => by cases e <;> first | rfl | (cases m <;> cases h2)
  | .str _, e, n, m, h1, h2 => by cases e <;> first | rfl | (cases m <;> cases h2)
  | .lst xs, e, n, m, h1, h2 => by
    cases e <;> first | rfl | (cases m <;> cases h2; done) | skip
    cases n with
    | zero => cases h1
    | succ n =>
      cases m with
      | zero => cases h2
      | succ m => exact eqvs_py xs _ n m h1 h2
  | .tup xs, e, n, m, h1, h2 => by
    cases e <;> first | rfl | (cases m <;> cases h2; done) | skip
    cases n with
    | zero => cases h1
    | succ n =>
      cases m with
      | zero => cases h2
      | succ m => exact eqvs_py xs _ n m h1 h2
  | .obj _ _ _, e, n, m, h1, h2 => by cases n <;> cases h1
theorem eqvs_py : ∀ (ds es : List D) (n m : Nat), dOks n ds = true → dOks m es = true → PyData.eqvAll (pys ds) (pys es) = eqvs ds es
  | [], es, n, m, h1, h2 => by cases es <;> rfl
  | x :: xs, es, n, m, h1, h2 => by
    cases es with
    | nil => rfl
    | cons y ys =>
      have h1 : (dOk n x && dOks n xs) = true := by cases n <;> exact h1
      have h2 : (dOk m y && dOks m ys) = true := by cases m <;> exact h2
      rw [Bool.and_eq_true] at h1 h2
      show (PyData.eqv x.py y.py && PyData.eqvAll (pys xs) (pys ys)) = (x.eqv y && eqvs xs ys)
      rw [eqv_py x y n m h1.1 h2.1, eqvs_py xs ys n m h1.2 h2.2]
end
section
variable {K : PySem.W.Frag} {mg : Str → Option Value}
mutual
theorem Rep.dp {F : Hp} : ∀ (d : D) (v : V) (n : Nat), dOk n d = true → Rep K mg F v d → Dp K F v d.py
  | .non, _, _, _, h => by cases h; exact .non
  | .bl b, _, _, _, h => by cases h; exact .bl b
  | .int i, _, _, _, h => by cases h; exact .int i
  | .str x, _, _, _, h => by cases h; exact .str x
  | .lst ds, _, n, k, h => by
    cases n with
    | zero => cases k
    | succ n =>
      cases h with
      | lst a b => exact .lst a (RepAll.dp ds _ n k b)
  | .tup ds, _, n, k, h => by
    cases n with
    | zero => cases k
    | succ n =>
      cases h with
      | tup a b => exact .tup a (RepAll.dp ds _ n k b)
  | .obj _ _ _, _, n, k, h => by cases n <;> cases k
theorem RepAll.dp {F : Hp} : ∀ (ds : List D) (vs : List V) (n : Nat), dOks n ds = true → RepAll K mg F vs ds → DpAll K F vs (pys ds)
  | [], _, _, _, h => by cases h; exact .nil
  | d :: ds, _, n, k, h => by
    have k : (dOk n d && dOks n ds) = true := by cases n <;> exact k
    rw [Bool.and_eq_true] at k
    cases h with
    | cons a b => exact .cons (Rep.dp d _ n k.1 a) (RepAll.dp ds _ n k.2 b)
end
end
def dEq (x y : D) : Res D := if dOk 16 x = true ∧ dOk 16 y = true then .ok (.bl (x.eqv y)) else .st
def dNe (x y : D) : Res D := if dOk 16 x = true ∧ dOk 16 y = true then .ok (.bl (!x.eqv y)) else .st
section
variable {K : PySem.W.Frag} {mg : Str → Option Value}
theorem od_eq : OpD K mg (rEqD K) dEq := fun We F H σ x y v u Q hF rx ry h => by
  unfold dEq at h
  by_cases z : dOk 16 x = true ∧ dOk 16 y = true
  · rw [if_pos z] at h
    exact ⟨x.py, y.py, (rx.mono hF).dp _ _ _ z.1, (ry.mono hF).dp _ _ _ z.2, dOk_shaped z.1, dOk_shaped z.2, by rw [eqv_py x y 16 16 z.1 z.2]; exact h F H _ (Ext.refl hF) (.bl _)⟩
  · rw [if_neg z] at h; exact h.elim
theorem od_ne : OpD K mg (rNeD K) dNe := fun We F H σ x y v u Q hF rx ry h => by
  unfold dNe at h
  by_cases z : dOk 16 x = true ∧ dOk 16 y = true
  · rw [if_pos z] at h
    exact ⟨x.py, y.py, (rx.mono hF).dp _ _ _ z.1, (ry.mono hF).dp _ _ _ z.2, dOk_shaped z.1, dOk_shaped z.2, by rw [eqv_py x y 16 16 z.1 z.2]; exact h F H _ (Ext.refl hF) (.bl _)⟩
  · rw [if_neg z] at h; exact h.elim
end
/-! ### is None -/
def D.isN : D → Bool
  | .non => true
  | _ => false
def dIsN : D → D → Res D
  | x, .non => .ok (.bl x.isN)
  | _, _ => .st
def dNotN : D → D → Res D
  | x, .non => .ok (.bl (!x.isN))
  | _, _ => .st
section
variable {K : PySem.W.Frag} {mg : Str → Option Value}
end
def rIsNone : R2 := fun x y H Q => y = .non ∧ Q (.bl (decide (x = .non))) H
def rNotNone : R2 := fun x y H Q => y = .non ∧ Q (.bl (!decide (x = .non))) H
section
variable {K : PySem.W.Frag} {mg : Str → Option Value}
theorem isN_of {F : Hp} {v : V} {x : D} (r : Rep K mg F v x) : decide (v = .non) = x.isN := by
  cases r <;> first | rfl | exact decide_eq_false (fun z => nomatch z)
theorem od_isN : OpD K mg rIsNone dIsN := fun We F H σ x y v u Q hF rx ry h => by
  cases y <;> try exact h.elim
  cases ry
  exact ⟨rfl, by rw [isN_of rx]; exact h F H _ (Ext.refl hF) (.bl _)⟩
theorem od_notN : OpD K mg rNotNone dNotN := fun We F H σ x y v u Q hF rx ry h => by
  cases y <;> try exact h.elim
  cases ry
  exact ⟨rfl, by rw [isN_of rx]; exact h F H _ (Ext.refl hF) (.bl _)⟩
end
end DL
set_option Elab.async false
set_option linter.all false
set_option maxRecDepth 100000
set_option maxHeartbeats 1000000
/-! DL4: what is walked, for, comprehensions, defs and their calls. -/
namespace DL
open PySem PySem.Spec PyProof.Rows L2

/-! ### what is walked -/
/-- J walks ds as long as F stands still -/
def ItD (K : PySem.W.Frag) (mg : Str → Option Value) (J : It) (F : Hp) (ds : List D) : Prop := ∀ (i : Nat) (Fc H : Hp), Same F Fc → Same Fc H →
  (i = ds.length → J.stop i H) ∧ ∀ d, ds[i]? = some d → J.go i H ∧ ∀ x H', J.yld i H x H' → ∃ F2, Ext Fc H F2 H' ∧ Rep K mg F2 x d
abbrev RI (K : PySem.W.Frag) (mg : Str → Option Value) : Hp → Hp → Hp → It → List D → Prop := fun _ F' _ J ds => ItD K mg J F' ds
abbrev RI0 (K : PySem.W.Frag) (mg : Str → Option Value) : Hp → Hp → Hp → It → List D → Prop := fun _ _ _ J ds => ItD K mg J (fun _ => none) ds
instance {K : PySem.W.Frag} {mg : Str → Option Value} : Anti (RI K mg) := ⟨fun _ h => h⟩
instance {K : PySem.W.Frag} {mg : Str → Option Value} : Anti (RI0 K mg) := ⟨fun _ h => h⟩
abbrev ID (X : Cx) (We : WeX) (S : List Nat) (tg iter : PySem.Expr) (f : DEnv → Res (List D)) : Prop := PI X tg iter (tG X.K X.mg We (RI X.K X.mg) S f)
abbrev ID0 (X : Cx) (We : WeX) (S : List Nat) (tg iter : PySem.Expr) (f : DEnv → Res (List D)) : Prop := PI X tg iter (tG X.K X.mg We (RI0 X.K X.mg) S f)
theorem pi_imp {X : Cx} {tg iter : PySem.Expr} {t t' : TI} (h : PI X tg iter t) (i : ∀ σ H Q, t' σ H Q → t σ H Q) : PI X tg iter t' := ⟨fun pins s σ H R I q => h.run pins s σ H R I (i σ H R q)⟩
theorem id_of0 {X : Cx} {We : WeX} {S : List Nat} {tg iter : PySem.Expr} {f : DEnv → Res (List D)} (h : ID0 X We S tg iter f) : ID X We S tg iter f :=
  pi_imp h fun σ H Q ⟨F, ρ, hF, hE, q⟩ => ⟨F, ρ, hF, hE, by
    cases hf : f ρ with
    | ok ds => rw [hf] at q; exact fun F' H' J ex r => q F' H' J ex fun i Fc H a b => r i Fc H (fun _ _ z => by cases z) b
    | er x => rw [hf] at q; exact q
    | st => rw [hf] at q; exact q⟩
section
variable {K : PySem.W.Frag} {mg : Str → Option Value} {F : Hp}
theorem itd_list {a : Addr} {vs : List V} {ds : List D} (h : SqL K F a vs) (r : RepAll K mg F vs ds) : ItD K mg (Itl K a) F ds := fun i Fc H s1 s2 => by
  have q := SqL.same (s1.trans s2) h
  refine ⟨fun e => ⟨vs, q, by rw [r.length, e]; exact Nat.le_refl _⟩, fun d hd => ?_⟩
  obtain ⟨v, hv, rv⟩ := r.get hd
  refine ⟨⟨vs, v, q, hv⟩, fun x H' y => ?_⟩
  obtain ⟨e, y⟩ := y
  subst e
  have e := (y vs q).symm.trans hv
  cases e
  exact ⟨Fc, Ext.refl s2, rv.mono s1⟩
theorem itd_tup {a : Addr} {vs : List V} {ds : List D} (h : SqT K F a vs) (r : RepAll K mg F vs ds) : ItD K mg (Itt K a) F ds := fun i Fc H s1 s2 => by
  have q := SqT.same (s1.trans s2) h
  refine ⟨fun e => ⟨vs, q, by rw [r.length, e]; exact Nat.le_refl _⟩, fun d hd => ?_⟩
  obtain ⟨v, hv, rv⟩ := r.get hd
  refine ⟨⟨vs, v, q, hv⟩, fun x H' y => ?_⟩
  obtain ⟨e, y⟩ := y
  subst e
  have e := (y vs q).symm.trans hv
  cases e
  exact ⟨Fc, Ext.refl s2, rv.mono s1⟩
/-- the signs of a text -/
def signs (z : Str) : List D := z.cps.toList.map fun c => .str ⟨#[c]⟩
theorem itd_str {z : Str} : ItD K mg (Its z) F (signs z) := fun i Fc H s1 s2 => by
  refine ⟨fun e => ?_, fun d hd => ?_⟩
  · show z.cps.size ≤ i
    rw [e]
    simp [signs]
  · unfold signs at hd
    rw [List.getElem?_map] at hd
    cases hc : z.cps.toList[i]? with
    | none => rw [hc] at hd; cases hd
    | some c =>
      rw [hc] at hd
      cases hd
      have hc' : z.cps[i]? = some c := by simpa using hc
      refine ⟨(Array.getElem?_eq_some_iff.mp hc').1, fun x H' y => ?_⟩
      obtain ⟨e, c', h1, h2⟩ := y
      subst e h2
      rw [hc'] at h1
      cases h1
      exact ⟨Fc, Ext.refl s2, .str _⟩
def rangeD (lo : Int) (n : Nat) : List D := (List.range n).map fun (k : Nat) => .int (lo + k)
theorem itd_range {lo : Int} {n : Nat} : ItD K mg (Itr lo n) F (rangeD lo n) := fun i Fc H s1 s2 => by
  refine ⟨fun e => ?_, fun d hd => ?_⟩
  · show n ≤ i
    rw [e]; simp [rangeD]
  · unfold rangeD at hd
    rw [List.getElem?_map] at hd
    cases hc : (List.range n)[i]? with
    | none => rw [hc] at hd; cases hd
    | some c =>
      rw [hc] at hd
      cases hd
      obtain ⟨h1, h2⟩ := List.getElem?_eq_some_iff.mp hc
      have h1 : i < n := by simpa using h1
      have h2 : i = c := by simpa using h2
      subst h2
      refine ⟨h1, fun x H' y => ?_⟩
      obtain ⟨e, e2⟩ := y
      subst e e2
      exact ⟨Fc, Ext.refl s2, .int _⟩
end
def items : D → Res (List D)
  | .lst xs => .ok xs
  | .tup xs => .ok xs
  | .str z => .ok (signs z)
  | _ => .st
def eIt (f : DEnv → Res D) : DEnv → Res (List D) := fun ρ => (f ρ).bind items
section
variable {X : Cx} {We : WeX} {S : List Nat} {tg e : PySem.Expr}
theorem id_seq {f : DEnv → Res D} (h : PD X We S e f) : ID X We S tg e (eIt f) := by
  refine ⟨fun pins s σ H R I ⟨F, ρ, hF, hE, q⟩ => ?_⟩
  have q : Out X.K X.mg We (RI X.K X.mg) F H σ R ((f ρ).bind items) := q
  cases hf : f ρ with
  | st => rw [hf] at q; exact q.elim
  | er x =>
    rw [hf] at q
    exact (pi_list h).run pins s σ H R I ⟨F, ρ, hF, hE, by rw [hf]; exact q⟩
  | ok d =>
    rw [hf] at q
    have q : Out X.K X.mg We (RI X.K X.mg) F H σ R (items d) := q
    cases d with
    | lst xs =>
      refine (pi_list h).run pins s σ H R I ⟨F, ρ, hF, hE, ?_⟩
      rw [hf]
      intro F' H' v ex r
      cases r with
      | lst a b => exact ⟨_, rfl, ⟨_, SqL.same ex.2.1 a⟩, q F' H' _ ex (itd_list a b)⟩
    | tup xs =>
      refine (pi_tup h).run pins s σ H R I ⟨F, ρ, hF, hE, ?_⟩
      rw [hf]
      intro F' H' v ex r
      cases r with
      | tup a b => exact ⟨_, rfl, ⟨_, SqT.same ex.2.1 a⟩, q F' H' _ ex (itd_tup a b)⟩
    | str z =>
      refine (pi_str h).run pins s σ H R I ⟨F, ρ, hF, hE, ?_⟩
      rw [hf]
      intro F' H' v ex r
      cases r
      exact ⟨_, rfl, q F' H' _ ex itd_str⟩
    | _ => exact q.elim
/-- a new list that is walked -/
theorem id_new {g : DEnv → Res (List D)} (h : PF X We S e g) : ID X We S tg e g := by
  refine pi_imp (pi_list h) fun σ H R ⟨F, ρ, hF, hE, q⟩ => ⟨F, ρ, hF, hE, ?_⟩
  cases hf : g ρ with
  | st => rw [hf] at q; exact q.elim
  | er x => rw [hf] at q; exact q
  | ok xs =>
    rw [hf] at q
    intro F' H' v ex r
    obtain ⟨F2, ex2, s2, r2⟩ := fz_ok ex r
    cases r2 with
    | lst a b => exact ⟨_, rfl, ⟨_, SqL.same ex2.2.1 a⟩, q F2 H' _ ex2 (itd_list a b)⟩
def cR (i : Int) : Bool := decide (i.natAbs < 4611686018427387904)
theorem cR_ok {i : Int} (h : cR i = true) : -(2 ^ 62) ≤ i ∧ i < 2 ^ 62 := by
  unfold cR at h
  rw [decide_eq_true_eq] at h
  have e : (2 : Int) ^ 62 = 4611686018427387904 := rfl
  rw [e]
  omega
def rng1 : List D → Res (List D)
  | [.int j] => if cR j = true then .ok (rangeD 0 j.toNat) else .st
  | _ => .st
def rng2 : List D → Res (List D)
  | [.int i, .int j] => if cR i = true ∧ cR j = true then .ok (rangeD i (j - i).toNat) else .st
  | _ => .st
def eL {β : Type} (r : List D → Res β) (g : DEnv → Res (List D)) : DEnv → Res β := fun ρ => (g ρ).bind r
theorem rng1_ok {ds : List D} {xs : List D} (h : rng1 ds = .ok xs) : ∃ j, ds = [.int j] ∧ cR j = true ∧ xs = rangeD 0 j.toNat := by
  unfold rng1 at h
  split at h
  · split at h
    · rename_i z
      cases h
      exact ⟨_, rfl, z, rfl⟩
    · cases h
  · cases h
theorem rng1_ner {ds : List D} {x : Exn} (h : rng1 ds = .er x) : False := by
  unfold rng1 at h
  split at h
  · split at h <;> cases h
  · cases h
theorem id_range1 {a : PySem.Expr} {g : DEnv → Res (List D)} {p pos : Pos} (hm : X.mg "range" = none) (ha : PAD X We S [a] g) (hg : Gl X "range" := by rfl) (hs : starEach [a] X.env = [(false, eval a X.env)] := by rfl) : ID0 X We S tg (.Call (.Name "range" p) [a] [] pos) (eL rng1 g) :=
  pi_imp (pi_range1 hg hm ha hs) fun σ H R ⟨F, ρ, hF, hE, q⟩ => ⟨F, ρ, hF, hE, Out.bind q fun ds F1 H1 vs ex r q1 => by
    cases h2 : rng1 ds with
    | st => rw [h2] at q1; exact q1.elim
    | er x => exact (rng1_ner h2).elim
    | ok xs =>
      rw [h2] at q1
      obtain ⟨j, rfl, c1, rfl⟩ := rng1_ok h2
      obtain ⟨v, rfl, rv⟩ := r.one
      cases rv
      exact ⟨j, rfl, (cR_ok c1).1, (cR_ok c1).2, q1 F1 H1 _ (Ext.refl ex.2.1) itd_range⟩⟩
theorem rng2_ok {ds : List D} {xs : List D} (h : rng2 ds = .ok xs) : ∃ i j, ds = [.int i, .int j] ∧ cR i = true ∧ cR j = true ∧ xs = rangeD i (j - i).toNat := by
  unfold rng2 at h
  split at h
  · split at h
    · rename_i z
      cases h
      exact ⟨_, _, rfl, z.1, z.2, rfl⟩
    · cases h
  · cases h
theorem rng2_ner {ds : List D} {x : Exn} (h : rng2 ds = .er x) : False := by
  unfold rng2 at h
  split at h
  · split at h <;> cases h
  · cases h
theorem id_range2 {a b : PySem.Expr} {g : DEnv → Res (List D)} {p pos : Pos} (hm : X.mg "range" = none) (ha : PAD X We S [a, b] g) (hg : Gl X "range" := by rfl) (hs : starEach [a, b] X.env = [(false, eval a X.env), (false, eval b X.env)] := by rfl) (hs2 : starEach [b] X.env = [(false, eval b X.env)] := by rfl) :
    ID0 X We S tg (.Call (.Name "range" p) [a, b] [] pos) (eL rng2 g) :=
  pi_imp (pi_range2 hg hm ha hs hs2) fun σ H R ⟨F, ρ, hF, hE, q⟩ => ⟨F, ρ, hF, hE, Out.bind q fun ds F1 H1 vs ex r q1 => by
    cases h2 : rng2 ds with
    | st => rw [h2] at q1; exact q1.elim
    | er x => exact (rng2_ner h2).elim
    | ok xs =>
      rw [h2] at q1
      obtain ⟨i, j, rfl, c1, c2, rfl⟩ := rng2_ok h2
      obtain ⟨v, u, rfl, rv, ru⟩ := r.two
      cases rv; cases ru
      exact ⟨i, j, rfl, ⟨(cR_ok c1).1, (cR_ok c1).2, (cR_ok c2).1, (cR_ok c2).2⟩, q1 F1 H1 _ (Ext.refl ex.2.1) itd_range⟩⟩
end

/-! ### for -/
def forL (sl : List Nat) (g : D → Option (List D)) (fb : DEnv → SRes) : List D → DEnv → SRes
  | [], ρ => .nx ρ
  | d :: ds, ρ => match g d with
    | none => .st
    | some vs => match fb (setAll ρ sl (vs.map Slot.d)) with
      | .nx ρ' => forL sl g fb ds ρ'
      | .ct ρ' => forL sl g fb ds ρ'
      | .bk ρ' => .nx ρ'
      | r => r
def sFor (S sl : List Nat) (fi : DEnv → Res (List D)) (g : D → Option (List D)) (fb : DEnv → SRes) : DEnv → SRes := fun ρ => after (fi ρ) ρ fun ds => forL sl g fb ds (dem S ρ)
/-- .. over a range: no list is put to rest -/
def sForR (sl : List Nat) (fi : DEnv → Res (List D)) (g : D → Option (List D)) (fb : DEnv → SRes) : DEnv → SRes := fun ρ => after (fi ρ) ρ fun ds => forL sl g fb ds ρ
section
variable {K : PySem.W.Frag} {mg : Str → Option Value} {fr : Bool} {We : WeX} {B : Bs} {F1 F H : Hp} {σ : L2.St} {ρ : DEnv} {E : Ends}
/-- another base: what stands still by now -/
def base2 (F1 H0 : Hp) : Hp := fun p => match F1 p with
  | some o => some o
  | none => H0 p
def Bs.b2 (B : Bs) (F1 : Hp) : Bs := ⟨F1, base2 F1 B.H, B.τ⟩
theorem base2_F {H0 : Hp} {p : Addr} {o : HO} (h : F1 p = some o) : base2 F1 H0 p = some o := by unfold base2; rw [h]
theorem EnvS.base {ex : EXP} (e : EnvS K mg ex B F1 σ H ρ) : EnvS K mg ex (B.b2 F1) F1 σ H ρ := by
  refine ⟨fun p o q => base2_F q, Same.refl _, e.fh, fun p o q => ?_, fun _ _ _ => rfl, e.len, fun i s h => ?_, e.ap⟩
  · have q : base2 F1 B.H p = some o := q
    unfold base2 at q
    split at q
    · rename_i z
      cases q
      exact e.fh _ _ z
    · exact e.hh _ _ q
  · have z := e.sl i s h
    have no : ∀ {a}, F1 a = none → B.H a = none → (B.b2 F1).H a = none := fun {a} a2 a3 => by
      show base2 F1 B.H a = none
      unfold base2
      rw [a2]
      exact a3
    cases s with
    | un => trivial
    | d d => exact z
    | exc x => exact z
    | own t xs =>
      obtain ⟨a, vs, a1, a2, a3, r⟩ := z
      exact ⟨a, vs, a1, a2, no a2 a3, r⟩
    | obo t c ns fs =>
      obtain ⟨a, C, dx, fv, a1, a2, a3, r⟩ := z
      exact ⟨a, C, dx, fv, a1, a2, no a2 a3, r⟩
theorem base2_H {F0 H0 : Hp} (h : ∀ p o, H0 p = some o → F1 p = F0 p) (f0 : Same F0 H0) {p : Addr} {o : HO} (q : H0 p = some o) : base2 F1 H0 p = some o := by
  unfold base2
  split
  · rename_i o' z
    have z1 := (h p o q).symm.trans z
    have z2 := f0 _ _ z1
    rw [q] at z2
    exact z2.symm
  · exact q
theorem base2_none {F0 H0 : Hp} {p : Addr} (h : ∀ p o, H0 p = some o → F1 p = F0 p) (f0 : Same F0 H0) (n : base2 F1 H0 p = none) : H0 p = none := by
  cases q : H0 p with
  | none => rfl
  | some o => rw [base2_H h f0 q] at n; cases n
theorem EnvS.unbase {ex : EXP} {F2 H2 : Hp} {σ2 : L2.St} {ρ2 : DEnv} (e : EnvS K mg ex B F1 σ H ρ) (e2 : EnvS K mg ex (B.b2 F1) F2 σ2 H2 ρ2) : EnvS K mg ex B F2 σ2 H2 ρ2 := by
  refine ⟨e.f0, e.ff.trans e2.ff, e2.fh, fun p o q => e2.hh _ _ (base2_H e.ag e.f0 q), fun p o q => (e2.ag p o (base2_H e.ag e.f0 q)).trans (e.ag p o q), e2.len, fun i s h => ?_, e2.ap⟩
  have z := e2.sl i s h
  cases s with
  | un => trivial
  | d d => exact z
  | exc x => exact z
  | own t xs =>
    obtain ⟨a, vs, a1, a2, a3, r⟩ := z
    exact ⟨a, vs, a1, a2, base2_none e.ag e.f0 a3, r⟩
  | obo t c ns fs =>
    obtain ⟨a, C, dx, fv, a1, a2, a3, r⟩ := z
    exact ⟨a, C, dx, fv, a1, a2, base2_none e.ag e.f0 a3, r⟩
theorem OutS.base (e : EnvS K mg We.ex B F1 σ H ρ) {r : SRes} (h : OutS K mg fr We B E r) : OutS K mg fr We (B.b2 F1) E r := by
  cases r with
  | nx ρ' => exact fun F2 σ2 H2 q => h F2 σ2 H2 (e.unbase q)
  | bk ρ' => exact fun F2 σ2 H2 q => h F2 σ2 H2 (e.unbase q)
  | ct ρ' => exact fun F2 σ2 H2 q => h F2 σ2 H2 (e.unbase q)
  | rt d =>
    intro F2 H2 v ex r
    refine h F2 H2 v ⟨e.ff.trans ex.1, ex.2.1, fun p o q => ex.2.2.1 _ _ (base2_H e.ag e.f0 q), fun p o q => (ex.2.2.2 p o (base2_H e.ag e.f0 q)).trans (e.ag p o q)⟩ ?_
    cases fr with
    | false => exact r
    | true =>
      obtain ⟨xs, e1, p, vs, h1, h2, h3⟩ := r
      exact ⟨xs, e1, p, vs, h1, base2_none e.ag e.f0 h2, h3⟩
  | er x ρ' =>
    intro F2 σ2 H2 C d q m z
    refine h F2 σ2 H2 C d (e.unbase q) m ?_
    rcases z with z | ⟨dx, fv, h1, h2, h3⟩
    · exact .inl z
    · exact .inr ⟨dx, fv, h1, base2_none e.ag e.f0 h2, h3⟩
  | st => exact h
end
section
variable {X : Cx} {fr : Bool} {We : WeX} {S sl : List Nat} {tg iter : PySem.Expr} {fi : DEnv → Res (List D)} {g : D → Option (List D)} {body : List Stmt} {fb : DEnv → SRes} {pos : Pos}
theorem for_loop {B : Bs} {F1 H1 : Hp} {σ1 : L2.St} {ρ1 : DEnv} {E : Ends} {J : It} {ds : List D} {Fi : Hp} (e1 : EnvS X.K X.mg We.ex B F1 σ1 H1 ρ1) (hj : ItD X.K X.mg J Fi ds) (hFi : Same Fi F1) (h : OutS X.K X.mg fr We B E (forL sl g fb ds ρ1)) (hg : ∀ d ds, g d = some ds → ds.length = sl.length) :
    ∃ W : Nat → Nat → L2.St → Hp → Prop, (∃ m, W 0 m σ1 H1) ∧ ∀ i m σ H, W i m σ H →
      (J.stop i H ∧ E.nx σ H) ∨ (J.go i H ∧ ∃ N : L2.St → Hp → Prop, (∀ σ' H', N σ' H' → ∃ m', m' < m ∧ W (i + 1) m' σ' H') ∧ ∀ x H', J.yld i H x H' → tT X.K X.mg sl g x σ H' fun σ2 H2 => tS X.K X.mg fr We fb { E with nx := N, ct := N, bk := E.nx } σ2 H2) := by
  refine ⟨fun i m σ H => m = ds.length - i ∧ i ≤ ds.length ∧ ∃ Fc ρ, EnvS X.K X.mg We.ex (B.b2 F1) Fc σ H ρ ∧ OutS X.K X.mg fr We (B.b2 F1) E (forL sl g fb (ds.drop i) ρ),
    ⟨ds.length, by simp, Nat.zero_le _, F1, ρ1, e1.base, h.base e1⟩, ?_⟩
  rintro i m σ H ⟨rfl, hi, Fc, ρ, e, q⟩
  obtain ⟨j1, j2⟩ := hj i Fc H (hFi.trans e.ff) e.fh
  by_cases hlt : i < ds.length
  · right
    have hd : ds[i]? = some ds[i] := List.getElem?_eq_getElem hlt
    obtain ⟨go, yl⟩ := j2 _ hd
    refine ⟨go, fun σ' H' => ∃ Fc ρ, EnvS X.K X.mg We.ex (B.b2 F1) Fc σ' H' ρ ∧ OutS X.K X.mg fr We (B.b2 F1) E (forL sl g fb (ds.drop (i + 1)) ρ), fun σ' H' n => ⟨ds.length - (i + 1), by omega, rfl, hlt, n⟩, fun x H' y => ?_⟩
    obtain ⟨F2, ex, rx⟩ := yl x H' y
    rw [List.drop_eq_getElem_cons hlt] at q
    have q : OutS X.K X.mg fr We (B.b2 F1) E (match g ds[i] with
      | none => .st
      | some vs => match fb (setAll ρ sl (vs.map Slot.d)) with
        | .nx ρ' => forL sl g fb (ds.drop (i + 1)) ρ'
        | .ct ρ' => forL sl g fb (ds.drop (i + 1)) ρ'
        | .bk ρ' => .nx ρ'
        | r => r) := q
    have e' := e.grow ex
    cases hgd : g ds[i] with
    | none => rw [hgd] at q; exact q.elim
    | some vs =>
      rw [hgd] at q
      refine ⟨F2, ds[i], vs, e'.fh, rx, hgd, hg _ _ hgd, fun us ru => ?_⟩
      refine ⟨B.b2 F1, F2, _, EnvS.setAll sl us vs e' ru, ?_⟩
      cases hf : fb (setAll ρ sl (vs.map Slot.d)) with
      | nx ρ' => simp only [hf] at q; exact fun F σ H z => ⟨F, ρ', z, q⟩
      | ct ρ' => simp only [hf] at q; exact fun F σ H z => ⟨F, ρ', z, q⟩
      | bk ρ' => simp only [hf] at q; exact q
      | rt d => simp only [hf] at q; exact q
      | er x ρ' => simp only [hf] at q; exact q
      | st => simp only [hf] at q; exact q
  · left
    have ei : i = ds.length := by omega
    refine ⟨j1 ei, ?_⟩
    rw [List.drop_eq_nil_of_le (by omega)] at q
    exact q Fc σ H e
theorem sd_for (hp : PassesOwn (model X.prog X.w) X.A X.env X.xe) (hc : X.calm = true) (hi : ID X We S tg iter fi) (hg : GD X tg sl g) (hb : SDs X fr We body fb)
    (hs : ∀ x, foldedSetIterable iter X.env x = pure x := by intro _; rfl) : SD X fr We (.For tg iter body [] pos) (sFor S sl fi g fb) :=
  ps_imp (ps_for hp hc hi hg.1 hb hs) fun E σ H ⟨B, F, ρ, e, h⟩ => OutS.eval e h fun Fp F' H' J ds hf hq ex r e1 _ => for_loop e1 r (Same.refl _) hq hg.2
theorem sd_forR (hp : PassesOwn (model X.prog X.w) X.A X.env X.xe) (hc : X.calm = true) (hi : ID0 X We S tg iter fi) (hg : GD X tg sl g) (hb : SDs X fr We body fb)
    (hs : ∀ x, foldedSetIterable iter X.env x = pure x := by intro _; rfl) : SD X fr We (.For tg iter body [] pos) (sForR sl fi g fb) :=
  ps_imp (ps_for hp hc hi hg.1 hb hs) fun E σ H ⟨B, F, ρ, e, h⟩ => OutS.eval e h fun Fp F' H' J ds hf hq ex r e1 ⟨F2, e2, _, _⟩ => for_loop e2 r (fun _ _ z => by cases z) hq hg.2
end

/-! ### list comprehensions -/
/-- nothing may be raised -/
abbrev We0 (ex : EXP) : WeX := ⟨fun _ _ _ _ => False, ex⟩
def Res.bindN {α β : Type} (r : Res α) (g : α → Res β) : Res β := match r with
  | .ok a => g a
  | _ => .st
def lcL (sl : List Nat) (g : D → Option (List D)) (ft : DEnv → Res Bool) (fe : DEnv → Res D) (ρ : DEnv) : List D → Res (List D)
  | [] => .ok []
  | d :: ds => match g d with
    | none => .st
    | some vs => (ft (setAll ρ sl (vs.map Slot.d))).bindN fun b => if b then (fe (setAll ρ sl (vs.map Slot.d))).bindN fun y => (lcL sl g ft fe ρ ds).bindN fun ys => .ok (y :: ys) else lcL sl g ft fe ρ ds
def eLc (sl : List Nat) (fi : DEnv → Res (List D)) (g : D → Option (List D)) (ft : DEnv → Res Bool) (fe : DEnv → Res D) : DEnv → Res (List D) := fun ρ => (fi ρ).bind fun ds => (lcL sl g ft fe ρ ds).bindN okLen
def tYesD : DEnv → Res Bool := fun _ => .ok true
abbrev PTsD (X : Cx) (We : WeX) (S : List Nat) (es : List PySem.Expr) (f : DEnv → Res Bool) : Prop := PTs X es (tG X.K X.mg We RB S f)
theorem ptsd_nil {X : Cx} {We : WeX} : PTsD X We [] [] tYesD := ⟨fun pins s σ H Q I ⟨F, ρ, hF, hE, q⟩ => pts_nil.run pins s σ H Q I (q F H true (Ext.refl hF) rfl)⟩
theorem ptsd_one {X : Cx} {We : WeX} {S : List Nat} {c : PySem.Expr} {f : DEnv → Res Bool} (h : PTD X We S c f) : PTsD X We S [c] f := pts_one h
theorem wipe_set {σ : L2.St} {i : Nat} {x : Option V} : ∀ {vs : List Nat}, i ∈ vs → wipe (σ.set i x) vs = wipe σ vs
  | v :: vs, h => by
    unfold wipe
    by_cases hi : i ∈ vs
    · rw [wipe_set hi]
    · have hv : i = v := by
        rcases List.mem_cons.mp h with h | h
        · exact h
        · exact absurd h hi
      subst hv
      have key : ∀ (us : List Nat) (τ : L2.St), i ∉ us → (wipe (τ.set i x) us) = (wipe τ us).set i x := fun us => by
        induction us with
        | nil => intro τ _; rfl
        | cons u us ih =>
          intro τ hu
          simp only [List.mem_cons, not_or] at hu
          unfold wipe
          rw [ih τ hu.2, List.set_comm _ _ hu.1]
      rw [key vs σ hi, List.set_set]
theorem wipe_setAll {vs : List Nat} : ∀ (sl : List Nat) (xs : List (Option V)) (σ : L2.St), (∀ i ∈ sl, i ∈ vs) → wipe (setAll σ sl xs) vs = wipe σ vs
  | [], xs, _, _ => by cases xs <;> rfl
  | _ :: _, [], _, _ => rfl
  | i :: sl, x :: xs, σ, h => by
    show wipe (setAll (σ.set i x) sl xs) vs = _
    rw [wipe_setAll sl xs _ fun j hj => h j (List.mem_cons_of_mem _ hj), wipe_set (h i List.mem_cons_self)]
theorem wipe_wipe {σ : L2.St} {vs : List Nat} : wipe (wipe σ vs) vs = wipe σ vs := by
  have key : ∀ (us : List Nat), (∀ u ∈ us, u ∈ vs) → wipe (wipe σ us) vs = wipe σ vs := fun us => by
    induction us with
    | nil => intro _; rfl
    | cons u us ih =>
      intro h
      show wipe ((wipe σ us).set u none) vs = _
      rw [wipe_set (h u List.mem_cons_self), ih fun w hw => h w (List.mem_cons_of_mem _ hw)]
  exact key vs fun _ h => h
theorem wipe_get {σ : L2.St} {i : Nat} : ∀ {vs : List Nat}, i ∉ vs → (wipe σ vs)[i]? = σ[i]?
  | [], _ => rfl
  | v :: vs, h => by
    simp only [List.mem_cons, not_or] at h
    unfold wipe
    rw [List.getElem?_set_ne (Ne.symm h.1), wipe_get h.2]
theorem setAll_get {α : Type} {i : Nat} : ∀ {sl : List Nat} {xs : List α} {l : List α}, i ∉ sl → (setAll l sl xs)[i]? = l[i]?
  | [], xs, _, _ => by cases xs <;> rfl
  | _ :: _, [], _, _ => rfl
  | j :: sl, x :: xs, l, h => by
    simp only [List.mem_cons, not_or] at h
    show (setAll (l.set j x) sl xs)[i]? = _
    rw [setAll_get h.2, List.getElem?_set_ne (Ne.symm h.1)]
theorem setAll_length {α : Type} : ∀ {sl : List Nat} {xs : List α} {l : List α}, (setAll l sl xs).length = l.length
  | [], xs, _ => by cases xs <;> rfl
  | _ :: _, [], _ => rfl
  | j :: sl, x :: xs, l => by
    show (setAll (l.set j x) sl xs).length = _
    rw [setAll_length, List.length_set]
/-- the slots sl of both sides set alike -/
theorem setAll_rel {K : PySem.W.Frag} {mg : Str → Option Value} {F : Hp} : ∀ (sl : List Nat) (vs : List V) (ds : List D) (σ : L2.St) (ρ : DEnv), σ.length = ρ.length → RepAll K mg F vs ds → ds.length = sl.length →
    ∀ (i : Nat) s d, ((∀ s d, ρ[i]? = some s → s.val = some d → ∃ v, σ[i]? = some (some v) ∧ Rep K mg F v d) ∨ i ∈ sl) → (setAll ρ sl (ds.map Slot.d))[i]? = some s → s.val = some d → ∃ v, (setAll σ sl (vs.map some))[i]? = some (some v) ∧ Rep K mg F v d
  | [], [], [], σ, ρ, _, _, _, i, s, d, h, h1, h2 => by
    rcases h with h | h
    · exact h s d h1 h2
    · cases h
  | [], _, _ :: _, _, _, _, _, l, _, _, _, _, _, _ => by cases l
  | [], _ :: _, [], _, _, _, r, _, _, _, _, _, _, _ => by cases r
  | _ :: _, _, [], _, _, _, _, l, _, _, _, _, _, _ => by cases l
  | _ :: _, [], _ :: _, _, _, _, r, _, _, _, _, _, _, _ => by cases r
  | j :: sl, v :: vs, d0 :: ds, σ, ρ, hl, r, l, i, s, d, h, h1, h2 => by
    cases r with
    | cons a b =>
      refine setAll_rel sl vs ds (σ.set j (some v)) (ρ.set j (.d d0)) (by rw [List.length_set, List.length_set]; exact hl) b (by simpa using l) i s d ?_ h1 h2
      by_cases e : i = j
      · subst e
        left
        intro s' d' q1 q2
        rcases set_get q1 with ⟨_, q, hi⟩ | ⟨n, _⟩
        · rw [q] at q2
          cases q2
          exact ⟨v, List.getElem?_set_self (by rw [hl]; exact hi), a⟩
        · exact absurd rfl n
      · rcases h with h | h
        · left
          rw [List.getElem?_set_ne (Ne.symm e), List.getElem?_set_ne (Ne.symm e)]
          exact h
        · right
          rcases List.mem_cons.mp h with h | h
          · exact absurd h e
          · exact h
theorem setAll_exc {k : Nat} {x : Exn} : ∀ (sl : List Nat) (ds : List D) (ρ : DEnv), ds.length = sl.length → (setAll ρ sl (ds.map Slot.d))[k]? = some (.exc x) → k ∉ sl ∧ ρ[k]? = some (.exc x)
  | [], [], ρ, _, h => ⟨by simp, h⟩
  | [], _ :: _, _, l, _ => by cases l
  | _ :: _, [], _, l, _ => by cases l
  | j :: sl, d :: ds, ρ, l, h => by
    obtain ⟨h1, h2⟩ := setAll_exc sl ds (ρ.set j (.d d)) (by simpa using l) h
    rcases set_get h2 with ⟨_, q, _⟩ | ⟨n, q⟩
    · cases q
    · exact ⟨by simp [n, h1], q⟩
theorem bindN_ok {α β : Type} {r : Res α} {g : α → Res β} {b : β} (h : r.bindN g = .ok b) : ∃ a, r = .ok a ∧ g a = .ok b := by
  cases r with
  | ok a => exact ⟨a, rfl, h⟩
  | er x => cases h
  | st => cases h
theorem bindN_ner {α β : Type} {r : Res α} {g : α → Res β} (hg : ∀ a x, g a ≠ .er x) (x : Exn) : r.bindN g ≠ .er x := by
  cases r with
  | ok a => exact hg a x
  | er x => intro z; cases z
  | st => intro z; cases z
theorem okLen_ok {xs ys : List D} (h : okLen xs = .ok ys) : ys = xs ∧ xs.length ≤ lim := by
  unfold okLen at h
  split at h
  · cases h; exact ⟨rfl, by assumption⟩
  · cases h
theorem okLen_ner (xs : List D) (x : Exn) : okLen xs ≠ .er x := by
  unfold okLen
  split <;> (intro z; cases z)
/-- what a comprehension reads of the slots outside of it -/
def minus (S sl : List Nat) : List Nat := S.filter fun i => !sl.contains i
theorem mem_minus {S sl : List Nat} {i : Nat} (h : i ∈ S) : i ∈ sl ∨ i ∈ minus S sl := by
  by_cases z : sl.contains i = true
  · exact .inl (by simpa using z)
  · exact .inr (List.mem_filter.mpr ⟨h, by simpa using z⟩)
section
variable {X : Cx} {We : WeX} {Si St Se sl : List Nat} {tg iter elt : PySem.Expr} {ifs : List PySem.Expr} {fi : DEnv → Res (List D)} {g : D → Option (List D)} {ft : DEnv → Res Bool} {fe : DEnv → Res D} {pos : Pos} {scope : Scope} {own : List (Str × Nat)}
theorem lc_ok {σ : L2.St} {H : Hp} {Q : VK} (hg2 : ∀ d ds, g d = some ds → ds.length = sl.length) (ho : own.map (·.2) = sl)
    (h : tG X.K X.mg We (RF X.K X.mg) (Si ++ minus (St ++ Se) sl) (eLc sl fi g ft fe) σ H Q) :
    tLc (tG X.K X.mg We (RI X.K X.mg) Si fi) (tT X.K X.mg sl g) (tG X.K X.mg (We0 We.ex) RB St ft) (tG X.K X.mg (We0 We.ex) (RD X.K X.mg) Se fe) (own.map (·.2)) σ H Q := by
  obtain ⟨F, ρ, hF, hE, q⟩ := h
  refine ⟨F, ρ, hF, hE.l, Out.bind q fun ds F1 H1 J ex hj q1 => ?_⟩
  intro Dn nD
  rw [ho]
  cases ht : (lcL sl g ft fe ρ ds).bindN okLen with
  | st => rw [ht] at q1; exact q1.elim
  | er x => exact absurd ht (bindN_ner okLen_ner x)
  | ok tot =>
    rw [ht] at q1
    obtain ⟨tot', h1, h2⟩ := bindN_ok ht
    obtain ⟨rfl, hlen⟩ := okLen_ok h2
    have fD : F1 Dn = none := ex.2.1.free nD
    refine ⟨fun i m H => m = ds.length - i ∧ i ≤ ds.length ∧ ∃ Fc acc accD ys, Ext F1 H1 Fc H ∧ H Dn = some (.lst acc) ∧ Fc Dn = none ∧ RepAll X.K X.mg Fc acc accD ∧ lcL sl g ft fe ρ (ds.drop i) = .ok ys ∧ tot = accD ++ ys,
      ⟨ds.length, by simp, Nat.zero_le _, F1, [], [], tot, Ext.new0 ex.2.1 nD, upd_same, fD, .nil, h1, rfl⟩, ?_⟩
    rintro i m H' ⟨rfl, hi, Fc, acc, accD, ys, exc, hD, fcD, racc, hys, htot⟩
    obtain ⟨j1, j2⟩ := hj i Fc H' exc.1 exc.2.1
    by_cases hlt : i < ds.length
    · right
      have hd : ds[i]? = some ds[i] := List.getElem?_eq_getElem hlt
      obtain ⟨go, yl⟩ := j2 _ hd
      refine ⟨go, fun H' => ∃ Fc acc accD ys, Ext F1 H1 Fc H' ∧ H' Dn = some (.lst acc) ∧ Fc Dn = none ∧ RepAll X.K X.mg Fc acc accD ∧ lcL sl g ft fe ρ (ds.drop (i + 1)) = .ok ys ∧ tot = accD ++ ys, fun H'' n => ⟨ds.length - (i + 1), by omega, rfl, hlt, n⟩, fun x H2 y => ?_⟩
      obtain ⟨F2, ex2, rx⟩ := yl x H2 y
      rw [List.drop_eq_getElem_cons hlt] at hys
      have hys : (match g ds[i] with
        | none => .st
        | some vs => (ft (setAll ρ sl (vs.map Slot.d))).bindN fun b => if b then (fe (setAll ρ sl (vs.map Slot.d))).bindN fun y => (lcL sl g ft fe ρ (ds.drop (i + 1))).bindN fun ys => .ok (y :: ys) else lcL sl g ft fe ρ (ds.drop (i + 1))) = Res.ok ys := hys
      cases hgd : g ds[i] with
      | none => rw [hgd] at hys; cases hys
      | some vs =>
        simp only [hgd] at hys
        obtain ⟨b, hb, hys⟩ := bindN_ok hys
        refine ⟨F2, ds[i], vs, ex2.2.1, rx, hgd, hg2 _ _ hgd, fun us ru => ⟨by rw [wipe_setAll sl _ _ fun _ h => h, wipe_wipe], ?_⟩⟩
        have all : Ext F F1 F1 F1 → True := fun _ => trivial
        have sF2 : Same F F2 := ex.1.trans (exc.1.trans ex2.1)
        have env : EnvE X.K X.mg We.ex (St ++ Se) F2 (setAll (wipe σ sl) sl (us.map some)) (setAll ρ sl (vs.map Slot.d)) := by
          refine ⟨by rw [setAll_length, setAll_length, wipe_length]; exact hE.1, fun k hk s d a1 a2 => ?_, fun k hk x a1 => ?_⟩
          rotate_left
          · obtain ⟨nk, a2⟩ := setAll_exc sl vs ρ (hg2 _ _ hgd) a1
            rcases mem_minus (sl := sl) hk with z | z
            · exact absurd z nk
            · rw [setAll_get nk, wipe_get nk]
              exact (hE.2.2 k (List.mem_append_right _ z) x a2).mono sF2
          refine setAll_rel sl us vs (wipe σ sl) ρ (by rw [wipe_length]; exact hE.1) ru (hg2 _ _ hgd) k s d ?_ a1 a2
          rcases mem_minus (sl := sl) hk with z | z
          · exact .inr z
          · left
            intro s' d' b1 b2
            have nk : k ∉ sl := by
              have := (List.mem_filter.mp z).2
              simpa using this
            rw [wipe_get nk]
            obtain ⟨v, c1, c2⟩ := hE.2.1 k (List.mem_append_right _ z) s' d' b1 b2
            exact ⟨v, c1, c2.mono sF2⟩
        have step : ∀ F3 H3, Ext F2 H2 F3 H3 → Ext F1 H1 F3 H3 ∧ H3 Dn = some (.lst acc) ∧ F3 Dn = none ∧ RepAll X.K X.mg F3 acc accD := fun F3 H3 e3 => by
          have d2 : H2 Dn = some (.lst acc) := ex2.2.2.1 _ _ hD
          refine ⟨(exc.trans ex2).trans e3, e3.2.2.1 _ _ d2, ?_, (racc.mono ex2.1).mono e3.1⟩
          rw [e3.2.2.2 _ _ d2, ex2.2.2.2 _ _ hD]; exact fcD
        refine ⟨F2, _, ex2.2.1, env.l, ?_⟩
        rw [hb]
        intro F3 H3 b' ex3 eb
        have eb : b' = b := eb
        subst eb
        cases b' with
        | true =>
          rw [if_pos rfl] at hys ⊢
          obtain ⟨y0, hy0, hys⟩ := bindN_ok hys
          obtain ⟨ys', hys', e3⟩ := bindN_ok hys
          cases e3
          refine ⟨F3, _, ex3.2.1, env.r.mono ex3.1, ?_⟩
          rw [hy0]
          intro F4 H4 v4 ex4 r4
          obtain ⟨s1, s2, s3, s4⟩ := step F4 H4 (ex3.trans ex4)
          refine ⟨acc, s2, ?_, F4, acc ++ [v4], accD ++ [y0], ys', ?_, upd_same, s3, s4.append (.cons r4 .nil), hys', by rw [List.append_assoc]; exact htot⟩
          · rw [racc.length]
            have : accD.length < tot.length := by rw [htot, List.length_append, List.length_cons]; omega
            exact lt_line (by omega)
          · refine ⟨s1.1, fun p o q => ?_, fun p o q => ?_, s1.2.2.2⟩
            · rw [upd_ne (fun z => by rw [z, s3] at q; cases q)]; exact s1.2.1 _ _ q
            · rw [upd_ne (ne_of_none q nD)]; exact s1.2.2.1 _ _ q
        | false =>
          rw [if_neg Bool.false_ne_true] at hys ⊢
          obtain ⟨s1, s2, s3, s4⟩ := step F3 H3 ex3
          exact ⟨F3, acc, accD, ys, s1, s2, s3, s4, hys, htot⟩
    · left
      have ei : i = ds.length := by omega
      refine ⟨j1 ei, ?_⟩
      rw [List.drop_eq_nil_of_le (by omega)] at hys
      have hys : Res.ok [] = Res.ok ys := hys
      cases hys
      rw [List.append_nil] at htot
      subst htot
      exact q1 Fc H' _ exc ⟨Dn, acc, rfl, nD, fcD, hD, racc⟩
theorem pf_lc (hc : X.calm = true) (hN : X.N.Nodup) (hi : ID X We Si tg iter fi) (ok : BlkOk X.N X.env.scope scope own) (ho : own.map (·.2) = sl)
    (hg : ∀ (s : Shared) (H : Hp) (C : Addr) (cl : List (Str × Addr)) (fp : List Addr), GD (X.blk s H scope (compEnvC scope cl C X.env) fp) tg sl g)
    (ht : ∀ (s : Shared) (H : Hp) (C : Addr) (cl : List (Str × Addr)) (fp : List Addr), PTsD (X.blk s H scope (compEnvC scope cl C X.env) fp) (We0 We.ex) St ifs ft)
    (he : ∀ (s : Shared) (H : Hp) (C : Addr) (cl : List (Str × Addr)) (fp : List Addr), PD (X.blk s H scope (compEnvC scope cl C X.env) fp) (We0 We.ex) Se elt fe) (hs : ∀ x, foldedSetIterable iter X.env x = pure x := by intro _; rfl) :
    PF X We (Si ++ minus (St ++ Se) sl) (.ListComp elt [⟨tg, iter, ifs, 0⟩] scope pos) (eLc sl fi g ft fe) :=
  pe_imp (pe_lc hc hN hi ok (fun s H C cl fp => (hg s H C cl fp).1) ht he hs) fun σ H Q h => lc_ok (hg X.s_0 X.H_0 0 [] []).2 ho h
/-- name = [..] on one line -/
theorem sd_asgLc {fr : Bool} (k : Bool) {i : Nat} {y : Str} {py : Pos} {spos : Pos} (hc : X.calm = true) (hN : X.N.Nodup) (hi : ID X We Si tg iter fi) (ok : BlkOk X.N X.env.scope scope own) (ho : own.map (·.2) = sl)
    (hg : ∀ (s : Shared) (H : Hp) (C : Addr) (cl : List (Str × Addr)) (fp : List Addr), GD (X.blk s H scope (compEnvC scope cl C X.env) fp) tg sl g)
    (ht : ∀ (s : Shared) (H : Hp) (C : Addr) (cl : List (Str × Addr)) (fp : List Addr), PTsD (X.blk s H scope (compEnvC scope cl C X.env) fp) (We0 We.ex) St ifs ft)
    (he : ∀ (s : Shared) (H : Hp) (C : Addr) (cl : List (Str × Addr)) (fp : List Addr), PD (X.blk s H scope (compEnvC scope cl C X.env) fp) (We0 We.ex) Se elt fe)
    (hy : X.N[i]? = some y := by rfl) (hyl : X.env.scope.names.lookup y = some .local := by rfl)
    (hsw : swapsWith (.ListComp elt [⟨tg, iter, ifs, 0⟩] scope pos) (some (.Name y py)) spos.line X.env = pure true := by exact sw_true rfl rfl rfl (by decide +kernel))
    (hs : ∀ x, foldedSetIterable iter X.env x = pure x := by intro _; rfl) : SD X fr We (.Assign [.Name y py] (.ListComp elt [⟨tg, iter, ifs, 0⟩] scope pos) spos) (sAsgF k (Si ++ minus (St ++ Se) sl) i (eLc sl fi g ft fe)) :=
  ps_imp (ps_setLc hc hN hy hyl hsw hi ok (fun s H C cl fp => (hg s H C cl fp).1) ht he hs) fun E σ H ⟨B, F, ρ, e, h⟩ => lc_ok (hg X.s_0 X.H_0 0 [] []).2 ho (evalF_set e h)
end

/-! ### a def and its call -/
def spD (K : PySem.W.Frag) (mg : Str → Option Value) (fr : Bool) (n : Nat) (m : List D → Res D) : Sp := fun vs H Q E => vs.length = n ∧ ∃ F ds, Same F H ∧ RepAll K mg F vs ds ∧ Out K mg ⟨fun c d _ H' => E c d H', none⟩ (RR K mg fr) F H [] Q (m ds)
abbrev FnD (P : Program) (w : World) (K : PySem.W.Frag) (mg : Str → Option Value) (base : Heap) (k : Nat) (f : Addr) (fd : FuncData) (ps : List Str) (fr : Bool) (m : List D → Res D) : Prop :=
  FnOk P w K mg base (L2.CX P w) k f fd ps (spD K mg fr ps.length m)
def callN (n : Nat) (m : List D → Res D) : List D → Res D := fun ds => if ds.length = n then m ds else .st
def asL : D → Res (List D)
  | .lst xs => .ok xs
  | _ => .st
def callF (n : Nat) (m : List D → Res D) : List D → Res (List D) := fun ds => (callN n m ds).bind asL
section
variable {X : Cx} {We : WeX} {S : List Nat} {k j : Nat} {f : Addr} {fd : FuncData} {ps : List Str} {m : List D → Res D} {x : Str} {p pos : Pos} {e : PySem.Expr} {es : List PySem.Expr} {g : DEnv → Res (List D)}
theorem callN_out {fr : Bool} {F1 H1 : Hp} {σ : L2.St} {Q : VK} {ds : List D} {vs : List V} (hF : Same F1 H1) (r : RepAll X.K X.mg F1 vs ds) (q : Out X.K X.mg We (RR X.K X.mg fr) F1 H1 σ Q (callN ps.length m ds)) : spD X.K X.mg fr ps.length m vs H1 Q (WE We σ) := by
  unfold callN at q
  by_cases hl : ds.length = ps.length
  · rw [if_pos hl] at q
    refine ⟨by rw [r.length]; exact hl, F1, ds, hF, r, ?_⟩
    cases hm : m ds with
    | ok d => rw [hm] at q; exact q
    | er x => rw [hm] at q; exact q
    | st => rw [hm] at q; exact q
  · rw [if_neg hl] at q; exact q.elim
theorem pd_call (tk : Takes X We) (hr : Room k X.A) (hjk : j ≤ k) (F : FnD X.prog X.w X.K X.mg X.base j f fd ps false m) (hm : X.mg x = some (.ref f)) (hk : PySem.W.keepIn X.K (.ref f) = true) (hb : Binds X.K fd ps [])
    (ha : PAD X We S (e :: es) g) (hg : Gl X x := by rfl) (hdb : (x == ("__debug__" : Str)) = false := by decide) (he : starEach (e :: es) X.env = (false, eval e X.env) :: starEach es X.env := by rfl) (hpl : (backTo pos (starEach es X.env)).any (·.1) = false := by rfl) :
    PD X We S (.Call (.Name x p) (e :: es) [] pos) (eL (callN ps.length m) g) :=
  pe_imp (pe_callS F (hr.mono hjk) hg hm hk hb (fun σ => passAt tk σ) ha hdb he hpl) fun σ H Q ⟨F, ρ, hF, hE, q⟩ => ⟨F, ρ, hF, hE, Out.bind q fun ds F1 H1 vs ex r q1 => callN_out (fr := false) ex.2.1 r q1⟩
theorem pf_call (tk : Takes X We) (hr : Room k X.A) (hjk : j ≤ k) (F : FnD X.prog X.w X.K X.mg X.base j f fd ps true m) (hm : X.mg x = some (.ref f)) (hk : PySem.W.keepIn X.K (.ref f) = true) (hb : Binds X.K fd ps [])
    (ha : PAD X We S (e :: es) g) (hg : Gl X x := by rfl) (hdb : (x == ("__debug__" : Str)) = false := by decide) (he : starEach (e :: es) X.env = (false, eval e X.env) :: starEach es X.env := by rfl) (hpl : (backTo pos (starEach es X.env)).any (·.1) = false := by rfl) :
    PF X We S (.Call (.Name x p) (e :: es) [] pos) (eL (callF ps.length m) g) :=
  pe_imp (pe_callS F (hr.mono hjk) hg hm hk hb (fun σ => passAt tk σ) ha hdb he hpl) fun σ H Q ⟨F, ρ, hF, hE, q⟩ => ⟨F, ρ, hF, hE, Out.bind q fun ds F1 H1 vs ex r q1 => by
    refine callN_out (We := We) (fr := true) ex.2.1 r ?_
    have q1 : Out X.K X.mg We (RF X.K X.mg) F1 H1 σ Q ((callN ps.length m ds).bind asL) := q1
    cases hc : callN ps.length m ds with
    | ok d =>
      rw [hc] at q1
      intro F' H' v ex' r'
      obtain ⟨xs, rfl, r'⟩ := r'
      exact q1 F' H' v ex' r'
    | er x => rw [hc] at q1; exact q1
    | st => rw [hc] at q1; exact q1⟩
end
/-- a def's body as a function of its arguments -/
def mOf (nN : Nat) (fr : Bool) (g : DEnv → SRes) : List D → Res D := fun ds => match g (ds.map Slot.d ++ List.replicate (nN - ds.length) .un) with
  | .nx _ => if fr then .st else .ok .non
  | .rt d => .ok d
  | .er x _ => .er x
  | _ => .st
theorem envS_start {K : PySem.W.Frag} {mg : Str → Option Value} {ex : EXP} {F H : Hp} {N : List Str} {vs : List V} {ds : List D} (hF : Same F H) (r : RepAll K mg F vs ds) : EnvS K mg ex ⟨F, H, fun _ => 0⟩ F (L2.start N vs) H (ds.map Slot.d ++ List.replicate (N.length - ds.length) .un) := by
  have hl := r.length
  refine ⟨hF, Same.refl _, hF, Same.refl _, fun _ _ _ => rfl, ?_, fun i s h => ?_, fun i j a s t h _ o => ?_⟩
  · unfold L2.start; rw [List.length_append, List.length_append, List.length_map, List.length_map, List.length_replicate, List.length_replicate, hl]
  · by_cases hi : i < ds.length
    · rw [List.getElem?_append_left (by simpa using hi), List.getElem?_map] at h
      cases hd : ds[i]? with
      | none => rw [hd] at h; cases h
      | some d =>
        rw [hd] at h
        cases h
        obtain ⟨v, hv, rv⟩ := r.get hd
        refine ⟨v, ?_, rv⟩
        unfold L2.start
        rw [List.getElem?_append_left (by rw [List.length_map, hl]; exact hi), List.getElem?_map, hv]
        rfl
    · rw [List.getElem?_append_right (by simpa using hi), List.getElem?_replicate] at h
      split at h
      · cases h; trivial
      · cases h
  · exfalso
    by_cases hi : i < ds.length
    · rw [List.getElem?_append_left (by simpa using hi), List.getElem?_map] at h
      cases hd : ds[i]? with
      | none => rw [hd] at h; cases h
      | some d => rw [hd] at h; cases h; cases o
    · rw [List.getElem?_append_right (by simpa using hi), List.getElem?_replicate] at h
      split at h
      · cases h; cases o
      · cases h
theorem fnd_of {P : Program} {w : World} {K : PySem.W.Frag} {mg : Str → Option Value} {base : Heap} {x qual : Str} {st : Stmt} {f : Addr} {fd : FuncData} {N ps : List Str} {k : Nat} {fr : Bool} {g : DEnv → SRes}
    (F : Fun K x qual st f fd) (S : FnScope N ps (defScope st))
    (hb : ∀ (cdv : Value) (A : Around) (outer : List Env) (s : Shared) (H : Hp) (E : XK), Room k (A.deeper (envOfC qual (defScope st) s.heap.objs.size f cdv)) →
      SDs (cxOf (L2.CX P w) P w K mg base N qual (defScope st) f cdv A outer s H E) fr ⟨fun c d _ H' => E c d H', none⟩ (defBody st) g) : FnD P w K mg base (k + 1) f fd ps fr (mOf N.length fr g) := by
  refine F.okX S (fun vs H Q E h => h.1) fun cdv A outer s H vs Q E hr h => ⟨_, hb cdv A outer s H E hr, ?_⟩
  obtain ⟨hl, F', ds, hF, r, q⟩ := h
  refine ⟨_, F', _, envS_start hF r, ?_⟩
  unfold mOf at q
  cases hg : g (ds.map Slot.d ++ List.replicate (N.length - ds.length) .un) with
  | nx ρ =>
    rw [hg] at q
    cases fr with
    | true => exact q.elim
    | false => exact fun F2 σ2 H2 e => q F2 H2 .non e.ext .non
  | rt d => rw [hg] at q; exact q
  | er x ρ => rw [hg] at q; exact fun F2 σ2 H2 C d e m z => q C d H2 e.hh m z
  | bk ρ => rw [hg] at q; exact q.elim
  | ct ρ => rw [hg] at q; exact q.elim
  | st => rw [hg] at q; exact q.elim
end DL
set_option Elab.async false
set_option linter.all false
set_option maxRecDepth 100000
set_option maxHeartbeats 1000000
/-! DL5: in, places, slices, built-ins, methods of texts, instances. -/
namespace DL
open PySem PySem.Spec PyProof.Rows L2

/-! ### in -/
def D.flat : D → Bool
  | .non => true
  | .bl _ => true
  | .int _ => true
  | .str _ => true
  | _ => false
def inSeq (x : D) (ys : List D) : Bool := ys.any fun y => y.eqv x
def dInS (x : D) : D → Res Bool
  | .lst ys => if (x.flat && ys.all D.flat) = true then .ok (inSeq x ys) else if (dOk 16 x && dOks 16 ys) = true then .ok (inSeq x ys) else .st
  | .tup ys => if (x.flat && ys.all D.flat) = true then .ok (inSeq x ys) else .st
  | .str z => match x with
    | .str y => match y.cps.toList with
      | [c] => .ok (decide (c ∈ z.cps.toList))
      | _ => .st
    | _ => .st
  | _ => .st
def dIn (x y : D) : Res D := (dInS x y).bind fun b => .ok (.bl b)
def dNotIn (x y : D) : Res D := (dInS x y).bind fun b => .ok (.bl !b)
def rInA (K : PySem.W.Frag) : R2 := fun x y H Q => (rIn K false x y H Q ∨ rInD K x y H Q) ∨ (∃ (c : Nat) (z : Str), x = .str ⟨#[c]⟩ ∧ y = .str z ∧ Q (.bl (decide (c ∈ z.cps.toList))) H)
def rNotInA (K : PySem.W.Frag) : R2 := fun x y H Q => (rIn K true x y H Q ∨ rNotInD K x y H Q) ∨ (∃ (c : Nat) (z : Str), x = .str ⟨#[c]⟩ ∧ y = .str z ∧ Q (.bl (!decide (c ∈ z.cps.toList))) H)
section
variable {K : PySem.W.Frag} {mg : Str → Option Value}
theorem flat_of {F : Hp} {v : V} {x : D} (r : Rep K mg F v x) : flatV v = x.flat := by
  cases r <;> rfl
theorem flats_of {F : Hp} : ∀ {vs : List V} {xs : List D}, RepAll K mg F vs xs → vs.all flatV = xs.all D.flat
  | [], [], _ => rfl
  | [], _ :: _, h => by cases h
  | _ :: _, [], h => by cases h
  | _ :: _, _ :: _, h => by
    cases h with
    | cons a b => rw [List.all_cons, List.all_cons, flat_of a, flats_of b]
theorem eqV_of {F : Hp} {v u : V} {x y : D} (r : Rep K mg F v x) (s : Rep K mg F u y) (f : x.flat = true) (g : y.flat = true) : eqV v u = x.eqv y := by
  cases r <;> first | (cases f; done) | (cases s <;> first | (cases g; done) | rfl)
theorem inV_of {F : Hp} {v : V} {x : D} (r : Rep K mg F v x) (f : x.flat = true) : ∀ {vs : List V} {xs : List D}, RepAll K mg F vs xs → xs.all D.flat = true → inV v vs = inSeq x xs
  | [], [], _, _ => rfl
  | [], _ :: _, h, _ => by cases h
  | _ :: _, [], h, _ => by cases h
  | _ :: _, _ :: _, h, g => by
    cases h with
    | cons a b =>
      rw [List.all_cons, Bool.and_eq_true] at g
      have ih := inV_of r f b g.2
      unfold inV inSeq at ih ⊢
      rw [List.any_cons, List.any_cons, ih, eqV_of a r g.1 f]
theorem anyE_of {x : D} (k : dOk 16 x = true) : ∀ {xs : List D}, dOks 16 xs = true → (pys xs).any (fun z => PyData.eqv z x.py) = inSeq x xs
  | [], _ => rfl
  | y :: ys, g => by
    have g : (dOk 16 y && dOks 16 ys) = true := g
    rw [Bool.and_eq_true] at g
    have ih := anyE_of k g.2
    unfold inSeq at ih ⊢
    show (List.any (y.py :: pys ys) _) = _
    rw [List.any_cons, List.any_cons, ih, eqv_py y x 16 16 g.1 k]
theorem dOks_shaped {ds : List D} (h : dOks 16 ds = true) : SeqAt.shaped (.list (pys ds)) = true := by
  obtain ⟨a, b⟩ := dOks_lay ds 16 h
  unfold SeqAt.shaped
  rw [show PyData.canLay0 (.list (pys ds)) = true from a, decide_eq_true (show PyData.depth (.list (pys ds)) ≤ 64 from by show PyData.depthAll (pys ds) + 1 ≤ 64; omega)]
  rfl
theorem dInS_out {We : WeX} {F H : Hp} {σ : L2.St} {x y : D} {v u : V} {Q : Bool → Hp → Prop} (hF : Same F H) (rx : Rep K mg F v x) (ry : Rep K mg F u y) (h : Out K mg We RB F H σ Q (dInS x y)) :
    ((∃ p xs, u = .ref p ∧ (SqL K H p xs ∨ SqT K H p xs) ∧ flatV v = true ∧ xs.all flatV = true ∧ Q (inV v xs) H) ∨ (∃ d ds, Dp K H v d ∧ Dp K H u (.list ds) ∧ SeqAt.shaped d = true ∧ SeqAt.shaped (.list ds) = true ∧ Q (ds.any fun z => PyData.eqv z d) H)) ∨
      ∃ (c : Nat) (z : Str), v = .str ⟨#[c]⟩ ∧ u = .str z ∧ Q (decide (c ∈ z.cps.toList)) H := by
  cases y with
  | lst ys =>
    have h : Out K mg We RB F H σ Q (if (x.flat && ys.all D.flat) = true then .ok (inSeq x ys) else if (dOk 16 x && dOks 16 ys) = true then .ok (inSeq x ys) else .st) := h
    cases ry with
    | lst a b =>
      by_cases z : (x.flat && ys.all D.flat) = true
      · rw [if_pos z] at h
        rw [Bool.and_eq_true] at z
        exact .inl (.inl ⟨_, _, rfl, .inl (SqL.same hF a), by rw [flat_of rx]; exact z.1, by rw [flats_of b]; exact z.2, by rw [inV_of rx z.1 b z.2]; exact h F H _ (Ext.refl hF) rfl⟩)
      · rw [if_neg z] at h
        by_cases z : (dOk 16 x && dOks 16 ys) = true
        · rw [if_pos z] at h
          rw [Bool.and_eq_true] at z
          exact .inl (.inr ⟨x.py, pys ys, (rx.mono hF).dp _ _ _ z.1, .lst (SqL.same hF a) ((b.mono hF).dp _ _ _ z.2), dOk_shaped z.1, dOks_shaped z.2, by rw [anyE_of z.1 z.2]; exact h F H _ (Ext.refl hF) rfl⟩)
        · rw [if_neg z] at h; exact h.elim
  | tup ys =>
    have h : Out K mg We RB F H σ Q (if (x.flat && ys.all D.flat) = true then .ok (inSeq x ys) else .st) := h
    cases ry with
    | tup a b =>
      by_cases z : (x.flat && ys.all D.flat) = true
      · rw [if_pos z] at h
        rw [Bool.and_eq_true] at z
        exact .inl (.inl ⟨_, _, rfl, .inr (SqT.same hF a), by rw [flat_of rx]; exact z.1, by rw [flats_of b]; exact z.2, by rw [inV_of rx z.1 b z.2]; exact h F H _ (Ext.refl hF) rfl⟩)
      · rw [if_neg z] at h; exact h.elim
  | str z =>
    cases x with
    | str y =>
      have h : Out K mg We RB F H σ Q (match y.cps.toList with | [c] => .ok (decide (c ∈ z.cps.toList)) | _ => .st) := h
      cases rx; cases ry
      obtain ⟨⟨l⟩⟩ := y
      match l, h with
      | [c], h => exact .inr ⟨c, z, rfl, rfl, h F H _ (Ext.refl hF) rfl⟩
      | [], h => exact h.elim
      | _ :: _ :: _, h => exact h.elim
    | _ => exact h.elim
  | _ => exact h.elim
theorem od_in : OpD K mg (rInA K) dIn := fun We F H σ x y v u Q hF rx ry h => by
  have z := dInS_out (We := We) (σ := σ) (Q := fun b H' => Q (.bl b) H') hF rx ry (Out.bind h fun b F1 H1 b' ex e q => by
    have e : b' = b := e
    subst e
    exact q F1 H1 _ (Ext.refl ex.2.1) (.bl _))
  rcases z with (⟨p, xs, e, s, f, g, q⟩ | z) | z
  · exact .inl (.inl ⟨p, xs, e, s, f, g, q⟩)
  · exact .inl (.inr z)
  · exact .inr z
theorem od_notin : OpD K mg (rNotInA K) dNotIn := fun We F H σ x y v u Q hF rx ry h => by
  have z := dInS_out (We := We) (σ := σ) (Q := fun b H' => Q (.bl (!b)) H') hF rx ry (Out.bind h fun b F1 H1 b' ex e q => by
    have e : b' = b := e
    subst e
    exact q F1 H1 _ (Ext.refl ex.2.1) (.bl _))
  rcases z with (⟨p, xs, e, s, f, g, q⟩ | z) | z
  · exact .inl (.inl ⟨p, xs, e, s, f, g, q⟩)
  · exact .inl (.inr z)
  · exact .inr z
end
theorem op_inA {X : Cx} (hu : X.A.units + 65 < cLine) : OpR X (compareOp .In) (rInA X.K) := (OpR.or (OpR.or op_in_seq (op_inD hu)) op_in_sign)
theorem op_notinA {X : Cx} (hu : X.A.units + 65 < cLine) : OpR X (compareOp .NotIn) (rNotInA X.K) := (OpR.or (OpR.or op_notIn_seq (op_notInD hu)) op_notIn_sign)

theorem u65 {k : Nat} {A : Around} (r : Room k A) : A.units + 65 < cLine := by
  have := r.un
  omega
/-! ### places and slices -/
def dIx : D → D → Res D
  | .lst xs, .int i => match atI xs i with
    | some d => .ok d
    | none => .st
  | .tup xs, .int i => match atI xs i with
    | some d => .ok d
    | none => .st
  | .str z, .int i => if z.length ≤ lim then match atI z.cps.toList i with
    | some c => .ok (.str ⟨#[c]⟩)
    | none => .st
    else .st
  | _, _ => .st
section
variable {K : PySem.W.Frag} {mg : Str → Option Value}
theorem RepAll.atI {F : Hp} {vs : List V} {ds : List D} {i : Int} {d : D} (r : RepAll K mg F vs ds) (h : L2.atI ds i = some d) : ∃ v, L2.atI vs i = some v ∧ Rep K mg F v d := by
  unfold L2.atI at h ⊢
  rw [r.length]
  cases hj : ixN ds.length i with
  | none => rw [hj] at h; cases h
  | some j =>
    rw [hj] at h
    exact r.get h
theorem od_ix : OpD K mg (rIx K) dIx := fun We F H σ x y v u Q hF rx ry h => by
  cases x with
  | lst xs =>
    cases y with
    | int i =>
      cases ry
      have h : Out K mg We (RD K mg) F H σ Q (match atI xs i with | some d => .ok d | none => .st) := h
      cases ha : atI xs i with
      | none => rw [ha] at h; exact h.elim
      | some d =>
        rw [ha] at h
        cases rx with
        | lst a b =>
          obtain ⟨w, hw, rw'⟩ := b.atI ha
          exact .inl ⟨_, _, _, w, rfl, rfl, SqL.same hF a, hw, h F H _ (Ext.refl hF) rw'⟩
    | _ => exact h.elim
  | tup xs =>
    cases y with
    | int i =>
      cases ry
      have h : Out K mg We (RD K mg) F H σ Q (match atI xs i with | some d => .ok d | none => .st) := h
      cases ha : atI xs i with
      | none => rw [ha] at h; exact h.elim
      | some d =>
        rw [ha] at h
        cases rx with
        | tup a b =>
          obtain ⟨w, hw, rw'⟩ := b.atI ha
          exact .inr (.inl ⟨_, _, _, w, rfl, rfl, SqT.same hF a, hw, h F H _ (Ext.refl hF) rw'⟩)
    | _ => exact h.elim
  | str z =>
    cases y with
    | int i =>
      cases ry; cases rx
      have h : Out K mg We (RD K mg) F H σ Q (if z.length ≤ lim then match atI z.cps.toList i with | some c => .ok (.str ⟨#[c]⟩) | none => .st else .st) := h
      by_cases hz : z.length ≤ lim
      · rw [if_pos hz] at h
        cases ha : atI z.cps.toList i with
        | none => rw [ha] at h; exact h.elim
        | some c =>
          rw [ha] at h
          exact .inr (.inr ⟨_, _, c, rfl, rfl, le_line hz, ha, h F H _ (Ext.refl hF) (.str _)⟩)
      · rw [if_neg hz] at h; exact h.elim
    | _ => exact h.elim
  | _ => exact h.elim
end
section
variable {X : Cx} {We : WeX} {Sa Sb Sc : List Nat} {fa fb : DEnv → Res D} {a b : PySem.Expr} {pos p2 : Pos}
theorem pd_ix (ha : PD X We Sa a fa) (hb : PD X We Sb b fb) (hs : PlainIx b := by exact fun _ _ => rfl) : PD X We (Sa ++ Sb) (.Subscript a b pos) (e2 dIx fa fb) :=
  pe_imp (pe_ix ix_seq ha hb hs) fun _ _ _ h => tG_op od_ix h
/-- a part of a slice -/
def RO : Hp → Hp → Hp → Option Int → Option Int → Prop := fun _ _ _ v d => v = d
instance : Anti RO := ⟨fun _ h => h⟩
abbrev POD (X : Cx) (We : WeX) (S : List Nat) (e : Option PySem.Expr) (f : DEnv → Res (Option Int)) : Prop := PO X e (tG X.K X.mg We RO S f)
theorem po_imp {X : Cx} {e : Option PySem.Expr} {t t' : TO} (h : PO X e t) (i : ∀ σ H Q, t' σ H Q → t σ H Q) : PO X e t' := ⟨fun pins s σ H Q I q => h.run pins s σ H Q I (i σ H Q q)⟩
def eNoP : DEnv → Res (Option Int) := fun _ => .ok none
def asP : D → Res (Option Int)
  | .int i => .ok (some i)
  | _ => .st
def eP (f : DEnv → Res D) : DEnv → Res (Option Int) := fun ρ => (f ρ).bind asP
theorem pod_none : POD X We [] none eNoP := po_imp po_none fun σ H Q ⟨F, ρ, hF, hE, q⟩ => q F H none (Ext.refl hF) rfl
theorem pod_some (ha : PD X We Sa a fa) : POD X We Sa (some a) (eP fa) := po_imp (po_some ha) fun σ H Q ⟨F, ρ, hF, hE, q⟩ => ⟨F, ρ, hF, hE, Out.bind q fun x F1 H1 v ex rx q1 => by
  cases x with
  | int i => cases rx; exact ⟨i, rfl, q1 F1 H1 _ (Ext.refl ex.2.1) rfl⟩
  | _ => exact q1.elim⟩
def cutD (xs : List D) (lo hi : Option Int) : List D := (xs.drop (HT.sIx xs.length 0 lo)).take (HT.sIx xs.length xs.length hi - HT.sIx xs.length 0 lo)
theorem RepAll.cut {K : PySem.W.Frag} {mg : Str → Option Value} {F : Hp} {vs : List V} {ds : List D} {lo hi : Option Int} (r : RepAll K mg F vs ds) : RepAll K mg F (cutV vs lo hi) (cutD ds lo hi) := by
  unfold cutV cutD
  rw [r.length]
  exact (r.drop _).take _
def dSl (x : D) (lo hi : Option Int) : Res D := match x with
  | .tup xs => .ok (.tup (cutD xs lo hi))
  | .str z => if z.length ≤ lim then .ok (.str (cutS z lo hi)) else .st
  | _ => .st
def dSlL (x : D) (lo hi : Option Int) : Res (List D) := match x with
  | .lst xs => .ok (cutD xs lo hi)
  | _ => .st
def e3 {β : Type} (o : D → Option Int → Option Int → Res β) (f : DEnv → Res D) (l h : DEnv → Res (Option Int)) : DEnv → Res β := fun ρ => (f ρ).bind fun x => (l ρ).bind fun a => (h ρ).bind fun b => o x a b
theorem pd_sl {lo hi : Option PySem.Expr} {fl fh : DEnv → Res (Option Int)} (ha : PD X We Sa a fa) (hl : POD X We Sb lo fl) (hh : POD X We Sc hi fh) : PD X We (Sa ++ Sb ++ Sc) (.Subscript a (.Slice lo hi none p2) pos) (e3 dSl fa fl fh) :=
  pe_imp (pe_slice (sl_tupA.or sl_str) ha hl hh) fun σ H Q ⟨F, ρ, hF, hE, q⟩ => ⟨F, ρ, hF, hE.l.l, Out.bind q fun x F1 H1 v ex rx q1 => ⟨F1, ρ, ex.2.1, hE.l.r.mono ex.1, Out.bind q1 fun l F2 H2 l' el rl q2 => ⟨F2, ρ, el.2.1, hE.r.mono (ex.1.trans el.1), Out.bind q2 fun h F3 H3 h' eh rh q3 => by
    have e1 : l' = l := rl
    have e2 : h' = h := rh
    subst e1 e2
    have rx := (rx.mono el.1).mono eh.1
    cases x with
    | tup xs =>
      cases rx with
      | tup c d =>
        refine .inl ⟨_, _, rfl, SqT.same eh.2.1 c, fun hw => ?_, fun _ p hp => q3 _ _ _ (Ext.new eh.2.1 hp) (.tup (SqT.of upd_same) (d.cut.mono (same_upd (eh.2.1.free hp))))⟩
        have e : cutD xs l' h' = xs := by
          rw [d.length] at hw
          unfold cutD
          rw [hw.1, hw.2, List.drop_zero, Nat.sub_zero, List.take_length]
        have q3 : Out X.K X.mg We (RD X.K X.mg) F3 H3 σ Q (.ok (.tup (cutD xs l' h'))) := q3
        rw [e] at q3
        exact q3 F3 H3 _ (Ext.refl eh.2.1) (.tup c d)
    | str z =>
      cases rx
      have q3 : Out X.K X.mg We (RD X.K X.mg) F3 H3 σ Q (if z.length ≤ lim then .ok (.str (cutS z l' h')) else .st) := q3
      by_cases hz : z.length ≤ lim
      · rw [if_pos hz] at q3
        exact .inr ⟨z, rfl, le_line hz, q3 F3 H3 _ (Ext.refl eh.2.1) (.str _)⟩
      · rw [if_neg hz] at q3; exact q3.elim
    | _ => exact q3.elim⟩⟩⟩
theorem pf_sl {lo hi : Option PySem.Expr} {fl fh : DEnv → Res (Option Int)} (ha : PD X We Sa a fa) (hl : POD X We Sb lo fl) (hh : POD X We Sc hi fh) : PF X We (Sa ++ Sb ++ Sc) (.Subscript a (.Slice lo hi none p2) pos) (e3 dSlL fa fl fh) :=
  pe_imp (pe_slice sl_list ha hl hh) fun σ H Q ⟨F, ρ, hF, hE, q⟩ => ⟨F, ρ, hF, hE.l.l, Out.bind q fun x F1 H1 v ex rx q1 => ⟨F1, ρ, ex.2.1, hE.l.r.mono ex.1, Out.bind q1 fun l F2 H2 l' el rl q2 => ⟨F2, ρ, el.2.1, hE.r.mono (ex.1.trans el.1), Out.bind q2 fun h F3 H3 h' eh rh q3 => by
    have e1 : l' = l := rl
    have e2 : h' = h := rh
    subst e1 e2
    have rx := (rx.mono el.1).mono eh.1
    cases x with
    | lst xs =>
      cases rx with
      | lst c d => exact ⟨_, _, rfl, SqL.same eh.2.1 c, fun p hp => q3 _ _ _ (Ext.new0 eh.2.1 hp) ⟨p, _, rfl, hp, eh.2.1.free hp, upd_same, d.cut⟩⟩
    | _ => exact q3.elim⟩⟩⟩
end
end DL
set_option Elab.async false
set_option linter.all false
set_option maxRecDepth 100000
set_option maxHeartbeats 1000000
/-! DL6: built-ins, methods of texts, instances. -/
namespace DL
open PySem PySem.Spec PyProof.Rows L2

/-! ### calls of built-ins, by data -/
def CaD (K : PySem.W.Frag) (mg : Str → Option Value) (r : List V → Hp → VK → Prop) (o : List D → Res D) : Prop :=
  ∀ (We : WeX) (F H : Hp) (σ : L2.St) (xs : List D) (vs : List V) (Q : VK), Same F H → RepAll K mg F vs xs → Out K mg We (RD K mg) F H σ Q (o xs) → r vs H Q
def CaF (K : PySem.W.Frag) (mg : Str → Option Value) (r : List V → Hp → VK → Prop) (o : List D → Res (List D)) : Prop :=
  ∀ (We : WeX) (F H : Hp) (σ : L2.St) (xs : List D) (vs : List V) (Q : VK), Same F H → RepAll K mg F vs xs → Out K mg We (RF K mg) F H σ Q (o xs) → r vs H Q
section
variable {X : Cx} {We : WeX} {S : List Nat} {x : Str} {p pos : Pos} {e : PySem.Expr} {es : List PySem.Expr} {g : DEnv → Res (List D)} {id T : String} {r : List V → Hp → VK → Prop}
theorem pd_B {o : List D → Res D} (hc : CallR X (.builtin id) r) (ho : CaD X.K X.mg r o) (hm : X.mg x = none) (ha : PAD X We S (e :: es) g) (hv : bootBuiltins x = some (.builtin id) := by decide +kernel) (hg : Gl X x := by rfl) (hn : x ≠ "__name__" := by decide) (hdb : (x == ("__debug__" : Str)) = false := by decide)
    (he : starEach (e :: es) X.env = (false, eval e X.env) :: starEach es X.env := by rfl) (hpl : (backTo pos (starEach es X.env)).any (·.1) = false := by rfl) : PD X We S (.Call (.Name x p) (e :: es) [] pos) (eL o g) :=
  pe_imp (pe_callB hc hg hm hv ha hn hdb he hpl) fun σ H Q ⟨F, ρ, hF, hE, q⟩ => ⟨F, ρ, hF, hE, Out.bind q fun ds F1 H1 vs ex r q1 => ho We F1 H1 σ ds vs Q ex.2.1 r q1⟩
theorem pf_B {o : List D → Res (List D)} (hc : CallR X (.builtin id) r) (ho : CaF X.K X.mg r o) (hm : X.mg x = none) (ha : PAD X We S (e :: es) g) (hv : bootBuiltins x = some (.builtin id) := by decide +kernel) (hg : Gl X x := by rfl) (hn : x ≠ "__name__" := by decide) (hdb : (x == ("__debug__" : Str)) = false := by decide)
    (he : starEach (e :: es) X.env = (false, eval e X.env) :: starEach es X.env := by rfl) (hpl : (backTo pos (starEach es X.env)).any (·.1) = false := by rfl) : PF X We S (.Call (.Name x p) (e :: es) [] pos) (eL o g) :=
  pe_imp (pe_callB hc hg hm hv ha hn hdb he hpl) fun σ H Q ⟨F, ρ, hF, hE, q⟩ => ⟨F, ρ, hF, hE, Out.bind q fun ds F1 H1 vs ex r q1 => ho We F1 H1 σ ds vs Q ex.2.1 r q1⟩
theorem pd_T {o : List D → Res D} (hc : CallR X (.type T) r) (ho : CaD X.K X.mg r o) (hm : X.mg x = none) (ha : PAD X We S (e :: es) g) (hv : bootBuiltins x = some (.type T) := by decide +kernel) (hg : Gl X x := by rfl) (hn : x ≠ "__name__" := by decide) (hdb : (x == ("__debug__" : Str)) = false := by decide)
    (he : starEach (e :: es) X.env = (false, eval e X.env) :: starEach es X.env := by rfl) (hpl : (backTo pos (starEach es X.env)).any (·.1) = false := by rfl) : PD X We S (.Call (.Name x p) (e :: es) [] pos) (eL o g) :=
  pe_imp (pe_callTy hc hg hm hv ha hn hdb he hpl) fun σ H Q ⟨F, ρ, hF, hE, q⟩ => ⟨F, ρ, hF, hE, Out.bind q fun ds F1 H1 vs ex r q1 => ho We F1 H1 σ ds vs Q ex.2.1 r q1⟩
theorem pf_T {o : List D → Res (List D)} (hc : CallR X (.type T) r) (ho : CaF X.K X.mg r o) (hm : X.mg x = none) (ha : PAD X We S (e :: es) g) (hv : bootBuiltins x = some (.type T) := by decide +kernel) (hg : Gl X x := by rfl) (hn : x ≠ "__name__" := by decide) (hdb : (x == ("__debug__" : Str)) = false := by decide)
    (he : starEach (e :: es) X.env = (false, eval e X.env) :: starEach es X.env := by rfl) (hpl : (backTo pos (starEach es X.env)).any (·.1) = false := by rfl) : PF X We S (.Call (.Name x p) (e :: es) [] pos) (eL o g) :=
  pe_imp (pe_callTy hc hg hm hv ha hn hdb he hpl) fun σ H Q ⟨F, ρ, hF, hE, q⟩ => ⟨F, ρ, hF, hE, Out.bind q fun ds F1 H1 vs ex r q1 => ho We F1 H1 σ ds vs Q ex.2.1 r q1⟩
end
def bAbs : List D → Res D
  | [.int i] => .ok (.int (if i < 0 then -i else i))
  | _ => .st
def bInt : List D → Res D
  | [.int i] => .ok (.int i)
  | [.bl b] => .ok (.int (if b then 1 else 0))
  | _ => .st
def bLen : List D → Res D
  | [.lst xs] => .ok (.int xs.length)
  | [.tup xs] => .ok (.int xs.length)
  | [.str z] => if z.length ≤ lim then .ok (.int z.length) else .st
  | _ => .st
def bTuple : List D → Res D
  | [.lst xs] => .ok (.tup xs)
  | [.tup xs] => .ok (.tup xs)
  | _ => .st
def bList : List D → Res (List D)
  | [.lst xs] => .ok xs
  | [.tup xs] => .ok xs
  | _ => .st
def asInts : List D → Option (List Int)
  | [] => some []
  | .int i :: ds => (asInts ds).bind fun r => some (i :: r)
  | _ => none
def asBls : List D → Option (List Bool)
  | [] => some []
  | .bl i :: ds => (asBls ds).bind fun r => some (i :: r)
  | _ => none
def bSum : List D → Res D
  | [.lst xs] => match asInts xs with
    | some ns => .ok (.int ns.sum)
    | none => .st
  | _ => .st
def bAll : List D → Res D
  | [.lst xs] => match asBls xs with
    | some bs => .ok (.bl (bs.all id))
    | none => .st
  | _ => .st
def bAny : List D → Res D
  | [.lst xs] => match asBls xs with
    | some bs => .ok (.bl (bs.any id))
    | none => .st
  | _ => .st
section
variable {K : PySem.W.Frag} {mg : Str → Option Value}
theorem ints_of {F : Hp} : ∀ {xs : List D} {vs : List V} {ns : List Int}, RepAll K mg F vs xs → asInts xs = some ns → vs = ns.map V.int
  | [], vs, ns, r, h => by cases h; cases r; rfl
  | d :: ds, vs, ns, r, h => by
    cases d <;> try (cases h; done)
    rename_i i
    have h : ((asInts ds).bind fun r => some (i :: r)) = some ns := h
    cases q : asInts ds with
    | none => rw [q] at h; cases h
    | some ms =>
      rw [q] at h
      cases h
      cases r with
      | cons a b =>
        cases a
        rw [ints_of b q]
        rfl
theorem bls_of {F : Hp} : ∀ {xs : List D} {vs : List V} {ns : List Bool}, RepAll K mg F vs xs → asBls xs = some ns → vs = ns.map V.bl
  | [], vs, ns, r, h => by cases h; cases r; rfl
  | d :: ds, vs, ns, r, h => by
    cases d <;> try (cases h; done)
    rename_i i
    have h : ((asBls ds).bind fun r => some (i :: r)) = some ns := h
    cases q : asBls ds with
    | none => rw [q] at h; cases h
    | some ms =>
      rw [q] at h
      cases h
      cases r with
      | cons a b =>
        cases a
        rw [bls_of b q]
        rfl
theorem one_of {P : D → Prop} {xs : List D} {β : Type} {o : List D → Res β} (h : ∀ d, P d → True) : True := trivial
/-- of one argument -/
theorem ca_one {r : List V → Hp → VK → Prop} {o : List D → Res D} (h0 : ∀ xs, xs.length ≠ 1 → o xs = .st) (h : ∀ (We : WeX) (F H : Hp) (σ : L2.St) (d : D) (v : V) (Q : VK), Same F H → Rep K mg F v d → Out K mg We (RD K mg) F H σ Q (o [d]) → r [v] H Q) : CaD K mg r o := fun We F H σ xs vs Q hF rr q => by
  match xs, rr, q with
  | [d], rr, q => obtain ⟨v, rfl, rv⟩ := rr.one; exact h We F H σ d v Q hF rv q
  | [], rr, q => rw [h0 [] (by simp)] at q; exact q.elim
  | _ :: _ :: _, rr, q => rw [h0 _ (by simp)] at q; exact q.elim
theorem caf_one {r : List V → Hp → VK → Prop} {o : List D → Res (List D)} (h0 : ∀ xs, xs.length ≠ 1 → o xs = .st) (h : ∀ (We : WeX) (F H : Hp) (σ : L2.St) (d : D) (v : V) (Q : VK), Same F H → Rep K mg F v d → Out K mg We (RF K mg) F H σ Q (o [d]) → r [v] H Q) : CaF K mg r o := fun We F H σ xs vs Q hF rr q => by
  match xs, rr, q with
  | [d], rr, q => obtain ⟨v, rfl, rv⟩ := rr.one; exact h We F H σ d v Q hF rv q
  | [], rr, q => rw [h0 [] (by simp)] at q; exact q.elim
  | _ :: _ :: _, rr, q => rw [h0 _ (by simp)] at q; exact q.elim
theorem len1 {β : Type} {o : List D → Res β} (h : ∀ a b c, o (a :: b :: c) = .st) (h2 : o [] = .st) : ∀ xs : List D, xs.length ≠ 1 → o xs = .st
  | [], _ => h2
  | [_], n => absurd rfl n
  | _ :: _ :: _, _ => h _ _ _
theorem cd_abs : CaD K mg (fun xs H Q => ∃ i, xs = [.int i] ∧ Q (.int (if i < 0 then -i else i)) H) bAbs := ca_one (len1 (fun a _ _ => by cases a <;> rfl) rfl) fun We F H σ d v Q hF r q => by
  cases d <;> try exact q.elim
  cases r
  exact ⟨_, rfl, q F H _ (Ext.refl hF) (.int _)⟩
theorem cd_int : CaD K mg (fun xs H Q => (∃ i, xs = [.int i] ∧ Q (.int i) H) ∨ ∃ k, xs = [.bl k] ∧ Q (.int (if k then 1 else 0)) H) bInt := ca_one (len1 (fun a _ _ => by cases a <;> rfl) rfl) fun We F H σ d v Q hF r q => by
  cases d <;> try exact q.elim
  · cases r
    exact .inr ⟨_, rfl, q F H _ (Ext.refl hF) (.int _)⟩
  · cases r
    exact .inl ⟨_, rfl, q F H _ (Ext.refl hF) (.int _)⟩
def rLenA (K : PySem.W.Frag) : List V → Hp → VK → Prop := fun xs H Q => (∃ p ys, xs = [.ref p] ∧ (SqL K H p ys ∨ SqT K H p ys) ∧ Q (.int ys.length) H) ∨ ∃ z, xs = [.str z] ∧ z.length ≤ sizeLine ∧ Q (.int z.length) H
theorem cd_len : CaD K mg (rLenA K) bLen := ca_one (len1 (fun a _ _ => by cases a <;> rfl) rfl) fun We F H σ d v Q hF r q => by
  cases d with
  | lst xs =>
    cases r with
    | lst a b => exact .inl ⟨_, _, rfl, .inl (SqL.same hF a), by rw [b.length]; exact q F H _ (Ext.refl hF) (.int _)⟩
  | tup xs =>
    cases r with
    | tup a b => exact .inl ⟨_, _, rfl, .inr (SqT.same hF a), by rw [b.length]; exact q F H _ (Ext.refl hF) (.int _)⟩
  | str z =>
    cases r
    have q : Out K mg We (RD K mg) F H σ Q (if z.length ≤ lim then .ok (.int z.length) else .st) := q
    by_cases hz : z.length ≤ lim
    · rw [if_pos hz] at q
      exact .inr ⟨_, rfl, le_line hz, q F H _ (Ext.refl hF) (.int _)⟩
    · rw [if_neg hz] at q; exact q.elim
  | _ => exact q.elim
theorem cd_tuple : CaD K mg (fun xs H Q => ∃ p ys, xs = [.ref p] ∧ ((SqL K H p ys ∧ ∀ l, H l = none → Q (.ref l) (upd H l (.tup ys))) ∨ (SqT K H p ys ∧ Q (.ref p) H))) bTuple := ca_one (len1 (fun a _ _ => by cases a <;> rfl) rfl) fun We F H σ d v Q hF r q => by
  cases d with
  | lst xs =>
    cases r with
    | lst a b => exact ⟨_, _, rfl, .inl ⟨SqL.same hF a, fun l hl => q _ _ _ (Ext.new hF hl) (.tup (SqT.of upd_same) (b.mono (same_upd (hF.free hl))))⟩⟩
  | tup xs =>
    cases r with
    | tup a b => exact ⟨_, _, rfl, .inr ⟨SqT.same hF a, q F H _ (Ext.refl hF) (.tup a b)⟩⟩
  | _ => exact q.elim
theorem cf_list : CaF K mg (fun xs H Q => ∃ p ys, xs = [.ref p] ∧ (SqL K H p ys ∨ SqT K H p ys) ∧ ∀ l, H l = none → Q (.ref l) (upd H l (.lst ys))) bList := caf_one (len1 (fun a _ _ => by cases a <;> rfl) rfl) fun We F H σ d v Q hF r q => by
  cases d with
  | lst xs =>
    cases r with
    | lst a b => exact ⟨_, _, rfl, .inl (SqL.same hF a), fun l hl => q F _ _ (Ext.new0 hF hl) ⟨l, _, rfl, hl, hF.free hl, upd_same, b⟩⟩
  | tup xs =>
    cases r with
    | tup a b => exact ⟨_, _, rfl, .inr (SqT.same hF a), fun l hl => q F _ _ (Ext.new0 hF hl) ⟨l, _, rfl, hl, hF.free hl, upd_same, b⟩⟩
  | _ => exact q.elim
theorem cd_sum : CaD K mg (rSum K) bSum := ca_one (len1 (fun a _ _ => by cases a <;> rfl) rfl) fun We F H σ d v Q hF r q => by
  cases d with
  | lst xs =>
    have q : Out K mg We (RD K mg) F H σ Q (match asInts xs with | some ns => .ok (.int ns.sum) | none => .st) := q
    cases e : asInts xs with
    | none => rw [e] at q; exact q.elim
    | some ns =>
      rw [e] at q
      cases r with
      | lst a b => exact ⟨_, ns, rfl, by rw [← ints_of b e]; exact SqL.same hF a, q F H _ (Ext.refl hF) (.int _)⟩
  | _ => exact q.elim
theorem cd_all : CaD K mg (rAll K) bAll := ca_one (len1 (fun a _ _ => by cases a <;> rfl) rfl) fun We F H σ d v Q hF r q => by
  cases d with
  | lst xs =>
    have q : Out K mg We (RD K mg) F H σ Q (match asBls xs with | some bs => .ok (.bl (bs.all id)) | none => .st) := q
    cases e : asBls xs with
    | none => rw [e] at q; exact q.elim
    | some ns =>
      rw [e] at q
      cases r with
      | lst a b => exact ⟨_, ns, rfl, by rw [← bls_of b e]; exact SqL.same hF a, q F H _ (Ext.refl hF) (.bl _)⟩
  | _ => exact q.elim
theorem cd_any : CaD K mg (rAny K) bAny := ca_one (len1 (fun a _ _ => by cases a <;> rfl) rfl) fun We F H σ d v Q hF r q => by
  cases d with
  | lst xs =>
    have q : Out K mg We (RD K mg) F H σ Q (match asBls xs with | some bs => .ok (.bl (bs.any id)) | none => .st) := q
    cases e : asBls xs with
    | none => rw [e] at q; exact q.elim
    | some ns =>
      rw [e] at q
      cases r with
      | lst a b => exact ⟨_, ns, rfl, by rw [← bls_of b e]; exact SqL.same hF a, q F H _ (Ext.refl hF) (.bl _)⟩
  | _ => exact q.elim
end
section
variable {X : Cx}
theorem call_lenA : CallR X (.builtin "len") (rLenA X.K) := CallR.or call_len_seq call_len_str
end

/-! ### isinstance, one class -/
def D.ty : D → String
  | .non => "NoneType"
  | .bl _ => "bool"
  | .int _ => "int"
  | .str _ => "str"
  | .tup _ => "tuple"
  | .lst _ => "list"
  | .obj _ _ _ => ""
/-- is a value of the built-in class a one of T -/
def isT (T a : String) : Option Bool := if a == "" then none else kitB a T
def dIsi (T : String) (d : D) : Res D := match isT T d.ty with
  | some b => .ok (.bl b)
  | none => .st
section
variable {X : Cx} {We : WeX} {S : List Nat} {f : DEnv → Res D} {a : PySem.Expr} {p p1 pos : Pos} {x : Str} {T : String}
theorem ty_of {K : PySem.W.Frag} {mg : Str → Option Value} {F H : Hp} {v : V} {d : D} (hF : Same F H) (r : Rep K mg F v d) (n : d.ty ≠ "") : TyX K H v (.type d.ty) := by
  cases r with
  | non => exact .base .non
  | bl b => exact .base (.bl b)
  | int i => exact .base (.int i)
  | str z => exact .base (.str z)
  | lst a b =>
    rcases a with (a | ⟨o, a⟩) | ⟨o, its, k, h1, h2, _⟩
    · exact .base (.lst (hF _ _ a))
    · exact .base (.frz (hF _ _ a))
    · exact .kList h1 h2
  | tup a b =>
    rcases a with (a | ⟨o, a⟩) | ⟨o, its, k, h1, h2, _⟩
    · exact .base (.tup (hF _ _ a))
    · exact .fTuple (hF _ _ a)
    · exact .kTuple h1 h2
  | obj _ _ _ _ => exact absurd rfl n
theorem pd_isi (T : String) (hm : X.mg "isinstance" = none) (hmT : X.mg x = none) (ha : PD X We S a f) (hv : bootBuiltins x = some (.type T) := by decide +kernel) (hg : Gl X "isinstance" := by rfl) (hgT : Gl X x := by rfl) (hn : x ≠ "__name__" := by decide) (hdb : (x == ("__debug__" : Str)) = false := by decide)
    (hs1 : starEach [a, .Name x p1] X.env = (false, eval a X.env) :: starEach [.Name x p1] X.env := by rfl) (hs2 : starEach [.Name x p1] X.env = (false, eval (.Name x p1) X.env) :: starEach [] X.env := by rfl) (hpl : (backTo pos (starEach [.Name x p1] X.env)).any (·.1) = false := by rfl) :
    PD X We S (.Call (.Name "isinstance" p) [a, .Name x p1] [] pos) (e1 (dIsi T) f) := by
  have hP : PA X [a, .Name x p1] (tCons (tG X.K X.mg We (RD X.K X.mg) S f) (tCons (tC (.ty T)) tNil)) := pa_cons ha (pa_cons (pe_bltn (v := .ty T) hgT hmT hv rfl hn hdb) pa_nil hs2) hs1
  refine pe_imp (pe_callB call_isi hg hm (by decide +kernel) hP (by decide) (by decide) hs1 hpl) fun σ H Q ⟨F, ρ, hF, hE, q⟩ => ⟨F, ρ, hF, hE, Out.bind q fun d F1 H1 v ex r q1 => ?_⟩
  unfold dIsi at q1
  cases hb : isT T d.ty with
  | none => rw [hb] at q1; exact q1.elim
  | some b =>
    rw [hb] at q1
    unfold isT at hb
    by_cases hd : (d.ty == "") = true
    · rw [if_pos hd] at hb; cases hb
    · rw [if_neg hd] at hb
      exact ⟨v, .ty T, .type d.ty, .type T, b, rfl, .ty T, ty_of ex.2.1 r (by simpa using hd), kit_ty hb, q1 F1 H1 _ (Ext.refl ex.2.1) (.bl b)⟩
end

/-! ### methods of texts -/
def MeD (K : PySem.W.Frag) (mg : Str → Option Value) (r : V → List V → Hp → VK → Prop) (o : Str → List D → Res D) : Prop :=
  ∀ (We : WeX) (F H : Hp) (σ : L2.St) (x : Str) (xs : List D) (vs : List V) (Q : VK), Same F H → RepAll K mg F vs xs → Out K mg We (RD K mg) F H σ Q (o x xs) → r (.str x) vs H Q
def MeF (K : PySem.W.Frag) (mg : Str → Option Value) (r : V → List V → Hp → VK → Prop) (o : Str → List D → Res (List D)) : Prop :=
  ∀ (We : WeX) (F H : Hp) (σ : L2.St) (x : Str) (xs : List D) (vs : List V) (Q : VK), Same F H → RepAll K mg F vs xs → Out K mg We (RF K mg) F H σ Q (o x xs) → r (.str x) vs H Q
def eM {β : Type} (o : Str → List D → Res β) (f : DEnv → Res D) (g : DEnv → Res (List D)) : DEnv → Res β := fun ρ => (f ρ).bind fun x => match x with
  | .str z => (g ρ).bind fun xs => o z xs
  | _ => .st
section
variable {X : Cx} {We : WeX} {Sa Sb : List Nat} {f : DEnv → Res D} {g : DEnv → Res (List D)} {o e : PySem.Expr} {es : List PySem.Expr} {name : Str} {apos cpos : Pos} {id : String} {r : V → List V → Hp → VK → Prop}
theorem pd_m {m : Str → List D → Res D} (slot : PySem.Slot "str" name id) (hty : typeOf (.builtin id) = pure (.type "method_descriptor")) (hm : MtR X id r) (hd : MeD X.K X.mg r m) (ho : PD X We Sa o f) (ha : PAD X We Sb (e :: es) g)
    (hbase : attributeBase o name X.env (eval o X.env) = eval o X.env := by rfl)
    (hfew : ((backTo cpos (starEach (e :: es) X.env)).all (fun x => !x.1) && (backToKw cpos (keywordEach [] X.env)).all (fun x => x.1.isSome)
      && decide ((e :: es).length + ([] : List Keyword).length + (if ([] : List Keyword).isEmpty then 0 else 1) < 30)) = true := by rfl)
    (hline : (apos.endLine == cpos.line) = true := by rfl) (hs : starEach (e :: es) X.env = (false, eval e X.env) :: starEach es X.env := by rfl) (hplain : (backTo cpos (starEach es X.env)).any (·.1) = false := by rfl) :
    PD X We (Sa ++ Sb) (.Call (.Attribute o name apos) (e :: es) [] cpos) (eM m f g) :=
  pe_imp (pe_bm PySem.F.plainAttrs_str slot hty hm ho ha hbase hfew hline hs hplain) fun σ H Q ⟨F, ρ, hF, hE, q⟩ => ⟨F, ρ, hF, hE.l, Out.bind q fun x F1 H1 v ex rx q1 => by
    cases x with
    | str z =>
      cases rx
      exact ⟨rfl, F1, ρ, ex.2.1, hE.r.mono ex.1, Out.bind q1 fun xs F2 H2 vs ey ry q2 => hd We F2 H2 σ z xs vs Q ey.2.1 ry q2⟩
    | _ => exact q1.elim⟩
theorem pf_m {m : Str → List D → Res (List D)} (slot : PySem.Slot "str" name id) (hty : typeOf (.builtin id) = pure (.type "method_descriptor")) (hm : MtR X id r) (hd : MeF X.K X.mg r m) (ho : PD X We Sa o f) (ha : PAD X We Sb (e :: es) g)
    (hbase : attributeBase o name X.env (eval o X.env) = eval o X.env := by rfl)
    (hfew : ((backTo cpos (starEach (e :: es) X.env)).all (fun x => !x.1) && (backToKw cpos (keywordEach [] X.env)).all (fun x => x.1.isSome)
      && decide ((e :: es).length + ([] : List Keyword).length + (if ([] : List Keyword).isEmpty then 0 else 1) < 30)) = true := by rfl)
    (hline : (apos.endLine == cpos.line) = true := by rfl) (hs : starEach (e :: es) X.env = (false, eval e X.env) :: starEach es X.env := by rfl) (hplain : (backTo cpos (starEach es X.env)).any (·.1) = false := by rfl) :
    PF X We (Sa ++ Sb) (.Call (.Attribute o name apos) (e :: es) [] cpos) (eM m f g) :=
  pe_imp (pe_bm PySem.F.plainAttrs_str slot hty hm ho ha hbase hfew hline hs hplain) fun σ H Q ⟨F, ρ, hF, hE, q⟩ => ⟨F, ρ, hF, hE.l, Out.bind q fun x F1 H1 v ex rx q1 => by
    cases x with
    | str z =>
      cases rx
      exact ⟨rfl, F1, ρ, ex.2.1, hE.r.mono ex.1, Out.bind q1 fun xs F2 H2 vs ey ry q2 => hd We F2 H2 σ z xs vs Q ey.2.1 ry q2⟩
    | _ => exact q1.elim⟩
end
/-- a method of one text argument -/
def m1 (c : Str → Str → Bool) (h : Str → Str → D) : Str → List D → Res D := fun x xs => match xs with
  | [.str y] => if c x y = true then .ok (h x y) else .st
  | _ => .st
theorem m1_out {K : PySem.W.Frag} {mg : Str → Option Value} {We : WeX} {F H : Hp} {σ : L2.St} {x : Str} {xs : List D} {vs : List V} {Q : VK} {c : Str → Str → Bool} {h : Str → Str → D} (rr : RepAll K mg F vs xs) (q : Out K mg We (RD K mg) F H σ Q (m1 c h x xs)) :
    ∃ y, vs = [.str y] ∧ c x y = true ∧ Out K mg We (RD K mg) F H σ Q (.ok (h x y)) := by
  have key : ∀ d, xs = [d] → ∃ y, vs = [.str y] ∧ c x y = true ∧ Out K mg We (RD K mg) F H σ Q (.ok (h x y)) := fun d e => by
    subst e
    cases d <;> try exact q.elim
    rename_i y
    obtain ⟨v, rfl, rv⟩ := rr.one
    cases rv
    have q : Out K mg We (RD K mg) F H σ Q (if c x y = true then .ok (h x y) else .st) := q
    by_cases z : c x y = true
    · rw [if_pos z] at q; exact ⟨y, rfl, z, q⟩
    · rw [if_neg z] at q; exact q.elim
  match xs, q with
  | [d], q => exact key d rfl
  | [], q => exact q.elim
  | a :: _ :: _, q => cases a <;> exact q.elim
def okS (x _ : Str) : Bool := decide (x.length ≤ lim)
def okS1 (_ _ : Str) : Bool := true
def mRemoveSuffix := m1 okS fun x y => .str (Txt.removesuffix x y)
def mRemovePrefix := m1 okS fun x y => .str (Txt.removeprefix x y)
def mStarts := m1 okS1 fun x y => .bl (Txt.startswith x y)
section
variable {K : PySem.W.Frag} {mg : Str → Option Value}
theorem md_removesuffix : MeD K mg (fun x xs H Q => ∃ a b, x = .str a ∧ xs = [.str b] ∧ a.length ≤ sizeLine ∧ Q (.str (Txt.removesuffix a b)) H) mRemoveSuffix := fun We F H σ x xs vs Q hF rr q => by
  obtain ⟨y, rfl, hc, q⟩ := m1_out rr q
  exact ⟨x, y, rfl, rfl, le_line (of_decide_eq_true hc), q F H _ (Ext.refl hF) (.str _)⟩
theorem md_removeprefix : MeD K mg (fun x xs H Q => ∃ a b, x = .str a ∧ xs = [.str b] ∧ a.length ≤ sizeLine ∧ Q (.str (Txt.removeprefix a b)) H) mRemovePrefix := fun We F H σ x xs vs Q hF rr q => by
  obtain ⟨y, rfl, hc, q⟩ := m1_out rr q
  exact ⟨x, y, rfl, rfl, le_line (of_decide_eq_true hc), q F H _ (Ext.refl hF) (.str _)⟩
theorem md_starts : MeD K mg (fun x xs H Q => ∃ a b, x = .str a ∧ xs = [.str b] ∧ Q (.bl (Txt.startswith a b)) H) mStarts := fun We F H σ x xs vs Q hF rr q => by
  obtain ⟨y, rfl, hc, q⟩ := m1_out rr q
  exact ⟨x, y, rfl, rfl, q F H _ (Ext.refl hF) (.bl _)⟩
end

/-! ### attributes -/
def lookD : List Str → List D → Str → Option D
  | n :: ns, d :: ds, f => if f == n then some d else lookD ns ds f
  | _, _, _ => none
/-- what of the text a class must have, that its instances' fields fs may be read and stored -/
structure ClD (K : PySem.W.Frag) (mg : Str → Option Value) (c : Str) (C : Addr) (fs : List Str) : Prop where
  gl : mg c = some (.ref C)
  cl : Cls K C
  na : ∀ f ∈ fs, NoAttr K C f
def dFld (cs : List Str) (f : Str) : D → Res D
  | .obj c ns ds => if cs.contains c = true then match lookD ns ds f with
    | some d => .ok d
    | none => .st
    else .st
  | _ => .st
theorem RepAll.look {K : PySem.W.Frag} {mg : Str → Option Value} {F : Hp} {f : Str} {d : D} : ∀ {fv : List (Str × V)} {ns : List Str} {ds : List D}, fv.map (·.1) = ns → RepAll K mg F (fv.map (·.2)) ds → lookD ns ds f = some d → ∃ v, fv.lookup f = some v ∧ Rep K mg F v d
  | [], ns, ds, e, r, h => by subst e; cases ds <;> cases h
  | (n, v) :: fv, ns, ds, e, r, h => by
    subst e
    cases ds with
    | nil => cases r
    | cons x xs =>
      cases r with
      | cons a b =>
        have h : (if f == n then some x else lookD (fv.map (·.1)) xs f) = some d := h
        show ∃ v', (match f == n with | true => some v | false => fv.lookup f) = some v' ∧ _
        cases hn : f == n with
        | true => rw [hn, if_pos rfl] at h; cases h; exact ⟨v, rfl, a⟩
        | false => rw [hn, if_neg Bool.false_ne_true] at h; exact RepAll.look rfl b h
section
variable {X : Cx} {We : WeX} {S : List Nat} {f : DEnv → Res D} {e : PySem.Expr} {fl : Str} {pos : Pos}
theorem pd_fld (cs : List Str) (hc : ∀ c ∈ cs, ∃ C fs, ClD X.K X.mg c C fs ∧ fl ∈ fs) (he : PD X We S e f) (hb : attributeBase e fl X.env (eval e X.env) = eval e X.env := by rfl) : PD X We S (.Attribute e fl pos) (e1 (dFld cs fl) f) :=
  pe_imp (pe_fld he hb) fun σ H Q ⟨F, ρ, hF, hE, q⟩ => ⟨F, ρ, hF, hE, Out.bind q fun x F1 H1 v ex rx q1 => by
    cases x with
    | obj c ns ds =>
      have q1 : Out X.K X.mg We (RD X.K X.mg) F1 H1 σ Q (if cs.contains c = true then match lookD ns ds fl with | some d => .ok d | none => .st else .st) := q1
      by_cases z : cs.contains c = true
      · rw [if_pos z] at q1
        obtain ⟨C', fs, cd, hf⟩ := hc c (by simpa using z)
        cases hl : lookD ns ds fl with
        | none => rw [hl] at q1; exact q1.elim
        | some d =>
          rw [hl] at q1
          cases rx with
          | obj g ha n r =>
            rw [cd.gl] at g; cases g
            obtain ⟨w, hw, rw'⟩ := RepAll.look n r hl
            exact ⟨_, C', _, _, w, rfl, ex.2.1 _ _ ha, cd.cl, cd.na fl hf, hw, q1 F1 H1 _ (Ext.refl ex.2.1) rw'⟩
      · rw [if_neg z] at q1; exact q1.elim
    | _ => exact q1.elim⟩
/-- C.f, a constant of the class -/
theorem pd_cval {C : Addr} {c : Str} {mc u : Value} {v : V} {d : D} {p : Pos} (hm : X.mg c = some (.ref C)) (hr : ClX.CRead X.K C mc) (hv : ClX.CVal X.K C mc fl v u) (rd : ∀ F, Rep X.K X.mg F v d) (hg : Gl X c := by rfl) (hdb : (c == ("__debug__" : Str)) = false := by decide)
    (hb : attributeBase (.Name c p) fl X.env (eval (.Name c p) X.env) = eval (.Name c p) X.env := by rfl) : PD X We [] (.Attribute (.Name c p) fl pos) (eC d) :=
  pe_imp (ClX.pe_cval (pe_glob (v := .ref C) hg hm rfl hdb) hb) fun σ H Q ⟨F, ρ, hF, hE, q⟩ => ⟨C, mc, v, u, rfl, hr, hv, q F H v (Ext.refl hF) (rd F)⟩
/-- a module's constant -/
theorem pd_glob {c : Str} {u : Value} {v : V} {d : D} (hm : X.mg c = some u) (r : RelV v u) (rd : ∀ F, Rep X.K X.mg F v d) (hg : Gl X c := by rfl) (hdb : (c == ("__debug__" : Str)) = false := by decide) : PD X We [] (.Name c pos) (eC d) :=
  pd_c (pe_glob hg hm r hdb) rd
end

/-! ### instances made -/
section
variable {X : Cx} {CX : CXT} {k : Nat} {f C : Addr} {fd : FuncData} {ps : List Str} {sp : Sp} {dvs : List V} {ds : List Value} {E : L2.St → XK} {x m : Str} {p pos apos : Pos} {e o : PySem.Expr} {es : List PySem.Expr} {ta : TE} {t : TA}
theorem run_makeS {pins : List (Addr × Obj)} {σ : L2.St} {H : Hp} {s : Shared} {Q : VK} {us : List Value} {vs : List V} (M : Mk X.K C f) (F : FnOk X.prog X.w X.K X.mg X.base CX k f fd ps sp) (hr : Room (k + 1) X.A) (hb : Binds X.K fd ps [])
    (hx : PassesAt CX X σ (E σ)) (I : Inv X pins σ H s) (r : Vals vs us)
    (h : ∀ x dx, H x = none → H dx = none → dx ≠ x → sp (.ref x :: vs) (upd (upd H dx (.own x)) x (.ins C dx [])) (fun v H2 => v = .non ∧ Q (.ref x) H2) (E σ)) :
    wpAny (model X.prog X.w) X.A (call (.ref C) us) (EP X pins σ Q) X.xe s := by
  have hq := h (s.heap.objs.size + 1) s.heap.objs.size (I.hok.fresh (Nat.le_succ _)) (I.hok.fresh (Nat.le_refl _)) (Nat.ne_of_lt (Nat.lt_succ_self _))
  have I2 := Inv.made (C := C) I
  have r2 : Vals (V.ref (s.heap.objs.size + 1) :: vs) (Value.ref (s.heap.objs.size + 1) :: us) := .cons rfl r
  have hl : (Value.ref (s.heap.objs.size + 1) :: us).length = ps.length := by
    have e := r2.length
    rw [F.len _ _ _ _ hq] at e
    exact e.symm
  have hb2 := hb _ (Value.ref (s.heap.objs.size + 1) :: us) I2.kIn (by rw [List.append_nil]; exact hl)
  rw [List.append_nil] at hb2
  refine wpAny_call (make_map (f := f) I.kIn M.makes M.init (beq_iff_eq.mp M.fn) (codeAny_mono (F.run _ X.stack _ _ ⟨Value.ref (s.heap.objs.size + 1) :: us, []⟩ (Value.ref (s.heap.objs.size + 1) :: us) _ _ (E σ) (hr.make C us [])
    (I2.env0.make C us []) hb2 r2 hq) fun r s' hq' => ?_))
  cases r with
  | error e => exact hx pins _ _ e s' I2 hq'
  | ok fl =>
    cases fl with
    | ret u =>
      obtain ⟨v, H', I3, rv, ev, q3⟩ := I2.after hq'
      subst ev
      exact ⟨rv, ⟨V.ref (s.heap.objs.size + 1), H', I3, rfl, q3⟩⟩
    | next => exact False.elim hq'
    | brk => exact False.elim hq'
    | cont => exact False.elim hq'
def tMakeS (C : Addr) (sp : Sp) (E : L2.St → XK) (t : TA) : TE := fun σ H Q => t σ H fun vs H1 => ∀ x dx, H1 x = none → H1 dx = none → dx ≠ x →
  sp (.ref x :: vs) (upd (upd H1 dx (.own x)) x (.ins C dx [])) (fun v H2 => v = .non ∧ Q (.ref x) H2) (E σ)
theorem pe_makeS (M : Mk X.K C f) (F : FnOk X.prog X.w X.K X.mg X.base CX k f fd ps sp) (hr : Room (k + 1) X.A) (hg : Gl X x) (hm : X.mg x = some (.ref C)) (hb : Binds X.K fd ps []) (hx : ∀ σ, PassesAt CX X σ (E σ))
    (ha : PA X (e :: es) t) (hdb : (x == ("__debug__" : Str)) = false := by decide) (he : starEach (e :: es) X.env = (false, eval e X.env) :: starEach es X.env := by rfl) (hpl : (backTo pos (starEach es X.env)).any (·.1) = false := by rfl) :
    PE X (.Call (.Name x p) (e :: es) [] pos) (tMakeS C sp E t) := by
  refine ⟨fun pins s σ H Q I h => ?_⟩
  refine wpAny_Call_Name_kw (ld_glob I hg hm ?_ hdb)
  refine PySem.W.callWith_K (h₀ := X.base) I.ok.mod.kin M.kp (thn (ha.run pos pins s σ H _ I h) fun us s1 ⟨vs, H1, I1, r, q⟩ => ⟨I1.kIn, ?_⟩) he hpl
  exact run_makeS M F hr hb (hx σ) I1 r q
end
/-- C(..) as data -/
def mkD (c : Str) (n : Nat) (m : List D → Res (List Str × List D)) : List D → Res D := fun ds => if ds.length + 1 = n then (m ds).bind fun r => .ok (.obj c r.1 r.2) else .st
end DL
set_option Elab.async false
set_option linter.all false
set_option maxRecDepth 100000
set_option maxHeartbeats 1000000
/-! DL7: instances that are made, and that are walked. -/
namespace DL
open PySem PySem.Spec PyProof.Rows L2

/-! ### self.f = e -/
def putN (f : Str) : List Str → List Str
  | [] => [f]
  | n :: ns => if n = f then n :: ns else n :: putN f ns
def putD (f : Str) (d : D) : List Str → List D → List D
  | n :: ns, x :: xs => if n = f then d :: xs else x :: putD f d ns xs
  | _, _ => [d]
theorem putF_names (f : Str) (v : V) : ∀ fv : List (Str × V), (putF f v fv).map (·.1) = putN f (fv.map (·.1))
  | [] => rfl
  | (g, x) :: r => by
    show (if g = f then (g, v) :: r else (g, x) :: putF f v r).map (·.1) = if g = f then g :: r.map (·.1) else g :: putN f (r.map (·.1))
    split
    · rfl
    · rw [List.map_cons, putF_names f v r]
theorem putF_rep {K : PySem.W.Frag} {mg : Str → Option Value} {F : Hp} (f : Str) {v : V} {d : D} (rv : Rep K mg F v d) : ∀ {fv : List (Str × V)} {ds : List D}, RepAll K mg F (fv.map (·.2)) ds → RepAll K mg F ((putF f v fv).map (·.2)) (putD f d (fv.map (·.1)) ds)
  | [], ds, r => by
    cases ds with
    | nil => exact .cons rv .nil
    | cons a b => cases r
  | (g, x) :: fv, ds, r => by
    cases ds with
    | nil => cases r
    | cons y ys =>
      cases r with
      | cons a b =>
        show RepAll K mg F ((if g = f then (g, v) :: fv else (g, x) :: putF f v fv).map (·.2)) (if g = f then d :: ys else y :: putD f d (fv.map (·.1)) ys)
        split
        · exact .cons rv b
        · exact .cons a (putF_rep f rv b)
def sAttr (k : Bool) (S : List Nat) (cs : List Str) (i : Nat) (fl : Str) (f : DEnv → Res D) : DEnv → SRes := fun ρ => after (f ρ) ρ fun d => rest k S (fun b => d.nlx b) ρ fun ρ' => match ρ'[i]? with
  | some (.obo t c ns fs) => if cs.contains c = true ∧ ns.length < 1000 then .nx (ρ'.set i (.obo t c (putN fl ns) (putD fl d ns fs))) else .st
  | _ => .st
section
variable {X : Cx} {fr : Bool} {We : WeX} {S : List Nat} {e : PySem.Expr} {fe : DEnv → Res D} {fl x : Str} {p pos pos' : Pos}
theorem sd_attr (k : Bool) (cs : List Str) (i : Nat) (hc : ∀ c ∈ cs, ∃ C fs, ClD X.K X.mg c C fs ∧ fl ∈ fs) (he : PD X We S e fe) (hN : X.N[i]? = some x := by rfl) (hv : Vis X.env.scope x := by first | exact Or.inl rfl | exact Or.inr (Or.inl rfl) | exact Or.inr (Or.inr rfl)) (hd : (x == ("__debug__" : Str)) = false := by decide)
    (hcd : (x == ("__classdict__" : Str)) = false := by decide) (hs : swapsWith e (some (.Attribute (.Name x p) fl pos')) pos.line X.env = pure false := by rfl) :
    SD X fr We (.Assign [.Attribute (.Name x p) fl pos'] e pos) (sAttr k S cs i fl fe) :=
  ps_imp (ps_fld (pe_var (i := i) hN hv hd hcd) he hs) fun E σ H ⟨B, F, ρ, e, h⟩ => OutS.evalD e h fun F' H' v d ρ' e' r q => by
    cases h1 : ρ'[i]? with
    | none => rw [h1] at q; exact q.elim
    | some s =>
      rw [h1] at q
      cases s with
      | un => exact q.elim
      | d d => exact q.elim
      | own t xs => exact q.elim
      | exc x => exact q.elim
      | obo t c ns fs =>
        have q : OutS X.K X.mg fr We B E (if cs.contains c = true ∧ ns.length < 1000 then .nx (ρ'.set i (.obo t c (putN fl ns) (putD fl d ns fs))) else .st) := q
        by_cases z : cs.contains c = true ∧ ns.length < 1000
        · rw [if_pos z] at q
          obtain ⟨C', fs', cd, hf⟩ := hc c (by simpa using z.1)
          obtain ⟨a, C, dx, fv, a1, a2, a3, m, a4, n, a5, a6⟩ := e'.sl i _ h1
          rw [cd.gl] at m; cases m
          refine ⟨_, a1, a, C', dx, fv, rfl, a4, cd.cl, cd.na fl hf, ?_, q F' σ _ (e'.mutO h1 rfl a1 ?_)⟩
          · have : fv.length = ns.length := by rw [← n, List.length_map]
            omega
          · subst n
            exact ⟨a, C', dx, _, rfl, a2, a3, cd.gl, upd_same, putF_names fl v fv, putF_rep fl r a5, a6⟩
        · rw [if_neg z] at q; exact q.elim
end

/-! ### __init__ -/
def hideA (H : Hp) (x : Addr) : Hp := fun b => if b = x then none else H b
theorem hideA_same {H : Hp} {x : Addr} : hideA H x x = none := if_pos rfl
theorem hideA_ne {H : Hp} {x b : Addr} (h : b ≠ x) : hideA H x b = H b := if_neg h
theorem hideA_some {H : Hp} {x b : Addr} {o : HO} (h : hideA H x b = some o) : b ≠ x ∧ H b = some o := by
  by_cases z : b = x
  · subst z; rw [hideA_same] at h; cases h
  · rw [hideA_ne z] at h; exact ⟨z, h⟩
/-- an __init__: the instance at x gets the fields that m tells -/
def spI (K : PySem.W.Frag) (mg : Str → Option Value) (C : Addr) (n : Nat) (m : List D → Res (List Str × List D)) : Sp := fun vs H Q E => vs.length = n ∧ ∃ x dx rest F ds, vs = .ref x :: rest ∧ H x = some (.ins C dx []) ∧ F x = none ∧ Same F H ∧ RepAll K mg F rest ds ∧
  match m ds with
  | .ok r => ∀ F' H' dx' fv, Ext F (hideA H x) F' H' → F' x = none → H' x = some (.ins C dx' fv) → fv.map (·.1) = r.1 → RepAll K mg F' (fv.map (·.2)) r.2 → Q .non H'
  | .er z => ∀ cc d H', Same (hideA H x) H' → mg z.c = some (.ref cc) → XFs K mg (hideA H x) H' d z.ns z.fs → E (.ref cc) d H'
  | .st => False
abbrev FnI (P : Program) (w : World) (K : PySem.W.Frag) (mg : Str → Option Value) (base : Heap) (k : Nat) (f : Addr) (fd : FuncData) (ps : List Str) (C : Addr) (m : List D → Res (List Str × List D)) : Prop :=
  FnOk P w K mg base (L2.CX P w) k f fd ps (spI K mg C ps.length m)
section
variable {X : Cx} {We : WeX} {S : List Nat} {k j : Nat} {f C : Addr} {fd : FuncData} {ps : List Str} {m : List D → Res (List Str × List D)} {c : Str} {p pos : Pos} {e : PySem.Expr} {es : List PySem.Expr} {g : DEnv → Res (List D)}
theorem pd_make (tk : Takes X We) (hr : Room k X.A) (hjk : j + 1 ≤ k) (M : Mk X.K C f) (F : FnI X.prog X.w X.K X.mg X.base j f fd ps C m) (hm : X.mg c = some (.ref C)) (hb : Binds X.K fd ps [])
    (ha : PAD X We S (e :: es) g) (hg : Gl X c := by rfl) (hdb : (c == ("__debug__" : Str)) = false := by decide) (he : starEach (e :: es) X.env = (false, eval e X.env) :: starEach es X.env := by rfl) (hpl : (backTo pos (starEach es X.env)).any (·.1) = false := by rfl) :
    PD X We S (.Call (.Name c p) (e :: es) [] pos) (eL (mkD c ps.length m) g) :=
  pe_imp (pe_makeS M F (hr.mono hjk) hg hm hb (fun σ => passAt tk σ) ha hdb he hpl) fun σ H Q ⟨F, ρ, hF, hE, q⟩ => ⟨F, ρ, hF, hE, Out.bind q fun ds F1 H1 vs ex r q1 => by
    intro x dx nx nd ne
    unfold mkD at q1
    by_cases hl : ds.length + 1 = ps.length
    · rw [if_pos hl] at q1
      have s1 : Same H1 (upd (upd H1 dx (.own x)) x (.ins C dx [])) := (same_upd nd).trans (same_upd (by rw [upd_ne (Ne.symm ne)]; exact nx))
      have s2 : Same H1 (hideA (upd (upd H1 dx (.own x)) x (.ins C dx [])) x) := fun b o q => by
        rw [hideA_ne (ne_of_none q nx)]; exact s1 _ _ q
      refine ⟨by rw [List.length_cons, r.length]; exact hl, x, dx, vs, F1, ds, rfl, upd_same, ex.2.1.free nx, ex.2.1.trans s1, r, ?_⟩
      cases hmd : m ds with
      | st => rw [hmd] at q1; exact q1.elim
      | er z =>
        rw [hmd] at q1
        intro cc d H' k1 mc xf
        exact q1 cc d H' (s2.trans k1) mc (xf.back s2)
      | ok rr =>
        rw [hmd] at q1
        intro F' H' dx' fv e1 e5 e6 e7 e8
        refine ⟨rfl, q1 (upd F' x (.ins C dx' fv)) H' _ ⟨e1.1.trans (same_upd e5), fun b o q => ?_, s2.trans e1.2.2.1, fun b o q => ?_⟩ (.obj hm upd_same e7 (e8.mono (same_upd e5)))⟩
        · by_cases z : b = x
          · subst z; rw [upd_same] at q; cases q; exact e6
          · rw [upd_ne z] at q; exact e1.2.1 _ _ q
        · have z : b ≠ x := ne_of_none q nx
          rw [upd_ne z]
          exact e1.2.2.2 b o (s2 _ _ q)
    · rw [if_neg hl] at q1; exact q1.elim⟩
end
/-- an __init__'s body as a function of its arguments -/
def mI (nN : Nat) (c : Str) (g : DEnv → SRes) : List D → Res (List Str × List D) := fun ds => match g (Slot.obo true c [] [] :: ds.map Slot.d ++ List.replicate (nN - (ds.length + 1)) Slot.un) with
  | .nx ρ => match ρ[0]? with
    | some (Slot.obo true c' ns fs) => if c' = c then .ok (ns, fs) else .st
    | _ => .st
  | .er x _ => .er x
  | _ => .st
theorem envS_init {K : PySem.W.Frag} {mg : Str → Option Value} {ex : EXP} {F H : Hp} {N : List Str} {vs : List V} {ds : List D} {x C dx : Addr} {c : Str} (hm : mg c = some (.ref C)) (hx : H x = some (.ins C dx [])) (fx : F x = none) (hF : Same F H) (r : RepAll K mg F vs ds) :
    EnvS K mg ex ⟨F, hideA H x, fun _ => x⟩ F (L2.start N (.ref x :: vs)) H (.obo true c [] [] :: ds.map Slot.d ++ List.replicate (N.length - (ds.length + 1)) .un) := by
  have hl := r.length
  have isO : ∀ (i : Nat) s, (Slot.obo true c [] [] :: ds.map Slot.d ++ List.replicate (N.length - (ds.length + 1)) .un)[i]? = some s → s.isO = true → i = 0 := fun i s h o => by
    cases i with
    | zero => rfl
    | succ i =>
      rw [List.cons_append, List.getElem?_cons_succ] at h
      by_cases hi : i < ds.length
      · rw [List.getElem?_append_left (by simpa using hi), List.getElem?_map] at h
        cases hd : ds[i]? with
        | none => rw [hd] at h; cases h
        | some d => rw [hd] at h; cases h; cases o
      · rw [List.getElem?_append_right (by simpa using hi), List.getElem?_replicate] at h
        split at h
        · cases h; cases o
        · cases h
  refine ⟨fun p o (q : F p = some o) => ?_, Same.refl _, hF, fun p o q => (hideA_some q).2, fun _ _ _ => rfl, ?_, fun i s h => ?_, fun i j a s t h1 h2 o1 o2 _ _ => by rw [isO i s h1 o1, isO j t h2 o2]⟩
  · show hideA H x p = some o
    rw [hideA_ne (fun z => by rw [z, fx] at q; cases q)]
    exact hF _ _ q
  · unfold L2.start; simp [hl]
  · cases i with
    | zero =>
      cases h
      refine ⟨x, C, dx, [], ?_, fx, hideA_same, hm, hx, rfl, .nil, fun _ => rfl⟩
      unfold L2.start
      rfl
    | succ i =>
      rw [List.cons_append, List.getElem?_cons_succ] at h
      by_cases hi : i < ds.length
      · rw [List.getElem?_append_left (by simpa using hi), List.getElem?_map] at h
        cases hd : ds[i]? with
        | none => rw [hd] at h; cases h
        | some d =>
          rw [hd] at h
          cases h
          obtain ⟨v, hv, rv⟩ := r.get hd
          refine ⟨v, ?_, rv⟩
          unfold L2.start
          rw [List.map_cons, List.cons_append, List.getElem?_cons_succ, List.getElem?_append_left (by rw [List.length_map, hl]; exact hi), List.getElem?_map, hv]
          rfl
      · rw [List.getElem?_append_right (by simpa using hi), List.getElem?_replicate] at h
        split at h
        · cases h; trivial
        · cases h
theorem fni_of {P : Program} {w : World} {K : PySem.W.Frag} {mg : Str → Option Value} {base : Heap} {x qual c : Str} {st : Stmt} {f C : Addr} {fd : FuncData} {N ps : List Str} {k : Nat} {g : DEnv → SRes}
    (F : Fun K x qual st f fd) (S : FnScope N ps (defScope st)) (hm : mg c = some (.ref C))
    (hb : ∀ (cdv : Value) (A : Around) (outer : List Env) (s : Shared) (H : Hp) (E : XK), Room k (A.deeper (envOfC qual (defScope st) s.heap.objs.size f cdv)) →
      SDs (cxOf (L2.CX P w) P w K mg base N qual (defScope st) f cdv A outer s H E) false ⟨fun c d _ H' => E c d H', none⟩ (defBody st) g) : FnI P w K mg base (k + 1) f fd ps C (mI N.length c g) := by
  refine F.okX S (fun vs H Q E h => h.1) fun cdv A outer s H vs Q E hr h => ⟨_, hb cdv A outer s H E hr, ?_⟩
  obtain ⟨hl, x, dx, rest, F', ds, rfl, hx, fx, hF, r, q⟩ := h
  refine ⟨_, F', _, envS_init hm hx fx hF r, ?_⟩
  unfold mI at q
  cases hg : g (.obo true c [] [] :: ds.map Slot.d ++ List.replicate (N.length - (ds.length + 1)) .un) with
  | nx ρ =>
    rw [hg] at q
    intro F2 σ2 H2 e
    cases h0 : ρ[0]? with
    | none => simp only [h0] at q
    | some s =>
      simp only [h0] at q
      cases s with
      | un => exact q.elim
      | d d => exact q.elim
      | own t xs => exact q.elim
      | exc x => exact q.elim
      | obo t c' ns fs =>
        cases t with
        | false => exact q.elim
        | true =>
          by_cases hc : c' = c
          · subst hc
            simp only [if_pos] at q
            obtain ⟨a, C', dx', fv, a1, a2, a3, m, a4, n, a5, a6⟩ := e.sl 0 _ h0
            have m : mg c' = some (.ref C') := m
            rw [hm] at m; cases m
            have : x = a := a6 rfl
            subst this
            exact q F2 H2 dx' fv e.ext a2 a4 n a5
          · simp only [if_neg hc] at q
  | rt d => rw [hg] at q; exact q.elim
  | er z ρ => rw [hg] at q; exact fun F2 σ2 H2 C d e m z => q C d H2 e.hh m z
  | bk ρ => rw [hg] at q; exact q.elim
  | ct ρ => rw [hg] at q; exact q.elim
  | st => rw [hg] at q; exact q.elim
end DL
set_option Elab.async false
set_option linter.all false
set_option maxRecDepth 100000
set_option maxHeartbeats 1000000
/-! DL8: instances that are walked: __iter__ is return iter(self.f), f a tuple. -/
namespace DL
open PySem PySem.Spec PyProof.Rows L2

/-- at it a tuple's iterator at its start -/
def TiO (l it : Addr) : HO := .ext fun h => h.IsTupleIter it l 0
theorem tiO_ok {P : Program} {w : World} {H : Hp} {h : Heap} {l it : Addr} (e : h.IsTupleIter it l 0) : ObjOk P w H h it (TiO l it) :=
  ⟨e, by obtain ⟨o, e, _⟩ := e; exact ⟨o, e⟩, fun h1 h2 q k => by obtain ⟨o, e, r⟩ := q; exact ⟨o, k _ e, r⟩⟩
theorem go_iterT {prog : Program} {w : World} {A : Around} {E : Value → Shared → Prop} {s : Shared} {l : Addr} {items : Array Value} {Q : Value → Shared → Prop} (ht : s.heap.IsTuple l items)
    (h : Q (.ref s.heap.objs.size) { s with heap := s.heap.push { cls := .type "tuple_iterator", data := .fields #[.ref l, .int 0 0] } }) : wpAny (model prog w) A (call (.builtin "iter") [.ref l]) Q E s := by
  refine Calls.call_function_entry (by decide +kernel) (by decide +kernel) PySem.W.kdk_entry_iter (PySem.W.kdk_args_iter _) ?_
  unfold Builtin.«iter»
  refine wpAny_bind (m := someArgs "iter" 1 2 _) (wpAny_of_eq (a := [Value.ref l]) (by first | rfl | kernel_rfl!) ?_)
  show wpAny _ _ (pyIter (.ref l) >>= _) _ _ _
  refine wpAny_bind (wpAny_pyIter_tuple ht ?_)
  exact wpAny_pure ⟨_, rfl, h⟩
def rIterT (K : PySem.W.Frag) (n : Nat) : List V → Hp → VK → Prop := fun xs H Q => ∃ (l : Addr) (zs : List V), xs = [.ref l] ∧ SqT K H l zs ∧ ∀ it, H it = none → n ≤ it → Q (.ref it) (upd H it (TiO l it))
theorem call_iterT {X : Cx} : CallR X (.builtin "iter") (rIterT X.K X.s_0.heap.objs.size) := by
  intro pins s σ H xs us Q I r h
  obtain ⟨l, zs, rfl, hq, q⟩ := h
  obtain ⟨u, rfl, ru⟩ := vals1 r
  cases ru
  obtain ⟨its, rv, pl, hz⟩ := I.tuple hq
  refine go_iterT (show s.heap.IsTuple l its.toArray from pl) ?_
  exact ⟨.ref s.heap.objs.size, _, I.laid (t' := s.toks) (fun b u e => Heap.get?_push_of_some _ e) (Nat.le_refl _) (tiO_ok ⟨_, Heap.get?_push_size _ rfl, rfl, rfl⟩), rfl, q _ (I.hok.fresh (Nat.le_refl _)) I.sz⟩

/-- what __iter__ promises -/
def spIt (K : PySem.W.Frag) (C : Addr) (fl : Str) (n : Nat) : Sp := fun vs H Q E => ∃ a dx fs l zs, vs = [.ref a] ∧ H a = some (.ins C dx fs) ∧ fs.lookup fl = some (.ref l) ∧ SqT K H l zs ∧ ∀ it, H it = none → n ≤ it → Q (.ref it) (upd H it (TiO l it))
/-- a def that may look at where the heap ends -/
def FnS (P : Program) (w : World) (K : PySem.W.Frag) (mg : Str → Option Value) (base : Heap) (k : Nat) (f : Addr) (fd : FuncData) (ps : List Str) (sp : Nat → Sp) : Prop :=
  ∀ (A : Around) (outer : List Env) (s : Shared) (H : Hp) (args : Args) (us : List Value) (vs : List V) (Q : VK) (E : XK), Room k A → Env0 P w K mg base A outer s H → BindsTo s fd args (ps.zip us) → Vals vs us → vs.length = ps.length → sp s.heap.objs.size vs H Q E →
    codeAny (model P w) A (.call (.ref f) args) (CR (L2.CX P w) outer P w H s Q E) s
theorem fns_of {P : Program} {w : World} {K : PySem.W.Frag} {mg : Str → Option Value} {base : Heap} {x qual : Str} {st : Stmt} {f : Addr} {fd : FuncData} {N ps : List Str} {k : Nat} {sp : Nat → Sp}
    (F : Fun K x qual st f fd) (S : FnScope N ps (defScope st))
    (hbody : ∀ (cdv : Value) (A : Around) (outer : List Env) (s : Shared) (H : Hp) (vs : List V) (Q : VK) (E : XK), Room k (A.deeper (envOfC qual (defScope st) s.heap.objs.size f cdv)) → sp s.heap.objs.size vs H Q E →
      ∃ t, PSs (cxOf (L2.CX P w) P w K mg base N qual (defScope st) f cdv A outer s H E) (defBody st) t ∧ t { nx := fun _ H' => Q .non H', rt := Q } (L2.start N vs) H) : FnS P w K mg base (k + 1) f fd ps sp := by
  intro A outer s H args us vs Q E hr e0 hb r hl hsp
  obtain ⟨oc, od, kV, doc, pm, an, cdv, ct, osl, rfl, lk, hcd⟩ := F.ex
  have KX : K.In s.heap := e0.mod.kin.keeps fun b o e => (e0.bs b o e).1
  have lim : s.heap.NoLimit := e0.mod.nolimit.keeps fun b o e => (e0.bs b o e).1
  have hkind : ∀ y ∈ ps.zip us, (defScope st).names.lookup y.1 = some .local ∨ ((defScope st).names.lookup y.1 = some .cell ∧ ((cellsFrom (s.heap.objs.size + 1) (defScope st).names []).lookup y.1).isSome = true) := fun ⟨n, v⟩ hy => by
    rcases S.par n (List.of_mem_zip hy).1 with q | q
    · exact .inl q
    · exact .inr ⟨q, PySem.W.cellsFrom_some _ _ _ (.inl q)⟩
  refine codeAny_call_function hr.depth (KX _ _ lk) rfl S.co S.gen rfl (PySem.W.codeRec_of KX hcd) (hb _ _ _ _ ?_)
  refine wpAny_newFunctionEnv_cells S.kind hkind fun env he s1 x => ?_
  subst he
  refine ⟨lim.keeps x.toInCall.keep, codeAny_func ?_⟩
  obtain ⟨t, ht, hq⟩ := hbody cdv A outer s H vs Q E (hr.deeper _) hsp
  have I : Inv (cxOf (L2.CX P w) P w K mg base N qual (defScope st) f cdv A outer s H E) [] (L2.start N vs) H s1 := inv_start S hr.hd e0 hl r x
  refine wpAny_mono (ht.run [] s1 (L2.start N vs) H _ I hq) (fun fl s' hs => ?_) fun e s' hs => hs
  cases fl with
  | ret u =>
    obtain ⟨v, σ', H', J, rv, q⟩ := hs
    exact ⟨v, H', J.os, J.bare, J.base, J.hok, rv, q⟩
  | next =>
    obtain ⟨σ', H', J, q⟩ := hs
    exact ⟨V.non, H', J.os, J.bare, J.base, J.hok, rfl, q⟩
  | brk =>
    obtain ⟨_, _, _, q⟩ := hs
    exact False.elim q
  | cont =>
    obtain ⟨_, _, _, q⟩ := hs
    exact False.elim q
/-- return iter(self.f) -/
theorem fnit_of {P : Program} {w : World} {K : PySem.W.Frag} {mg : Str → Option Value} {base : Heap} {x qual c fl : Str} {st : Stmt} {f C : Addr} {fd : FuncData} {k : Nat} {fs : List Str}
    (F : Fun K x qual st f fd) (S : FnScope ["self"] ["self"] (defScope st)) (cd : ClD K mg c C fs) (hf : fl ∈ fs) (hi : mg "iter" = none)
    (hb : ∀ (cdv : Value) (A : Around) (outer : List Env) (s : Shared) (H : Hp) (E : XK), PSs (cxOf (L2.CX P w) P w K mg base ["self"] qual (defScope st) f cdv A outer s H E) (defBody st) (tRet (tCB (rIterT K s.heap.objs.size) (tCons (tFld K (tVar 0) fl) tNil)))) : FnS P w K mg base (k + 1) f fd ["self"] (spIt K C fl) := by
  refine fns_of F S fun cdv A outer s H vs Q E hr h => ⟨_, hb cdv A outer s H E, ?_⟩
  obtain ⟨a, dx, fv, l, zs, rfl, ha, hl, hq, q⟩ := h
  exact ⟨_, rfl, a, C, dx, fv, _, rfl, ha, cd.cl, cd.na fl hf, hl, l, zs, rfl, hq, q⟩

/-- an instance of c that is walked by its tuple fl -/
def itO (c fl : Str) : D → Res (List D)
  | .obj c' ns fs => if c' = c then match lookD ns fs fl with
    | some (.tup xs) => .ok xs
    | _ => .st
    else .st
  | _ => .st
section
variable {X : Cx} {We : WeX} {S : List Nat} {tg e : PySem.Expr} {f : DEnv → Res D} {c fl : Str} {C fi : Addr} {fd : FuncData} {k j : Nat}
theorem id_own (hr : Room k X.A) (hjk : j ≤ k) (hm : X.mg c = some (.ref C)) (hs : PySem.W.findIn X.K (.ref C) "__iter__" = some (some (.ref fi))) (hf : PySem.W.isFn X.K (.ref fi) = true) (FI : FnS X.prog X.w X.K X.mg X.base j fi fd ["self"] (spIt X.K C fl)) (bI : Binds X.K fd ["self"] [])
    (he : PD X We S e f) : ID X We S tg e (e1 (itO c fl) f) := by
  refine ⟨fun pins s σ H R I ⟨F, ρ, hF, hE, q⟩ => ?_⟩
  refine thn (he.run pins s σ H (fun v H1 => ∃ a dx fv l zs ds F1, v = .ref a ∧ H1 a = some (.ins C dx fv) ∧ fv.lookup fl = some (.ref l) ∧ SqT X.K H1 l zs ∧ SqT X.K F1 l zs ∧ RepAll X.K X.mg F1 zs ds ∧ ∀ J, ItD X.K X.mg J F1 ds → R J H1) I ⟨F, ρ, hF, hE, ?_⟩) fun v s1 ⟨x, H1, I1, r1, a, dx, fv, l, zs, ds, F1, ex, ha, hl, hq, hq1, rd, qj⟩ => ?_
  · have q : Out X.K X.mg We (RI X.K X.mg) F H σ R ((f ρ).bind (itO c fl)) := q
    refine Out.bind q fun d F1 H1 v ex r q1 => ?_
    cases d with
    | obj c' ns ds =>
      have q1 : Out X.K X.mg We (RI X.K X.mg) F1 H1 σ R (if c' = c then match lookD ns ds fl with | some (.tup xs) => .ok xs | _ => .st else .st) := q1
      by_cases hc : c' = c
      · subst hc
        rw [if_pos rfl] at q1
        cases hl : lookD ns ds fl with
        | none => rw [hl] at q1; exact q1.elim
        | some d =>
          rw [hl] at q1
          cases d with
          | tup xs =>
            cases r with
            | obj g ha n r =>
              rw [hm] at g; cases g
              obtain ⟨w, hw, rw'⟩ := RepAll.look n r hl
              cases rw' with
              | tup sq ra => exact ⟨_, _, _, _, _, xs, F1, rfl, ex.2.1 _ _ ha, hw, SqT.same ex.2.1 sq, sq, ra, fun J hj => q1 F1 H1 J (Ext.refl ex.2.1) hj⟩
          | _ => exact q1.elim
      · rw [if_neg hc] at q1; exact q1.elim
    | _ => exact q1.elim
  · subst ex
    obtain rfl : v = Value.ref a := r1
    obtain ⟨mA, J, _⟩ := ins_get I1.hok ha
    obtain ⟨od, J, _⟩ := J.look
    obtain ⟨m0, hFr⟩ := I1.fr
    refine PySem.W.owit_iter hFr I1.ok.mod.kin J hs hf ?_
    have hsp : spIt X.K C fl s1.heap.objs.size [.ref a] H1 (fun v H2 => ∃ it, v = .ref it ∧ H1 it = none ∧ s1.heap.objs.size ≤ it ∧ H2 = upd H1 it (TiO l it)) (fun _ _ _ => False) :=
      ⟨a, dx, fv, l, zs, rfl, ha, hl, hq, fun it n1 n2 => ⟨it, rfl, n1, n2, rfl⟩⟩
    have r2 : Vals [V.ref a] [Value.ref a] := .cons rfl .nil
    refine wpAny_call (codeAny_mono (FI X.A X.stack s1 H1 ⟨[.ref a], []⟩ [.ref a] [.ref a] _ _ (hr.mono hjk) I1.env0 (by
      have := bI s1 [.ref a] I1.kIn rfl
      simpa using this) r2 rfl hsp) fun r s' hq' => ?_)
    cases r with
    | error e =>
      obtain ⟨_, _, _, _, _, _, _, _, _, _, _, _, z⟩ := hq'
      exact z.elim
    | ok flw =>
      cases flw with
      | next => exact False.elim hq'
      | brk => exact False.elim hq'
      | cont => exact False.elim hq'
      | ret u =>
        obtain ⟨v, H2, I2, rv, it, ev, n1, n2, eH⟩ := I1.after hq'
        subst ev
        obtain rfl : u = Value.ref it := rv
        subst eH
        have hit : upd H1 it (TiO l it) it = some (TiO l it) := upd_same
        have st : s'.heap.IsTupleIter it l 0 := (I2.hok it _ hit).1
        unfold PySem.W.OwitIt
        refine wpAny_specialOf (T := "tuple_iterator") (by obtain ⟨o, e, c, _⟩ := st; exact ⟨o, e, c⟩) PySem.F.slot_tuple_iterator_next.lookup ?_
        have hd : ItX.dropH (upd H1 it (TiO l it)) it = H1 := ItX.dropH_upd n1
        refine ⟨it, [it], _, Itt X.K l, H1, rfl, by rw [← hd]; exact ItX.inv_drop I2 hit, turn_tuple l it, st, fun b hb => ?_, qj _ (itd_tup hq1 rd)⟩
        have e : b = it := by simpa using hb
        rw [e, ← hd]
        exact ItX.inv_fp I2 hit (Nat.le_trans I1.sz n2)
end
end DL
set_option Elab.async false
set_option linter.all false
set_option maxRecDepth 100000
set_option maxHeartbeats 1000000
/-! DL9: generator defs, list(f(..)). -/
namespace DL
open PySem PySem.Spec PyProof.Rows L2

/-- what a generator's statement comes to: what it hands out, its end -/
abbrev GRes := List D × SRes
def OutG (K : PySem.W.Frag) (mg : Str → Option Value) (We : WeX) (B : Bs) (G : GEnds) (acc : List D) : SRes → Prop
  | .nx ρ => ∀ F σ H ys, EnvS K mg We.ex B F σ H ρ → RepAll K mg F ys acc → G.nx ys σ H
  | .bk ρ => ∀ F σ H ys, EnvS K mg We.ex B F σ H ρ → RepAll K mg F ys acc → G.bk ys σ H
  | .ct ρ => ∀ F σ H ys, EnvS K mg We.ex B F σ H ρ → RepAll K mg F ys acc → G.ct ys σ H
  | .rt d => ∀ F H v ys, Ext B.F B.H F H → RepAll K mg F ys acc → Rep K mg F v d → G.rt ys v H
  | .er x ρ => ∀ F σ H C d, EnvS K mg We.ex B F σ H ρ → mg x.c = some (.ref C) → XFs K mg B.H H d x.ns x.fs → We (.ref C) d σ H
  | .st => False
def tGD (K : PySem.W.Frag) (mg : Str → Option Value) (We : WeX) (g : DEnv → GRes) : TGn := fun G ys σ H => ∃ B F ρ acc, EnvS K mg We.ex B F σ H ρ ∧ RepAll K mg F ys acc ∧ (acc ++ (g ρ).1).length ≤ lim ∧ OutG K mg We B G (acc ++ (g ρ).1) (g ρ).2
abbrev GSD (X : Cx) (We : WeX) (st : Stmt) (g : DEnv → GRes) : Prop := GS X st (tGD X.K X.mg We g)
abbrev GSDs (X : Cx) (We : WeX) (st : List Stmt) (g : DEnv → GRes) : Prop := GSs X st (tGD X.K X.mg We g)
theorem gs_imp {X : Cx} {st : Stmt} {t t' : TGn} (h : GS X st t) (i : ∀ G ys σ H, t' G ys σ H → t G ys σ H) : GS X st t' :=
  ⟨fun A S ip R n ys s₀ c fs K J gd lv s σ H G g hn k hI ht => h.run A S ip R n ys s₀ c fs K J gd lv s σ H G g hn k hI (i G ys σ H ht)⟩
theorem gss_imp {X : Cx} {st : List Stmt} {t t' : TGn} (h : GSs X st t) (i : ∀ G ys σ H, t' G ys σ H → t G ys σ H) : GSs X st t' :=
  ⟨fun A S ip R n ys s₀ c fs K J gd lv s σ H G g hn k hI ht => h.run A S ip R n ys s₀ c fs K J gd lv s σ H G g hn k hI (i G ys σ H ht)⟩
def gPl (f : DEnv → SRes) : DEnv → GRes := fun ρ => ([], f ρ)
def gNil : DEnv → GRes := fun ρ => ([], .nx ρ)
def gSeq (f g : DEnv → GRes) : DEnv → GRes := fun ρ => match f ρ with
  | (a, .nx ρ') => (a ++ (g ρ').1, (g ρ').2)
  | r => r
section
variable {X : Cx} {We : WeX} {st : Stmt} {rest' : List Stmt} {f g : DEnv → GRes} {e c : PySem.Expr} {S : List Nat} {pos yp : Pos}
section
variable {K : PySem.W.Frag} {mg : Str → Option Value} {B : Bs} {F1 H : Hp} {σ : L2.St} {ρ : DEnv} {G : GEnds} {acc : List D}
/-- seen from what stands still by now -/
theorem OutG.plain {ys : List V} (e : EnvS K mg We.ex B F1 σ H ρ) (r : RepAll K mg F1 ys acc) {z : SRes} (h : OutG K mg We B G acc z) : OutS K mg false We (B.b2 F1) (G.at ys) z := by
  cases z with
  | nx ρ' => exact fun F2 σ2 H2 q => h F2 σ2 H2 ys (e.unbase q) (r.mono q.ff)
  | bk ρ' => exact fun F2 σ2 H2 q => h F2 σ2 H2 ys (e.unbase q) (r.mono q.ff)
  | ct ρ' => exact fun F2 σ2 H2 q => h F2 σ2 H2 ys (e.unbase q) (r.mono q.ff)
  | rt d => exact fun F2 H2 v ex rv => h F2 H2 v ys ⟨e.ff.trans ex.1, ex.2.1, fun p o q => ex.2.2.1 _ _ (base2_H e.ag e.f0 q), fun p o q => (ex.2.2.2 p o (base2_H e.ag e.f0 q)).trans (e.ag p o q)⟩ (r.mono ex.1) rv
  | er x ρ' =>
    intro F2 σ2 H2 C d q m z
    refine h F2 σ2 H2 C d (e.unbase q) m ?_
    rcases z with z | ⟨dx, fv, h1, h2, h3⟩
    · exact .inl z
    · exact .inr ⟨dx, fv, h1, base2_none e.ag e.f0 h2, h3⟩
  | st => exact h
end
theorem RepAll.mono' {K : PySem.W.Frag} {mg : Str → Option Value} {F F' : Hp} {vs : List V} {ds : List D} (r : RepAll K mg F vs ds) (e : Same F F') : RepAll K mg F' vs ds := r.mono e
theorem gsd_pl {f : DEnv → SRes} (h : SD X false We st f) : GSD X We st (gPl f) :=
  gs_imp (gs_ps h) fun G ys σ H ⟨B, F, ρ, acc, e, r, hl, q⟩ => by
    have q : OutG X.K X.mg We B G (acc ++ []) (f ρ) := q
    rw [List.append_nil] at q
    exact ⟨B.b2 F, F, ρ, e.base, q.plain e r⟩
theorem gsds_pl {f : DEnv → SRes} (h : SDs X false We rest' f) : GSDs X We rest' (gPl f) :=
  gss_imp (gss_pss h) fun G ys σ H ⟨B, F, ρ, acc, e, r, hl, q⟩ => by
    have q : OutG X.K X.mg We B G (acc ++ []) (f ρ) := q
    rw [List.append_nil] at q
    exact ⟨B.b2 F, F, ρ, e.base, q.plain e r⟩
theorem gsds_nil : GSDs X We [] gNil := gss_imp gss_nil fun G ys σ H ⟨B, F, ρ, acc, e, r, hl, q⟩ => by
  have q : OutG X.K X.mg We B G (acc ++ []) (.nx ρ) := q
  rw [List.append_nil] at q
  exact q F σ H ys e r
theorem gsds_cons (h1 : GSD X We st f) (h2 : GSDs X We rest' g) : GSDs X We (st :: rest') (gSeq f g) :=
  gss_imp (gss_cons h1 h2) fun G ys σ H ⟨B, F, ρ, acc, e, r, hl, q⟩ => by
    refine ⟨B, F, ρ, acc, e, r, ?_⟩
    unfold gSeq at q hl
    cases hf : f ρ with
    | mk a z =>
      rw [hf] at q hl
      cases z with
      | nx ρ' =>
        have hl : (acc ++ (a ++ (g ρ').1)).length ≤ lim := hl
        refine ⟨by rw [← List.append_assoc, List.length_append] at hl; exact Nat.le_trans (Nat.le_add_right _ _) hl, fun F2 σ2 H2 ys2 e2 r2 => ?_⟩
        refine ⟨B, F2, ρ', acc ++ a, e2, r2, by rw [List.append_assoc]; exact hl, ?_⟩
        have q : OutG X.K X.mg We B G (acc ++ (a ++ (g ρ').1)) (g ρ').2 := q
        rw [List.append_assoc]
        exact q
      | bk ρ' => exact ⟨hl, q⟩
      | ct ρ' => exact ⟨hl, q⟩
      | rt d => exact ⟨hl, q⟩
      | er x ρ' => exact ⟨hl, q⟩
      | st => exact q.elim
def gYd (k : Bool) (S : List Nat) (f : DEnv → Res D) : DEnv → GRes := fun ρ => match f ρ with
  | .ok d => if k then (if d.nlx (hasO S ρ) then ([d], .nx ρ) else ([], .st)) else ([d], .nx (dem S ρ))
  | .er x => ([], .er x ρ)
  | .st => ([], .st)
/-- yield e -/
theorem gsd_yield (k : Bool) {fe : DEnv → Res D} (he : PD X We S e fe) (hco : X.env.scope.isCoroutine = false := by rfl) (hi : interactive X.env = false := by rfl) : GSD X We (.Expr (.Yield (some e) yp) pos) (gYd k S fe) := by
  refine gs_imp (gs_yield he hco hi) fun G ys σ H ⟨B, F, ρ, acc, e, r, hl, q⟩ => ?_
  obtain ⟨Fp, h1, h2, h3, h4⟩ := e.base.fz S
  unfold gYd at q hl
  have rl := r.length
  cases hf : fe ρ with
  | st => rw [hf] at q; exact q.elim
  | er x =>
    rw [hf] at q hl
    have hl : (acc ++ []).length ≤ lim := hl
    rw [List.append_nil] at hl
    refine ⟨by rw [rl]; exact Nat.lt_of_le_of_lt hl (by rw [sizeLine_eq]; decide), Fp, ρ, h1, h2, ?_⟩
    rw [hf]
    exact fun C d H' sm m z => q F σ H' C d (e.heap sm) m (z.back e.hh)
  | ok d =>
    rw [hf] at q hl
    cases k with
    | false =>
      have hl : (acc ++ [d]).length ≤ lim := hl
      rw [List.length_append, List.length_singleton] at hl
      refine ⟨by rw [rl]; exact lt_line hl, Fp, ρ, h1, h2, ?_⟩
      rw [hf]
      intro F' H' v ex rv
      have e3 := h3 F' H' ex
      exact q F' σ H' _ (e.unbase e3) ((r.mono e3.ff).append (.cons rv .nil))
    | true =>
      have q : OutG X.K X.mg We B G (acc ++ (if d.nlx (hasO S ρ) then ([d], .nx ρ) else ([], .st) : GRes).1) (if d.nlx (hasO S ρ) then ([d], .nx ρ) else ([], .st) : GRes).2 := q
      have hl : (acc ++ (if d.nlx (hasO S ρ) then ([d], .nx ρ) else ([], .st) : GRes).1).length ≤ lim := hl
      cases hn : d.nlx (hasO S ρ) with
      | false => rw [hn] at q; exact q.elim
      | true =>
        rw [hn] at q hl
        have hl : (acc ++ [d]).length ≤ lim := hl
        rw [List.length_append, List.length_singleton] at hl
        refine ⟨by rw [rl]; exact lt_line hl, Fp, ρ, h1, h2, ?_⟩
        rw [hf]
        intro F' H' v ex rv
        obtain ⟨F2, e2, l, _⟩ := h4 F' H' ex
        exact q F2 σ H' _ (e.unbase e2) ((r.mono e2.ff).append (.cons (rv.less l d v hn) .nil))
/-- while -/
def gWh (c : DEnv → Res Bool) (f : DEnv → GRes) : Nat → DEnv → GRes
  | 0, _ => ([], .st)
  | n + 1, ρ => match c ρ with
    | .ok true => match f ρ with
      | (a, .nx ρ') => (a ++ (gWh c f n ρ').1, (gWh c f n ρ').2)
      | (a, .ct ρ') => (a ++ (gWh c f n ρ').1, (gWh c f n ρ').2)
      | (a, .bk ρ') => (a, .nx ρ')
      | r => r
    | .ok false => ([], .nx ρ)
    | .er x => ([], .er x ρ)
    | .st => ([], .st)
theorem gsd_while (n : Nat) {body : List Stmt} {ce : DEnv → Res Bool} (hp : PassesOwn (model X.prog X.w) X.A X.env X.xe) (hc : PTD X We S c ce) (hb : GSDs X We body f) : GSD X We (.While c body [] pos) (gWh ce f n) :=
  gs_imp (gs_while hp hc hb) fun G ys σ H ⟨B, F, ρ, acc, e, r, hl, h⟩ => by
    refine ⟨fun m ys σ H => ∃ F ρ acc, EnvS X.K X.mg We.ex B F σ H ρ ∧ RepAll X.K X.mg F ys acc ∧ (acc ++ (gWh ce f m ρ).1).length ≤ lim ∧ OutG X.K X.mg We B G (acc ++ (gWh ce f m ρ).1) (gWh ce f m ρ).2, ⟨n, F, ρ, acc, e, r, hl, h⟩, fun m ys σ H ⟨F, ρ, acc, e, r, hl, h⟩ => ?_⟩
    cases m with
    | zero => exact h.elim
    | succ m =>
      unfold gWh at h hl
      obtain ⟨Fp, h1, h2, h3, h4⟩ := e.base.fz S
      refine ⟨Fp, ρ, h1, h2, ?_⟩
      cases hf : ce ρ with
      | st => rw [hf] at h; exact h.elim
      | er x =>
        rw [hf] at h
        exact fun C d H' sm m z => h F σ H' C d (e.heap sm) m (z.back e.hh)
      | ok b =>
        rw [hf] at h hl
        intro F' H' v ex rv
        have rv : v = b := rv
        subst rv
        obtain ⟨F2, e2', l, _⟩ := h4 F' H' ex
        have e2 := e.unbase e2'
        have r2 := r.mono e2'.ff
        cases v with
        | false =>
          rw [if_neg Bool.false_ne_true]
          have h : OutG X.K X.mg We B G (acc ++ []) (.nx ρ) := h
          rw [List.append_nil] at h
          exact h F2 σ H' ys e2 r2
        | true =>
          rw [if_pos rfl]
          refine ⟨fun ys σ H => ∃ F ρ acc, EnvS X.K X.mg We.ex B F σ H ρ ∧ RepAll X.K X.mg F ys acc ∧ (acc ++ (gWh ce f m ρ).1).length ≤ lim ∧ OutG X.K X.mg We B G (acc ++ (gWh ce f m ρ).1) (gWh ce f m ρ).2, fun ys' σ' H' h' => ⟨m, Nat.lt_succ_self m, h'⟩, ?_⟩
          refine ⟨B, F2, ρ, acc, e2, r2, ?_⟩
          cases hf2 : f ρ with
          | mk a z =>
            rw [hf2] at h hl
            have more : ∀ ρ' : DEnv, (acc ++ (a ++ (gWh ce f m ρ').1)).length ≤ lim → OutG X.K X.mg We B G (acc ++ (a ++ (gWh ce f m ρ').1)) (gWh ce f m ρ').2 → (acc ++ a).length ≤ lim ∧ ∀ F σ H ys, EnvS X.K X.mg We.ex B F σ H ρ' → RepAll X.K X.mg F ys (acc ++ a) →
                ∃ F ρ acc, EnvS X.K X.mg We.ex B F σ H ρ ∧ RepAll X.K X.mg F ys acc ∧ (acc ++ (gWh ce f m ρ).1).length ≤ lim ∧ OutG X.K X.mg We B G (acc ++ (gWh ce f m ρ).1) (gWh ce f m ρ).2 := fun ρ' hl h => by
              refine ⟨by rw [← List.append_assoc, List.length_append] at hl; exact Nat.le_trans (Nat.le_add_right _ _) hl, fun F3 σ3 H3 ys3 e3 r3 => ⟨F3, ρ', acc ++ a, e3, r3, by rw [List.append_assoc]; exact hl, by rw [List.append_assoc]; exact h⟩⟩
            cases z with
            | nx ρ' => exact more ρ' hl h
            | ct ρ' => exact more ρ' hl h
            | bk ρ' => exact ⟨hl, h⟩
            | rt d => exact ⟨hl, h⟩
            | er x ρ' => exact ⟨hl, h⟩
            | st => exact h.elim
end

/-! ### a generator def and list(f(..)) -/
def spG (K : PySem.W.Frag) (mg : Str → Option Value) (n : Nat) (m : List D → Res (List D)) : SpG := fun vs H Q E => vs.length = n ∧ ∃ F ds xs, Same F H ∧ RepAll K mg F vs ds ∧ m ds = .ok xs ∧ ∀ F' H' ys, Ext F H F' H' → RepAll K mg F' ys xs → Q ys H'
abbrev FnG (P : Program) (w : World) (K : PySem.W.Frag) (mg : Str → Option Value) (base : Heap) (k : Nat) (f : Addr) (fd : FuncData) (ps : List Str) (m : List D → Res (List D)) : Prop := GFn P w K mg base k f fd ps (spG K mg ps.length m)
/-- a generator's body as a function of its arguments: nothing is raised -/
def mG (nN : Nat) (g : DEnv → GRes) : List D → Res (List D) := fun ds => match g (ds.map Slot.d ++ List.replicate (nN - ds.length) .un) with
  | (ys, .nx _) => if ys.length ≤ lim then .ok ys else .st
  | (ys, .rt .non) => if ys.length ≤ lim then .ok ys else .st
  | _ => .st
theorem fng_of {P : Program} {w : World} {K : PySem.W.Frag} {mg : Str → Option Value} {base : Heap} {x qual : Str} {st : Stmt} {f : Addr} {fd : FuncData} {N ps : List Str} {k : Nat} {g : DEnv → GRes}
    (F : Fun K x qual st f fd) (S : GScope N ps (defScope st))
    (hb : ∀ (cdv : Value) (A : Around) (outer : List Env) (s : Shared) (H : Hp) (E : XK) (pn : List (Addr × Obj)), Room k (A.deeper (envOfC qual (defScope st) s.heap.objs.size f cdv)) →
      GSDs (gcxOf P w K mg base N qual (defScope st) f cdv A outer s H E pn) ⟨fun c d _ H' => E c d H', none⟩ (defBody st) g) : FnG P w K mg base (k + 1) f fd ps (mG N.length g) := by
  obtain ⟨oc, od, kV, doc, pm, an, cdv, ct, osl, rfl, lk, hcd⟩ := F.ex
  refine gfn_of lk hcd S (fun vs H Q E h => h.1) fun A outer s H vs Q E pn hr h => ⟨_, hb cdv A outer s H E pn hr, ?_⟩
  obtain ⟨hl, F', ds, xs, hF, r, hm, q⟩ := h
  refine ⟨_, F', _, [], envS_start hF r, .nil, ?_⟩
  unfold mG at hm
  cases hg : g (ds.map Slot.d ++ List.replicate (N.length - ds.length) .un) with
  | mk ys z =>
    rw [hg] at hm
    have key : ∀ z : SRes, (if ys.length ≤ lim then Res.ok ys else Res.st) = Res.ok xs → ([] ++ ys).length ≤ lim ∧ ys = xs := fun _ e => by
      by_cases hy : ys.length ≤ lim
      · rw [if_pos hy] at e; cases e; exact ⟨hy, rfl⟩
      · rw [if_neg hy] at e; cases e
    cases z with
    | nx ρ =>
      obtain ⟨h1, rfl⟩ := key .st hm
      exact ⟨h1, fun F2 σ2 H2 us e2 r2 => q F2 H2 us e2.ext r2⟩
    | rt d =>
      cases d with
      | non =>
        obtain ⟨h1, rfl⟩ := key .st hm
        exact ⟨h1, fun F2 H2 v us ex r2 rv => ⟨by cases rv; rfl, q F2 H2 us ex r2⟩⟩
      | _ => cases hm
    | bk ρ => cases hm
    | ct ρ => cases hm
    | er x ρ => cases hm
    | st => cases hm
def callG (n : Nat) (m : List D → Res (List D)) : List D → Res (List D) := fun ds => if ds.length = n then (match m ds with
  | .ok xs => .ok xs
  | _ => .st) else .st
section
variable {X : Cx} {We : WeX} {S : List Nat} {k j : Nat} {f : Addr} {fd : FuncData} {ps : List Str} {m : List D → Res (List D)} {x : Str} {p p2 pos pos' : Pos} {e : PySem.Expr} {es : List PySem.Expr} {g : DEnv → Res (List D)}
theorem passE0 {X : Cx} : Passes (L2.CX X.prog X.w) X (fun _ _ _ => False) := fun pins σ H s e s' I h => by
  obtain ⟨_, _, _, _, _, _, _, _, _, _, _, _, z⟩ := h
  exact z.elim
theorem pf_listG (hr : Room k X.A) (hjk : j + 3 ≤ k) (F : FnG X.prog X.w X.K X.mg X.base j f fd ps m) (hm : X.mg x = some (.ref f)) (hk : PySem.W.keepIn X.K (.ref f) = true) (hb : Binds X.K fd ps []) (hml : X.mg "list" = none)
    (ha : PAD X We S (e :: es) g) (hg : Gl X x := by rfl) (hgl : Gl X "list" := by rfl) (hdb : (x == ("__debug__" : Str)) = false := by decide) (he : starEach (e :: es) X.env = (false, eval e X.env) :: starEach es X.env := by rfl) (hpl : (backTo pos' (starEach es X.env)).any (·.1) = false := by rfl)
    (he2 : starEach [.Call (.Name x p) (e :: es) [] pos'] X.env = (false, eval (.Call (.Name x p) (e :: es) [] pos') X.env) :: starEach [] X.env := by rfl) :
    PF X We S (.Call (.Name "list" p2) [.Call (.Name x p) (e :: es) [] pos'] [] pos) (eL (callG ps.length m) g) := by
  have hjk' : j ≤ k := Nat.le_trans (Nat.le_add_right _ _) hjk
  refine pe_imp (pe_listG (pgen_call (E := fun _ _ _ => False) F (hr.mono hjk') hg hm hk hb .nil ha hdb he hpl) passE0 (fun _ _ _ h => h.elim) (hr.mono hjk) hgl hml (by decide +kernel) (by decide) (by decide) he2) fun σ H Q ⟨F, ρ, hF, hE, q⟩ => ⟨F, ρ, hF, hE, Out.bind q fun ds F1 H1 vs ex r q1 => ?_⟩
  unfold callG at q1
  by_cases hl : ds.length = ps.length
  · rw [if_pos hl] at q1
    cases hmd : m ds with
    | er x => rw [hmd] at q1; exact q1.elim
    | st => rw [hmd] at q1; exact q1.elim
    | ok xs =>
      rw [hmd] at q1
      rw [List.append_nil]
      refine ⟨by rw [r.length]; exact hl, F1, ds, xs, ex.2.1, r, hmd, fun F' H' ys ex' r' p hp => ?_⟩
      exact q1 F' _ _ ⟨ex'.1, ex'.2.1.trans (same_upd hp), ex'.2.2.1.trans (same_upd hp), ex'.2.2.2⟩ ⟨p, ys, rfl, ex'.2.2.1.free hp, ex'.2.1.free hp, upd_same, r'⟩
  · rw [if_neg hl] at q1; exact q1.elim
end
end DL
set_option Elab.async false
set_option linter.all false
set_option maxRecDepth 100000
set_option maxHeartbeats 1000000
/-! DL10: enumerate, reversed. -/
namespace DL
open PySem PySem.Spec PyProof.Rows L2

def enumD (i : Nat) : List D → List D
  | [] => []
  | d :: ds => .tup [.int (i : Nat), d] :: enumD (i + 1) ds
theorem enumD_length : ∀ (ds : List D) (i : Nat), (enumD i ds).length = ds.length
  | [], _ => rfl
  | _ :: ds, i => by show (enumD (i + 1) ds).length + 1 = _; rw [enumD_length ds (i + 1)]; rfl
theorem enumD_get : ∀ (ds : List D) (i j : Nat), (enumD i ds)[j]? = (ds[j]?).map fun d => .tup [.int ((i + j : Nat) : Int), d]
  | [], _, _ => by simp [enumD]
  | d :: ds, i, 0 => rfl
  | d :: ds, i, j + 1 => by
    show (enumD (i + 1) ds)[j]? = (ds[j]?).map _
    rw [enumD_get ds (i + 1) j, show i + 1 + j = i + (j + 1) by omega]
def bEnum : List D → Res (List D)
  | [.lst xs] => .ok (enumD 0 xs)
  | _ => .st
def bRev : D → Res (List D)
  | .lst xs => .ok xs.reverse
  | .tup xs => .ok xs.reverse
  | _ => .st
theorem rev_get {α : Type} (xs : List α) (i : Nat) (h : i < xs.length) : xs.reverse[i]? = xs[xs.length - 1 - i]? := by
  rw [List.getElem?_reverse h]
section
variable {K : PySem.W.Frag} {mg : Str → Option Value} {F : Hp}
theorem itd_enum {a : Addr} {vs : List V} {ds : List D} (h : SqL K F a vs) (r : RepAll K mg F vs ds) : ItD K mg (Ite K a) F (enumD 0 ds) := fun i Fc H s1 s2 => by
  have q := SqL.same (s1.trans s2) h
  refine ⟨fun e => ⟨vs, q, by rw [r.length, e, enumD_length]; exact Nat.le_refl _⟩, fun d hd => ?_⟩
  rw [enumD_get] at hd
  cases hx : ds[i]? with
  | none => rw [hx] at hd; cases hd
  | some x =>
    rw [hx] at hd
    cases hd
    obtain ⟨v, hv, rv⟩ := r.get hx
    refine ⟨⟨vs, v, q, hv⟩, fun y H' z => ?_⟩
    obtain ⟨T, w, rfl, nT, rfl, hw⟩ := z
    have e := (hw vs q).symm.trans hv
    cases e
    refine ⟨upd Fc T (.tup [.int (i : Nat), v]), Ext.new s2 nT, .tup (SqT.of upd_same) ?_⟩
    rw [Nat.zero_add]
    exact .cons (.int _) (.cons ((rv.mono s1).mono (same_upd (s2.free nT))) .nil)
theorem itd_rev {a : Addr} {vs : List V} {ds : List D} (h : SqL K F a vs) (r : RepAll K mg F vs ds) : ItD K mg (Itv K a vs.length) F ds.reverse := fun i Fc H s1 s2 => by
  have q := SqL.same (s1.trans s2) h
  have hl := r.length
  refine ⟨fun e => by show vs.length ≤ i; rw [e, List.length_reverse, hl]; exact Nat.le_refl _, fun d hd => ?_⟩
  have hi : i < ds.length := by
    have := (List.getElem?_eq_some_iff.mp hd).1
    simpa using this
  rw [rev_get _ _ hi, ← hl] at hd
  obtain ⟨v, hv, rv⟩ := r.get hd
  refine ⟨⟨by omega, vs, v, q, hv⟩, fun x H' y => ?_⟩
  obtain ⟨e, y⟩ := y
  subst e
  have e := (y vs q).symm.trans hv
  cases e
  exact ⟨Fc, Ext.refl s2, rv.mono s1⟩
theorem itd_revT {a : Addr} {vs : List V} {ds : List D} (h : SqT K F a vs) (r : RepAll K mg F vs ds) : ItD K mg (RT.ItvT K a vs.length) F ds.reverse := fun i Fc H s1 s2 => by
  have q := SqT.same (s1.trans s2) h
  have hl := r.length
  refine ⟨fun e => by show vs.length ≤ i; rw [e, List.length_reverse, hl]; exact Nat.le_refl _, fun d hd => ?_⟩
  have hi : i < ds.length := by
    have := (List.getElem?_eq_some_iff.mp hd).1
    simpa using this
  rw [rev_get _ _ hi, ← hl] at hd
  obtain ⟨v, hv, rv⟩ := r.get hd
  refine ⟨⟨by omega, vs, v, q, hv⟩, fun x H' y => ?_⟩
  obtain ⟨e, y⟩ := y
  subst e
  have e := (y vs q).symm.trans hv
  cases e
  exact ⟨Fc, Ext.refl s2, rv.mono s1⟩
end
section
variable {X : Cx} {We : WeX} {S : List Nat} {tg e : PySem.Expr} {p pos tpos : Pos} {elts : List PySem.Expr} {kk : Nat} {g : DEnv → Res (List D)} {f : DEnv → Res D}
theorem bEnum_ok {ds xs : List D} (h : bEnum ds = .ok xs) : ∃ ys, ds = [.lst ys] ∧ xs = enumD 0 ys := by
  unfold bEnum at h
  split at h
  · cases h; exact ⟨_, rfl, rfl⟩
  · cases h
theorem bEnum_ner {ds : List D} {x : Exn} (h : bEnum ds = .er x) : False := by
  unfold bEnum at h
  split at h <;> cases h
theorem id_enum (hm : X.mg "enumerate" = none) (ha : PAD X We S [e] g) (hg : Gl X "enumerate" := by rfl) (hs : starEach [e] X.env = [(false, eval e X.env)] := by rfl) : ID X We S (.Tuple elts kk tpos) (.Call (.Name "enumerate" p) [e] [] pos) (eL bEnum g) :=
  pi_imp (pi_enum hg hm ha hs) fun σ H R ⟨F, ρ, hF, hE, q⟩ => ⟨F, ρ, hF, hE, Out.bind q fun ds F1 H1 vs ex r q1 => by
    cases h2 : bEnum ds with
    | st => rw [h2] at q1; exact q1.elim
    | er x => exact (bEnum_ner h2).elim
    | ok xs =>
      rw [h2] at q1
      obtain ⟨ys, rfl, rfl⟩ := bEnum_ok h2
      obtain ⟨v, rfl, rv⟩ := r.one
      cases rv with
      | lst a b => exact ⟨_, _, rfl, SqL.same ex.2.1 a, q1 F1 H1 _ (Ext.refl ex.2.1) (itd_enum a b)⟩⟩
theorem id_rev (hm : X.mg "reversed" = none) (he : PD X We S e f) (hg : Gl X "reversed" := by rfl) (hs : starEach [e] X.env = (false, eval e X.env) :: starEach [] X.env := by rfl) : ID X We S tg (.Call (.Name "reversed" p) [e] [] pos) (e1 bRev f) :=
  pi_imp (RT.pi_revA hg hm he hs) fun σ H R ⟨F, ρ, hF, hE, q⟩ => ⟨F, ρ, hF, hE, Out.bind q fun d F1 H1 v ex r q1 => by
    cases d with
    | lst xs =>
      cases r with
      | lst a b => exact ⟨_, _, rfl, .inl ⟨SqL.same ex.2.1 a, q1 F1 H1 _ (Ext.refl ex.2.1) (itd_rev a b)⟩⟩
    | tup xs =>
      cases r with
      | tup a b => exact ⟨_, _, rfl, .inr ⟨SqT.same ex.2.1 a, q1 F1 H1 _ (Ext.refl ex.2.1) (itd_revT a b)⟩⟩
    | _ => exact q1.elim⟩
end
end DL
set_option Elab.async false
set_option linter.all false
set_option maxRecDepth 100000
set_option maxHeartbeats 1000000
/-! DL11: unary operators, += on names, constants of the module. -/
namespace DL
open PySem PySem.Spec PyProof.Rows L2
section
variable {X : Cx} {We : WeX} {S : List Nat} {f : DEnv → Res D} {e : PySem.Expr} {pos : Pos}
theorem pd_neg (h : PD X We S e f) : PD X We S (.UnaryOp .USub e pos) (e1 dNeg f) :=
  pe_imp (pe_un un_neg h) fun σ H Q ⟨F, ρ, hF, hE, q⟩ => ⟨F, ρ, hF, hE, Out.bind q fun x F1 H1 v ex rx q1 => by
    cases x with
    | int i => cases rx; exact ⟨i, rfl, q1 F1 H1 _ (Ext.refl ex.2.1) (.int _)⟩
    | _ => exact q1.elim⟩
theorem pd_inv (h : PD X We S e f) : PD X We S (.UnaryOp .Invert e pos) (e1 dInv f) :=
  pe_imp (pe_un un_inv h) fun σ H Q ⟨F, ρ, hF, hE, q⟩ => ⟨F, ρ, hF, hE, Out.bind q fun x F1 H1 v ex rx q1 => by
    cases x with
    | int i => cases rx; exact ⟨i, rfl, q1 F1 H1 _ (Ext.refl ex.2.1) (.int _)⟩
    | _ => exact q1.elim⟩
end
/-- a constant as data -/
def absD : Value → Option D
  | .none => some .non
  | .bool b => some (.bl b)
  | .int i _ => some (.int i)
  | .str x _ => some (.str x)
  | _ => none
def absDs : List Value → Option (List D)
  | [] => some []
  | v :: vs => match absD v, absDs vs with
    | some d, some ds => some (d :: ds)
    | _, _ => none
section
variable {K : PySem.W.Frag} {mg : Str → Option Value}
theorem absD_rep {u : Value} {d : D} (h : absD u = some d) : ∃ v, RelV v u ∧ ∀ F, Rep K mg F v d := by
  unfold absD at h
  split at h
  · cases h; exact ⟨.non, rfl, fun F => .non⟩
  · cases h; exact ⟨.bl _, rfl, fun F => .bl _⟩
  · cases h; exact ⟨.int _, ⟨_, rfl⟩, fun F => .int _⟩
  · cases h; exact ⟨.str _, ⟨_, rfl⟩, fun F => .str _⟩
  · cases h
theorem absDs_rep : ∀ {us : List Value} {ds : List D}, absDs us = some ds → ∃ vs, Vals vs us ∧ ∀ F, RepAll K mg F vs ds
  | [], ds, h => by cases h; exact ⟨[], .nil, fun F => .nil⟩
  | u :: us, ds, h => by
    unfold absDs at h
    cases h1 : absD u with
    | none => simp only [h1] at h; cases h
    | some d =>
      cases h2 : absDs us with
      | none => simp only [h1, h2] at h; cases h
      | some es =>
        simp only [h1, h2] at h
        cases h
        obtain ⟨v, r1, p1⟩ := absD_rep (K := K) (mg := mg) h1
        obtain ⟨vs, r2, p2⟩ := absDs_rep h2
        exact ⟨v :: vs, .cons r1 r2, fun F => .cons (p1 F) (p2 F)⟩
/-- a tuple of constants in the text -/
structure KTup (K : PySem.W.Frag) (mg : Str → Option Value) (x : Str) (a : Addr) (o : Obj) (its : Array Value) (n : Nat) (ds : List D) : Prop where
  gl : mg x = some (.ref a)
  lk : K.lookup a = some o
  cl : o.cls = .type "tuple"
  da : o.data = .seq its n
  ab : absDs its.toList = some ds
  sz : its.size ≤ lim
theorem KTup.rep {x : Str} {a : Addr} {o : Obj} {its : Array Value} {n : Nat} {ds : List D} (h : KTup K mg x a o its n ds) (F : Hp) : Rep K mg F (.ref a) (.tup ds) := by
  obtain ⟨vs, r, p⟩ := absDs_rep (K := K) (mg := mg) h.ab
  exact .tup (.inr ⟨o, its, n, h.lk, h.cl, h.da, le_line h.sz, r⟩) (p F)
end
theorem pd_ktup {X : Cx} {We : WeX} {c : Str} {a : Addr} {o : Obj} {its : Array Value} {n : Nat} {ds : List D} {pos : Pos} (h : KTup X.K X.mg c a o its n ds) (hg : Gl X c := by rfl) (hdb : (c == ("__debug__" : Str)) = false := by decide) : PD X We [] (.Name c pos) (eC (.tup ds)) :=
  pd_glob (v := .ref a) h.gl rfl h.rep hg hdb
end DL
set_option Elab.async false
set_option linter.all false
set_option maxRecDepth 100000
set_option maxHeartbeats 1000000
/-! DL12: the law's own end; small helps for the printed walks. -/
namespace DL
open PySem PySem.Spec PyProof.Rows L2
theorem rep_ints {K : PySem.W.Frag} {mg : Str → Option Value} {F : Hp} : ∀ ns : List Int, RepAll K mg F (ns.map V.int) (ns.map D.int)
  | [] => .nil
  | _ :: ns => .cons (.int _) (rep_ints ns)
def spLaw (K : PySem.W.Frag) : Sp := fun vs H Q _ => ∃ (a : Addr) (ns : List Int), vs = [.ref a] ∧ SqL K H a (ns.map V.int) ∧ ns.length ≤ 63 ∧ (∀ z ∈ ns, Builtin.Int.intBits z ≤ 1048576) ∧ ∀ H', Q (.bl true) H'
theorem law_imp {P : Program} {w : World} {K : PySem.W.Frag} {mg : Str → Option Value} {base : Heap} {k : Nat} {f : Addr} {fd : FuncData} {x : Str} {m : List D → Res D} (F : FnD P w K mg base k f fd [x] false m)
    (h : ∀ ns : List Int, ns.length ≤ 63 → (∀ z ∈ ns, Builtin.Int.intBits z ≤ 1048576) → m [.lst (ns.map .int)] = .ok (.bl true)) : FnOk P w K mg base (L2.CX P w) k f fd [x] (spLaw K) :=
  F.imp fun vs H Q E ⟨a, ns, e, s, l, b, q⟩ => by
    subst e
    refine ⟨rfl, H, _, Same.refl H, .cons (.lst s (rep_ints ns)) .nil, ?_⟩
    rw [h ns l b]
    intro F' H' v ex r
    cases r
    exact q H'
theorem cx_none {P : Program} {w : World} {H : Hp} {s : Shared} {e : Value} {s' : Shared} (h : L2.CX P w [] H s (fun _ _ _ => False) e s') : False := by
  obtain ⟨_, _, _, _, _, _, _, _, _, _, _, _, z⟩ := h
  exact z
theorem binds1 {K : PySem.W.Frag} {x qual : Str} {st : Stmt} {f : Addr} {fd : FuncData} {p : Str} : True := trivial
end DL
set_option Elab.async false
set_option linter.all false
set_option maxRecDepth 100000
set_option maxHeartbeats 1000000
/-! DL13: name = [..], put to rest at once. -/
namespace DL
open PySem PySem.Spec PyProof.Rows L2
theorem tG_fz {K : PySem.W.Frag} {mg : Str → Option Value} {We : WeX} {S : List Nat} {g : DEnv → Res (List D)} {σ : L2.St} {H : Hp} {Q : VK} (h : tG K mg We (RD K mg) S (eFz g) σ H Q) : tG K mg We (RF K mg) S g σ H Q := by
  obtain ⟨F, ρ, hF, hE, q⟩ := h
  refine ⟨F, ρ, hF, hE, ?_⟩
  have q' : Out K mg We (RD K mg) F H σ Q ((g ρ).bind fun xs => .ok (.lst xs)) := q
  cases hg : g ρ with
  | ok xs =>
    rw [hg] at q'
    intro F' H' v ex r
    obtain ⟨F2, ex2, _, r2⟩ := fz_ok ex r
    exact q' F2 H' v ex2 r2
  | er x => rw [hg] at q'; exact q'
  | st => rw [hg] at q'; exact q'
section
variable {X : Cx} {We : WeX} {Si St Se sl : List Nat} {tg iter elt : PySem.Expr} {ifs : List PySem.Expr} {fi : DEnv → Res (List D)} {g : D → Option (List D)} {ft : DEnv → Res Bool} {fe : DEnv → Res D} {pos : Pos} {scope : Scope} {own : List (Str × Nat)}
theorem sd_asgLcZ {fr : Bool} (k : Bool) {i : Nat} {y : Str} {py : Pos} {spos : Pos} (hc : X.calm = true) (hN : X.N.Nodup) (hi : ID X We Si tg iter fi) (ok : BlkOk X.N X.env.scope scope own) (ho : own.map (·.2) = sl)
    (hg : ∀ (s : Shared) (H : Hp) (C : Addr) (cl : List (Str × Addr)) (fp : List Addr), GD (X.blk s H scope (compEnvC scope cl C X.env) fp) tg sl g)
    (ht : ∀ (s : Shared) (H : Hp) (C : Addr) (cl : List (Str × Addr)) (fp : List Addr), PTsD (X.blk s H scope (compEnvC scope cl C X.env) fp) (We0 We.ex) St ifs ft)
    (he : ∀ (s : Shared) (H : Hp) (C : Addr) (cl : List (Str × Addr)) (fp : List Addr), PD (X.blk s H scope (compEnvC scope cl C X.env) fp) (We0 We.ex) Se elt fe)
    (hy : X.N[i]? = some y := by rfl) (hyl : X.env.scope.names.lookup y = some .local := by rfl)
    (hsw : swapsWith (.ListComp elt [⟨tg, iter, ifs, 0⟩] scope pos) (some (.Name y py)) spos.line X.env = pure true := by exact sw_true rfl rfl rfl (by decide +kernel))
    (hs : ∀ x, foldedSetIterable iter X.env x = pure x := by intro _; rfl) : SD X fr We (.Assign [.Name y py] (.ListComp elt [⟨tg, iter, ifs, 0⟩] scope pos) spos) (sAsg k (Si ++ minus (St ++ Se) sl) i (eFz (eLc sl fi g ft fe))) :=
  ps_imp (ps_setLc hc hN hy hyl hsw hi ok (fun s H C cl fp => (hg s H C cl fp).1) ht he hs) fun E σ H ⟨B, F, ρ, e, h⟩ =>
    lc_ok (hg X.s_0 X.H_0 0 [] []).2 ho (tG_fz (OutS.evalD e h fun F' H' v d ρ' e' r q => q F' _ H' (e'.set r i)))
end
end DL
set_option Elab.async false
set_option linter.all false
set_option maxRecDepth 100000
set_option maxHeartbeats 1000000
/-! DL14: try: .. except C as e: .. -/
namespace DL
open PySem PySem.Spec PyProof.Rows L2
def nx1 : Slot → Slot
  | .exc _ => .un
  | s => s
/-- caught exceptions forgotten -/
def noX (ρ : DEnv) : DEnv := ρ.map nx1
theorem noX_get {ρ : DEnv} {i : Nat} {s : Slot} (h : (noX ρ)[i]? = some s) : ∃ s0, ρ[i]? = some s0 ∧ nx1 s0 = s := by
  unfold noX at h
  rw [List.getElem?_map] at h
  cases h0 : ρ[i]? with
  | none => rw [h0] at h; cases h
  | some s0 => rw [h0] at h; exact ⟨s0, rfl, Option.some.inj h⟩
theorem nx1_O {s : Slot} (o : (nx1 s).isO = true) : nx1 s = s := by
  cases s <;> first | rfl | cases o
section
variable {K : PySem.W.Frag} {mg : Str → Option Value} {ex ex' : EXP} {B : Bs} {F H : Hp} {σ : L2.St} {ρ : DEnv}
/-- slot i gets what is not looked at, the caught exceptions are forgotten -/
theorem EnvS.noX (e : EnvS K mg ex B F σ H ρ) (i : Nat) (y : Option V) : EnvS K mg ex' B F (σ.set i y) H ((noX ρ).set i .un) := by
  have get : ∀ (j : Nat) s, ((DL.noX ρ).set i .un)[j]? = some s → (j = i ∧ s = .un) ∨ (j ≠ i ∧ ∃ s0, ρ[j]? = some s0 ∧ nx1 s0 = s) := fun j s h => by
    rcases set_get h with ⟨h1, h2, _⟩ | ⟨h1, h2⟩
    · exact .inl ⟨h1, h2⟩
    · exact .inr ⟨h1, noX_get h2⟩
  refine ⟨e.f0, e.ff, e.fh, e.hh, e.ag, by rw [List.length_set, List.length_set]; unfold DL.noX; rw [List.length_map]; exact e.len, fun j s h => ?_, fun j k a s t h1 h2 o1 o2 h3 h4 => ?_⟩
  · rcases get j s h with ⟨_, rfl⟩ | ⟨hn, s0, h0, rfl⟩
    · trivial
    · rw [List.getElem?_set_ne (Ne.symm hn)]
      have z := e.sl j s0 h0
      cases s0 with
      | un => trivial
      | d d => exact z
      | own t xs => exact z
      | obo t c ns fs => exact z
      | exc x => trivial
  · rcases get j s h1 with ⟨_, rfl⟩ | ⟨n1, s0, q1, r1⟩
    · cases o1
    · rcases get k t h2 with ⟨_, rfl⟩ | ⟨n2, t0, q2, r2⟩
      · cases o2
      · rw [List.getElem?_set_ne (Ne.symm n1)] at h3
        rw [List.getElem?_set_ne (Ne.symm n2)] at h4
        subst r1 r2
        rw [nx1_O o1] at o1
        rw [nx1_O o2] at o2
        exact e.ap j k a s0 t0 q1 q2 o1 o2 h3 h4
/-- a caught exception comes to slot i -/
theorem EnvS.setX (e : EnvS K mg ex B F σ H ρ) {i : Nat} {x : Exn} (h : i < ρ.length → ExcOk K mg ex F σ[i]? x) : EnvS K mg ex B F σ H (ρ.set i (.exc x)) := by
  refine ⟨e.f0, e.ff, e.fh, e.hh, e.ag, by rw [List.length_set]; exact e.len, fun j s q => ?_, fun j k a s t h1 h2 o1 o2 h3 h4 => ?_⟩
  · rcases set_get q with ⟨rfl, rfl, l⟩ | ⟨n, q⟩
    · exact h l
    · exact e.sl j s q
  · rcases set_get h1 with ⟨_, rfl, _⟩ | ⟨_, h1⟩
    · cases o1
    · rcases set_get h2 with ⟨_, rfl, _⟩ | ⟨_, h2⟩
      · cases o2
      · exact e.ap j k a s t h1 h2 o1 o2 h3 h4
/-- an exception's fields stand still from now on -/
theorem EnvS.xd (e : EnvS K mg ex B F σ H ρ) {dx : Addr} {fv : List (Str × V)} (h : H dx = some (.xd fv)) (n : B.H dx = none) : EnvS K mg ex B (upd F dx (.xd fv)) σ H ρ := by
  have sF : Same F (upd F dx (.xd fv)) := fun p o q => by
    by_cases z : p = dx
    · subst z
      have := e.fh _ _ q
      rw [h] at this
      rw [upd_same]; exact this
    · rw [upd_ne z]; exact q
  refine ⟨e.f0, e.ff.trans sF, fun p o q => ?_, e.hh, fun p o q => ?_, e.len, fun i s hs => ?_, e.ap⟩
  · by_cases z : p = dx
    · subst z; rw [upd_same] at q; cases q; exact h
    · rw [upd_ne z] at q; exact e.fh _ _ q
  · rw [upd_ne (ne_of_none q n)]; exact e.ag p o q
  · have z := e.sl i s hs
    cases s with
    | un => trivial
    | d d => obtain ⟨v, a, b⟩ := z; exact ⟨v, a, b.mono sF⟩
    | exc x => exact z.mono sF
    | own t xs =>
      obtain ⟨a, vs, a1, a2, a3, a4, a5, a6⟩ := z
      have na : a ≠ dx := fun y => by rw [y, h] at a4; cases a4
      exact ⟨a, vs, a1, by rw [upd_ne na]; exact a2, a3, a4, a5.mono sF, a6⟩
    | obo t c ns fs =>
      obtain ⟨a, C, d, fv', a1, a2, a3, m, a4, nn, a5, a6⟩ := z
      have na : a ≠ dx := fun y => by rw [y, h] at a4; cases a4
      exact ⟨a, C, d, fv', a1, by rw [upd_ne na]; exact a2, a3, m, a4, nn, a5.mono sF, a6⟩
end
/-- behind the suite -/
def unI (i : Nat) : SRes → SRes
  | .nx ρ => .nx ((noX ρ).set i .un)
  | .bk ρ => .bk ((noX ρ).set i .un)
  | .ct ρ => .ct ((noX ρ).set i .un)
  | .rt d => .rt d
  | _ => .st
def sTryAs (i : Nat) (cs : Str → Option Bool) (fb fs : DEnv → SRes) : DEnv → SRes := fun ρ => match fb ρ with
  | .er x ρ' => match cs x.c with
    | some true => unI i (fs ((noX ρ').set i (.exc x)))
    | some false => .er x ρ'
    | none => .st
  | r => r
section
variable {X : Cx} {fr : Bool} {We : WeX} {x n : Str} {c : Value} {body suite : List Stmt} {b₀ : Stmt} {np pos pos' : Pos} {fb fs : DEnv → SRes}
theorem sd_tryAs (i : Nat) (cs : Str → Option Bool) (hs : X.stack = X.env :: X.outer) (hf : X.env.frame = some X.env.locals) (hN : X.N.Nodup) (hc : Names X x c) (tk : Takes X We.w)
    (hcs : ∀ z b, cs z = some b → ∀ C, X.mg z = some (.ref C) → PySem.W.exmOne X.K (.ref C) c = some b)
    (hb : ∀ (W : WX) (pn : List (Addr × Obj)) (xe : Value → Shared → Prop), Takes (X.tr pn xe) W → PassesOwn (model X.prog X.w) X.A X.env xe → SDs (X.tr pn xe) fr ⟨W, We.ex⟩ body fb)
    (hsu : ∀ (a : Addr) (oe : Obj) (cls : Value) (d : Option Addr) (pn : List (Addr × Obj)), Zc cls d oe → (∃ vs, oe.data = .fields vs) → SDs (X.suite a ((a, oe) :: pn)) fr ⟨fun _ _ _ _ => False, some (a, cls, d)⟩ (b₀ :: suite) fs)
    (hi : X.N[i]? = some n := by rfl) (hln : X.env.kindOf n = some .local := by rfl) :
    SD X fr We (.Try body [.ExceptHandler (some (.Name x np)) (some n) (b₀ :: suite) pos'] [] [] pos) (sTryAs i cs fb fs) :=
  ps_imp (ps_try_as (tb := fun W => tS X.K X.mg fr ⟨W, We.ex⟩ fb) (ts := fun a cls d => tS X.K X.mg fr ⟨fun _ _ _ _ => False, some (a, cls, d)⟩ fs) hs hf hN hi hln hc tk hb hsu) fun E σ H ⟨B, F, ρ, e, h⟩ => by
    refine ⟨B, F, ρ, e, ?_⟩
    unfold sTryAs at h
    cases hfb : fb ρ with
    | nx ρ' => rw [hfb] at h; exact h
    | bk ρ' => rw [hfb] at h; exact h
    | ct ρ' => rw [hfb] at h; exact h
    | rt d => rw [hfb] at h; exact h
    | st => rw [hfb] at h; exact h
    | er z ρ' =>
      rw [hfb] at h
      have h : OutS X.K X.mg fr We B E (match cs z.c with
        | some true => unI i (fs ((noX ρ').set i (.exc z)))
        | some false => .er z ρ'
        | none => .st) := h
      intro F1 σ1 H1 C d e1 m xf
      cases hz : cs z.c with
      | none => rw [hz] at h; exact h.elim
      | some b =>
        rw [hz] at h
        refine ⟨b, hcs z.c b hz C m, fun eb a na => ?_, fun eb => ?_⟩
        · subst eb
          have h : OutS X.K X.mg fr We B E (unI i (fs ((noX ρ').set i (.exc z)))) := h
          -- the slots at the suite's start
          obtain ⟨F2, e2⟩ : ∃ F2, EnvS X.K X.mg (some (a, .ref C, d)) B F2 (σ1.set i (some (.ref a))) H1 ((noX ρ').set i (.exc z)) := by
            have lenσ : ∀ {F2 : Hp}, EnvS X.K X.mg (some (a, .ref C, d)) B F2 (σ1.set i (some (.ref a))) H1 ((noX ρ').set i .un) → i < ((noX ρ').set i Slot.un).length → (σ1.set i (some (V.ref a)))[i]? = some (some (.ref a)) := fun {F2} g l => by
              rw [List.getElem?_set_self]
              rw [← g.len, List.length_set] at l
              exact l
            rcases xf with ⟨x1, x2⟩ | ⟨dx, fv, x1, x2, x3, x4, x5⟩
            · have g : EnvS X.K X.mg (some (a, .ref C, d)) B F1 (σ1.set i (some (.ref a))) H1 ((noX ρ').set i .un) := e1.noX i _
              refine ⟨F1, ?_⟩
              have q := g.setX (i := i) (x := z) fun l => ⟨a, C, d, rfl, lenσ g l, m, .inl ⟨x1, x2⟩⟩
              rw [List.set_set] at q
              exact q
            · have g : EnvS X.K X.mg (some (a, .ref C, d)) B (upd F1 dx (.xd fv)) (σ1.set i (some (.ref a))) H1 ((noX ρ').set i .un) := (e1.xd x3 x2).noX i _
              refine ⟨upd F1 dx (.xd fv), ?_⟩
              have q := g.setX (i := i) (x := z) fun l => ⟨a, C, d, rfl, lenσ g l, m, .inr ⟨dx, fv, x1, upd_same, x4, x5⟩⟩
              rw [List.set_set] at q
              exact q
          refine ⟨B, F2, _, e2, ?_⟩
          cases hfs : fs ((noX ρ').set i (.exc z)) with
          | nx ρ2 => rw [hfs] at h; exact fun F σ H q => h F _ H (q.noX i none)
          | bk ρ2 => rw [hfs] at h; exact fun F σ H q => h F _ H (q.noX i none)
          | ct ρ2 => rw [hfs] at h; exact fun F σ H q => h F _ H (q.noX i none)
          | rt d2 => rw [hfs] at h; exact h
          | er x2 ρ2 => rw [hfs] at h; exact h.elim
          | st => rw [hfs] at h; exact h.elim
        · subst eb
          exact h F1 σ1 H1 C d e1 m xf

/-! ### e.f, isinstance(e, C) in the suite -/
/-- the caught exception at a slot -/
def excAt (ρ : DEnv) (i : Nat) : Option Exn := match ρ[i]? with
  | some (.exc x) => some x
  | _ => none
def eXf (cs : List Str) (i : Nat) (fl : Str) : DEnv → Res D := fun ρ => match excAt ρ i with
  | some x => if cs.contains x.c = true then match lookD x.ns x.fs fl with
    | some d => .ok d
    | none => .st
    else .st
  | none => .st
theorem excAt_some {ρ : DEnv} {i : Nat} {x : Exn} (h : excAt ρ i = some x) : ρ[i]? = some (.exc x) := by
  unfold excAt at h
  split at h
  · rename_i q; cases h; exact q
  · cases h
theorem RepAll.less0 {K : PySem.W.Frag} {mg : Str → Option Value} {F : Hp} {v : V} {d : D} (r : Rep K mg (fun _ => none) v d) : Rep K mg F v d := r.mono fun _ _ z => by cases z
section
variable {X : Cx} {a : Addr} {oe : Obj} {cls : Value} {d : Option Addr} {pn : List (Addr × Obj)} {W : WX} {fl x : Str} {p pos : Pos}
theorem pd_xf (i : Nat) (cs : List Str) (hc : ∀ c ∈ cs, ∃ C, X.mg c = some (.ref C) ∧ XfC X.K C ∧ PySem.W.findIn X.K (.ref C) fl = some none) (hz : Zc cls d oe) (hf : ∃ vs, oe.data = .fields vs)
    (hN : X.N[i]? = some x := by rfl) (hv : Vis X.env.scope x := by first | exact Or.inl rfl | exact Or.inr (Or.inl rfl) | exact Or.inr (Or.inr rfl)) (hd : (x == ("__debug__" : Str)) = false := by decide) (hcd : (x == ("__classdict__" : Str)) = false := by decide)
    (hb : attributeBase (.Name x p) fl X.env (eval (.Name x p) X.env) = eval (.Name x p) X.env := by rfl) :
    PD (X.suite a ((a, oe) :: pn)) ⟨W, some (a, cls, d)⟩ [i] (.Attribute (.Name x p) fl pos) (eXf cs i fl) := by
  refine ⟨fun pins s σ H Q I ⟨F, ρ, hF, hE, q⟩ => ?_⟩
  unfold eXf at q
  cases hx : excAt ρ i with
  | none => rw [hx] at q; exact q.elim
  | some z =>
    rw [hx] at q
    have q : Out X.K X.mg ⟨W, some (a, cls, d)⟩ (RD X.K X.mg) F H σ Q (if cs.contains z.c = true then match lookD z.ns z.fs fl with
      | some d => .ok d
      | none => .st
      else .st) := q
    by_cases hcc : cs.contains z.c = true
    · rw [if_pos hcc] at q
      obtain ⟨C', hm', T, hno⟩ := hc z.c (by simpa using hcc)
      obtain ⟨a', C, d', e1, e2, e3, e4⟩ := hE.2.2 i (by simp) z (excAt_some hx)
      have e1 : some (a, cls, d) = some (a', .ref C, d') := e1
      injection e1 with e1
      injection e1 with ea e1
      injection e1 with ec ed
      subst ea ec ed
      have e3 : X.mg z.c = some (.ref C) := e3
      rw [hm'] at e3; cases e3
      cases hl : lookD z.ns z.fs fl with
      | none => rw [hl] at q; exact q.elim
      | some dv =>
        rw [hl] at q
        rcases e4 with ⟨n0, _⟩ | ⟨dx, fv, k1, k2, k3, k4⟩
        · rw [n0] at hl
          unfold lookD at hl
          cases hl
        · obtain ⟨w, hw, rw'⟩ := RepAll.look k3 k4 hl
          exact (pe_xf T hno hz hf (pe_var (X := X.suite a ((a, oe) :: pn)) (i := i) hN hv hd hcd) hb).run pins s σ H Q I ⟨.ref a, e2, rfl, rfl, dx, fv, w, k1, hF _ _ k2, hw, q F H w (Ext.refl hF) (RepAll.less0 rw')⟩
    · rw [if_neg hcc] at q; exact q.elim
end
end
/-- isinstance(e, C) of the exception that the suite holds, with or without fields -/
def rIsX (K : PySem.W.Frag) (C a : Addr) (d : Option Addr) : List V → Hp → VK → Prop := fun xs H Q => ∃ (Ct : Addr) (b : Bool), xs = [.ref a, .ref Ct] ∧ PySem.W.kitOne K (.ref C) (.ref Ct) = some b ∧ (d = none ∨ ∃ dx fs, d = some dx ∧ H dx = some (.xd fs)) ∧ Q (.bl b) H
theorem isx_has {K : PySem.W.Frag} {C : Addr} (h : PySem.W.hasDictIn K C = true) : (PySem.W.clsIn K C).isSome = true := by
  obtain ⟨cd, hc, _⟩ := PySem.W.any_some h
  rw [hc]; rfl
theorem call_isX {X : Cx} {a C : Addr} {oe : Obj} {d : Option Addr} {pn : List (Addr × Obj)} (T : ExcC X.K C) (hz : Zc (.ref C) d oe) (hf : ∃ vs, oe.data = .fields vs) : CallR (X.suite a ((a, oe) :: pn)) (.builtin "isinstance") (rIsX X.K C a d) := by
  intro pins s σ H xs us Q I r h
  obtain ⟨Ct, b, rfl, e, hd, q⟩ := h
  cases r with
  | cons rx rr =>
    cases rr with
    | cons rt rr =>
      cases rr
      cases rx
      cases rt
      obtain ⟨hget, _⟩ := I.pin (a, oe) (List.mem_append.mpr (.inl List.mem_cons_self))
      obtain ⟨vs, hv⟩ := hf
      have nc : PySem.W.notCls oe := by unfold PySem.W.notCls; rw [hv] <;> rfl
      have J : ∃ od, PySem.W.InstAt s.heap a oe C od := by
        rcases hd with hd | ⟨dx, fs, hd, hx⟩
        · subst hd
          refine ⟨none, hget, hz.1, nc, ?_⟩
          rw [hz.2]
          exact trivial
        · subst hd
          have hx : ObjOk X.prog X.w H s.heap dx (.xd fs) := I.hok dx _ hx
          obtain ⟨mA, hns, hr⟩ := hx
          obtain ⟨od, ho, hl⟩ := lookIn_ns hns
          refine ⟨some od, hget, hz.1, nc, ?_⟩
          rw [hz.2]
          exact ho
      obtain ⟨od, J⟩ := J
      exact PySem.W.kia_one (PySem.W.kitx_exc (isx_has T.hd) T.hg T.hk T.hs T.ha T.hn T.ht T.hm) I.kIn J e (fun z => nomatch z) fun tk => ⟨.bl b, H, I.kept (t' := tk) fun _ _ z => z, rfl, q⟩
def eIsX (i : Nat) (cs : Str → Option Bool) : DEnv → Res D := fun ρ => match excAt ρ i with
  | some x => match cs x.c with
    | some b => .ok (.bl b)
    | none => .st
  | none => .st
section
variable {X : Cx} {a Ct : Addr} {oe : Obj} {cls : Value} {d : Option Addr} {pn : List (Addr × Obj)} {W : WX} {x y : Str} {p p1 p2 pos : Pos}
theorem pd_isx (i : Nat) (cs : Str → Option Bool) (hc : ∀ c b, cs c = some b → ∀ C, X.mg c = some (.ref C) → ExcC X.K C ∧ PySem.W.kitOne X.K (.ref C) (.ref Ct) = some b) (hz : Zc cls d oe) (hf : ∃ vs, oe.data = .fields vs) (hm : X.mg "isinstance" = none) (hmt : X.mg y = some (.ref Ct))
    (hN : X.N[i]? = some x := by rfl) (hv : Vis X.env.scope x := by first | exact Or.inl rfl | exact Or.inr (Or.inl rfl) | exact Or.inr (Or.inr rfl)) (hd : (x == ("__debug__" : Str)) = false := by decide) (hcd : (x == ("__classdict__" : Str)) = false := by decide)
    (hg : Gl X "isinstance" := by rfl) (hgt : Gl X y := by rfl) (hdy : (y == ("__debug__" : Str)) = false := by decide)
    (hs1 : starEach [.Name x p1, .Name y p2] X.env = (false, eval (.Name x p1) X.env) :: starEach [.Name y p2] X.env := by rfl) (hs2 : starEach [.Name y p2] X.env = (false, eval (.Name y p2) X.env) :: starEach [] X.env := by rfl) (hpl : (backTo pos (starEach [.Name y p2] X.env)).any (·.1) = false := by rfl) :
    PD (X.suite a ((a, oe) :: pn)) ⟨W, some (a, cls, d)⟩ [i] (.Call (.Name "isinstance" p) [.Name x p1, .Name y p2] [] pos) (eIsX i cs) := by
  refine ⟨fun pins s σ H Q I ⟨F, ρ, hF, hE, q⟩ => ?_⟩
  unfold eIsX at q
  cases hx : excAt ρ i with
  | none => rw [hx] at q; exact q.elim
  | some z =>
    rw [hx] at q
    have q : Out X.K X.mg ⟨W, some (a, cls, d)⟩ (RD X.K X.mg) F H σ Q (match cs z.c with
      | some b => .ok (.bl b)
      | none => .st) := q
    cases hb : cs z.c with
    | none => rw [hb] at q; exact q.elim
    | some b =>
      rw [hb] at q
      obtain ⟨a', C, d', e1, e2, e3, e4⟩ := hE.2.2 i (by simp) z (excAt_some hx)
      have e1 : some (a, cls, d) = some (a', .ref C, d') := e1
      injection e1 with e1
      injection e1 with ea e1
      injection e1 with ec ed
      subst ea ec ed
      obtain ⟨T, hk⟩ := hc z.c b hb C e3
      have P : PE (X.suite a ((a, oe) :: pn)) (.Call (.Name "isinstance" p) [.Name x p1, .Name y p2] [] pos) (tCB (rIsX X.K C a d) (tCons (tVar i) (tCons (tC (.ref Ct)) tNil))) :=
        pe_callB (X := X.suite a ((a, oe) :: pn)) (call_isX T hz hf) hg hm (by decide +kernel) (pa_cons (pe_var hN hv hd hcd) (pa_cons (pe_glob (v := .ref Ct) hgt hmt rfl hdy) pa_nil hs2) hs1) (by decide) (by decide) hs1 hpl
      refine P.run pins s σ H Q I ⟨.ref a, e2, Ct, b, rfl, hk, ?_, q F H _ (Ext.refl hF) (.bl b)⟩
      rcases e4 with ⟨_, n0⟩ | ⟨dx, fv, k1, k2, _⟩
      · exact .inl n0
      · exact .inr ⟨dx, fv, k1, hF _ _ k2⟩
end
end DL
set_option Elab.async false
set_option linter.all false
set_option maxRecDepth 100000
set_option maxHeartbeats 1000000
/-! DL15: defs that call themselves. -/
namespace DL
open PySem PySem.Spec PyProof.Rows L2
/-- no turn is left: nothing is promised -/
def mNo : List D → Res D := fun _ => .st
theorem fnd_no {P : Program} {w : World} {K : PySem.W.Frag} {mg : Str → Option Value} {base : Heap} {k : Nat} {f : Addr} {fd : FuncData} {ps : List Str} {fr : Bool} : FnD P w K mg base k f fd ps fr mNo :=
  ⟨fun vs H Q E h => h.1, fun A outer s H args us vs Q E hr e0 hb r h => by
    obtain ⟨_, F, ds, _, _, q⟩ := h
    exact q.elim⟩
end DL
set_option Elab.async false
set_option linter.all false
set_option maxRecDepth 100000
set_option maxHeartbeats 1000000
/-! DL16: methods of own instances. -/
namespace DL
open PySem PySem.Spec PyProof.Rows L2
def tMethD (C : Addr) (m : Str) (sp : Sp) (E : L2.St → XK) (ta : TE) (t : TA) : TE := fun σ H Q => ta σ H fun x H1 => ∃ a dx fs, x = .ref a ∧ H1 a = some (.ins C dx fs) ∧ fs.lookup m = none ∧
  t σ H1 fun vs H2 => sp (x :: vs) H2 Q (E σ)
section
variable {X : Cx} {CX : CXT} {k : Nat} {f C : Addr} {fd : FuncData} {ps : List Str} {sp : Sp} {E : L2.St → XK} {m : Str} {pos apos : Pos} {e o : PySem.Expr} {es : List PySem.Expr} {ta : TE} {t : TA} {pl : Sem Bool}
theorem pe_methD (he : PE X o ta) (c : Cls X.K C) (hm : Meth X.K C m f) (F : FnOk X.prog X.w X.K X.mg X.base CX k f fd ps sp) (hr : Room k X.A) (hb : Binds X.K fd ps []) (hx : ∀ σ, PassesAt CX X σ (E σ)) (ha : PA X (e :: es) t)
    (hst : starEach (e :: es) X.env = (false, eval e X.env) :: starEach es X.env) (hpl : (backTo pos (starEach es X.env)).any (·.1) = false)
    (ht : eval (.Call (.Attribute o m apos) (e :: es) [] pos) X.env = (do
      let ov ← eval o X.env
      standAt apos.atName
      let (f, first) ← holding [ov] (getMethod ov m pl)
      callWith pos f first (backTo pos (starEach (e :: es) X.env)) (backToKw pos (keywordEach [] X.env)))) : PE X (.Call (.Attribute o m apos) (e :: es) [] pos) (tMethD C m sp E ta t) :=
  ⟨fun pins s σ H Q I h => PySem.W.methodCall_KW (pl := pl) (thn (he.run pins s σ H _ I h) fun u s1 ⟨x, H1, I1, rx, a, dx, fs, ex, ea, l, q⟩ => by
    subst ex
    cases rx
    exact getmeth_ok I1 ea c hm l (PySem.W.callWith_K (first := [.ref a]) (h₀ := X.base) I.ok.mod.kin hm.kp (thn (ha.run pos pins s1 σ H1 _ I1 q) fun us s2 ⟨vs, H2, I2, r, q2⟩ => ⟨I2.kIn, run_fnS (us := .ref a :: us) (vs := .ref a :: vs) F hr hb (hx σ) I2 (.cons rfl r) q2⟩) hst hpl)) ht⟩
theorem pe_methD0 (he : PE X o ta) (c : Cls X.K C) (hm : Meth X.K C m f) (F : FnOk X.prog X.w X.K X.mg X.base CX k f fd ps sp) (hr : Room k X.A) (hb : Binds X.K fd ps []) (hx : ∀ σ, PassesAt CX X σ (E σ))
    (ht : eval (.Call (.Attribute o m apos) [] [] pos) X.env = (do
      let ov ← eval o X.env
      standAt apos.atName
      let (f, first) ← holding [ov] (getMethod ov m pl)
      callWith pos f first (backTo pos (starEach [] X.env)) (backToKw pos (keywordEach [] X.env)))) : PE X (.Call (.Attribute o m apos) [] [] pos) (tMethD C m sp E ta tNil) :=
  ⟨fun pins s σ H Q I h => PySem.W.methodCall_KW (pl := pl) (thn (he.run pins s σ H _ I h) fun u s1 ⟨x, H1, I1, rx, a, dx, fs, ex, ea, l, q⟩ => by
    subst ex
    cases rx
    exact getmeth_ok I1 ea c hm l (PySem.W.callWith_K0 (first := [.ref a]) I1.kIn hm.kp (run_fnS (us := [.ref a]) (vs := [.ref a]) F hr hb (hx σ) I1 (.cons rfl .nil) q))) ht⟩
end
/-- an instance of c without a field m -/
def isM (c m : Str) : D → Bool
  | .obj c' ns _ => decide (c' = c) && !ns.contains m
  | _ => false
/-- o.m(..), o of the class c -/
def eMth {β : Type} (c m : Str) (mm : List D → Res β) (f : DEnv → Res D) (g : DEnv → Res (List D)) : DEnv → Res β := fun ρ => (f ρ).bind fun x => if isM c m x = true then (g ρ).bind fun xs => mm (x :: xs) else .st
theorem lookup_not {m : Str} : ∀ {fv : List (Str × V)}, (fv.map (·.1)).contains m = false → fv.lookup m = none
  | [], _ => rfl
  | (n, v) :: fv, h => by
    rw [List.map_cons, List.contains_cons, Bool.or_eq_false_iff] at h
    show (match m == n with | true => some v | false => fv.lookup m) = none
    rw [h.1]
    exact lookup_not h.2
section
variable {X : Cx} {We : WeX} {Sa Sb : List Nat} {k j : Nat} {fa C : Addr} {fd : FuncData} {ps : List Str} {mm : List D → Res D} {c m : Str} {apos pos : Pos} {o e : PySem.Expr} {es : List PySem.Expr} {f : DEnv → Res D} {g : DEnv → Res (List D)} {fl : List Str} {pl : Sem Bool}
theorem isM_at {F H : Hp} {v : V} {x : D} (cd : ClD X.K X.mg c C fl) (hF : Same F H) (rx : Rep X.K X.mg F v x) (h : isM c m x = true) : ∃ a dx fv, v = .ref a ∧ H a = some (.ins C dx fv) ∧ fv.lookup m = none := by
  cases x <;> try (cases h; done)
  rename_i c' ns fs
  have h : (decide (c' = c) && !ns.contains m) = true := h
  rw [Bool.and_eq_true, decide_eq_true_eq, Bool.not_eq_true'] at h
  obtain ⟨rfl, hn⟩ := h
  cases rx with
  | obj g ha n r =>
    rw [cd.gl] at g; cases g
    exact ⟨_, _, _, rfl, hF _ _ ha, lookup_not (by rw [n]; exact hn)⟩
theorem out_if {K : PySem.W.Frag} {mg : Str → Option Value} {α β : Type} {R : Hp → Hp → Hp → α → β → Prop} {F H : Hp} {σ : L2.St} {Q : α → Hp → Prop} {b : Bool} {r : Res β} (h : Out K mg We R F H σ Q (if b = true then r else .st)) : b = true ∧ Out K mg We R F H σ Q r := by
  cases b with
  | true => rw [if_pos rfl] at h; exact ⟨rfl, h⟩
  | false => rw [if_neg Bool.false_ne_true] at h; exact h.elim
/-- a def that gives a new list, as RR wants it -/
theorem out_asL {F H : Hp} {σ : L2.St} {Q : VK} {r : Res D} (h : Out X.K X.mg We (RF X.K X.mg) F H σ Q (r.bind asL)) : Out X.K X.mg We (RR X.K X.mg true) F H σ Q r := by
  cases r with
  | ok d =>
    intro F' H' v ex r'
    obtain ⟨xs, rfl, r'⟩ := r'
    exact h F' H' v ex r'
  | er x => exact h
  | st => exact h
theorem pd_meth (tk : Takes X We) (hr : Room k X.A) (hjk : j ≤ k) (cd : ClD X.K X.mg c C fl) (hm : Meth X.K C m fa) (F : FnD X.prog X.w X.K X.mg X.base j fa fd ps false mm) (hb : Binds X.K fd ps []) (ho : PD X We Sa o f) (ha : PAD X We Sb (e :: es) g)
    (hst : starEach (e :: es) X.env = (false, eval e X.env) :: starEach es X.env := by rfl) (hpl : (backTo pos (starEach es X.env)).any (·.1) = false := by rfl)
    (ht : eval (.Call (.Attribute o m apos) (e :: es) [] pos) X.env = (do
      let ov ← eval o X.env
      standAt apos.atName
      let (f, first) ← holding [ov] (getMethod ov m pl)
      callWith pos f first (backTo pos (starEach (e :: es) X.env)) (backToKw pos (keywordEach [] X.env))) := by rfl) :
    PD X We (Sa ++ Sb) (.Call (.Attribute o m apos) (e :: es) [] pos) (eMth c m (callN ps.length mm) f g) :=
  pe_imp (pe_methD ho cd.cl hm F (hr.mono hjk) hb (fun σ => passAt tk σ) ha hst hpl ht) fun σ H Q ⟨F, ρ, hF, hE, q⟩ => ⟨F, ρ, hF, hE.l, Out.bind q fun x F1 H1 v ex rx q1 => by
    obtain ⟨z, q1⟩ := out_if q1
    obtain ⟨a, dx, fv, rfl, ha, hl⟩ := isM_at cd ex.2.1 rx z
    exact ⟨a, dx, fv, rfl, ha, hl, F1, ρ, ex.2.1, hE.r.mono ex.1, Out.bind q1 fun xs F2 H2 vs ey ry q2 => callN_out (fr := false) ey.2.1 (.cons (rx.mono ey.1) ry) q2⟩⟩
theorem pf_meth (tk : Takes X We) (hr : Room k X.A) (hjk : j ≤ k) (cd : ClD X.K X.mg c C fl) (hm : Meth X.K C m fa) (F : FnD X.prog X.w X.K X.mg X.base j fa fd ps true mm) (hb : Binds X.K fd ps []) (ho : PD X We Sa o f) (ha : PAD X We Sb (e :: es) g)
    (hst : starEach (e :: es) X.env = (false, eval e X.env) :: starEach es X.env := by rfl) (hpl : (backTo pos (starEach es X.env)).any (·.1) = false := by rfl)
    (ht : eval (.Call (.Attribute o m apos) (e :: es) [] pos) X.env = (do
      let ov ← eval o X.env
      standAt apos.atName
      let (f, first) ← holding [ov] (getMethod ov m pl)
      callWith pos f first (backTo pos (starEach (e :: es) X.env)) (backToKw pos (keywordEach [] X.env))) := by rfl) :
    PF X We (Sa ++ Sb) (.Call (.Attribute o m apos) (e :: es) [] pos) (eMth c m (callF ps.length mm) f g) :=
  pe_imp (pe_methD ho cd.cl hm F (hr.mono hjk) hb (fun σ => passAt tk σ) ha hst hpl ht) fun σ H Q ⟨F, ρ, hF, hE, q⟩ => ⟨F, ρ, hF, hE.l, Out.bind q fun x F1 H1 v ex rx q1 => by
    obtain ⟨z, q1⟩ := out_if q1
    obtain ⟨a, dx, fv, rfl, ha, hl⟩ := isM_at cd ex.2.1 rx z
    exact ⟨a, dx, fv, rfl, ha, hl, F1, ρ, ex.2.1, hE.r.mono ex.1, Out.bind q1 fun xs F2 H2 vs ey ry q2 => callN_out (fr := true) ey.2.1 (.cons (rx.mono ey.1) ry) (out_asL q2)⟩⟩
theorem pd_meth0 (tk : Takes X We) (hr : Room k X.A) (hjk : j ≤ k) (cd : ClD X.K X.mg c C fl) (hm : Meth X.K C m fa) (F : FnD X.prog X.w X.K X.mg X.base j fa fd ps false mm) (hb : Binds X.K fd ps []) (ho : PD X We Sa o f)
    (ht : eval (.Call (.Attribute o m apos) [] [] pos) X.env = (do
      let ov ← eval o X.env
      standAt apos.atName
      let (f, first) ← holding [ov] (getMethod ov m pl)
      callWith pos f first (backTo pos (starEach [] X.env)) (backToKw pos (keywordEach [] X.env))) := by rfl) :
    PD X We Sa (.Call (.Attribute o m apos) [] [] pos) (eMth c m (callN ps.length mm) f eNil) :=
  pe_imp (pe_methD0 ho cd.cl hm F (hr.mono hjk) hb (fun σ => passAt tk σ) ht) fun σ H Q ⟨F, ρ, hF, hE, q⟩ => ⟨F, ρ, hF, hE, Out.bind q fun x F1 H1 v ex rx q1 => by
    obtain ⟨z, q1⟩ := out_if q1
    obtain ⟨a, dx, fv, rfl, ha, hl⟩ := isM_at cd ex.2.1 rx z
    exact ⟨a, dx, fv, rfl, ha, hl, callN_out (fr := false) ex.2.1 (.cons rx .nil) q1⟩⟩
theorem pf_meth0 (tk : Takes X We) (hr : Room k X.A) (hjk : j ≤ k) (cd : ClD X.K X.mg c C fl) (hm : Meth X.K C m fa) (F : FnD X.prog X.w X.K X.mg X.base j fa fd ps true mm) (hb : Binds X.K fd ps []) (ho : PD X We Sa o f)
    (ht : eval (.Call (.Attribute o m apos) [] [] pos) X.env = (do
      let ov ← eval o X.env
      standAt apos.atName
      let (f, first) ← holding [ov] (getMethod ov m pl)
      callWith pos f first (backTo pos (starEach [] X.env)) (backToKw pos (keywordEach [] X.env))) := by rfl) :
    PF X We Sa (.Call (.Attribute o m apos) [] [] pos) (eMth c m (callF ps.length mm) f eNil) :=
  pe_imp (pe_methD0 ho cd.cl hm F (hr.mono hjk) hb (fun σ => passAt tk σ) ht) fun σ H Q ⟨F, ρ, hF, hE, q⟩ => ⟨F, ρ, hF, hE, Out.bind q fun x F1 H1 v ex rx q1 => by
    obtain ⟨z, q1⟩ := out_if q1
    obtain ⟨a, dx, fv, rfl, ha, hl⟩ := isM_at cd ex.2.1 rx z
    exact ⟨a, dx, fv, rfl, ha, hl, callN_out (fr := true) ex.2.1 (.cons rx .nil) (out_asL q1)⟩⟩
end
end DL
set_option Elab.async false
set_option linter.all false
set_option maxRecDepth 100000
set_option maxHeartbeats 4000000
/-! DL17: own exceptions whose __init__ says super().__init__('..'). -/
namespace DL
open PySem PySem.Spec PyProof.Rows L2 NdefX
/-- the code object at c names the file -/
def fileIn (K : PySem.W.Frag) (c : Addr) (file : Str) : Bool := match K.lookup c with
  | some ⟨_, _, .fields vs, _⟩ => (match (vs : Array Value)[2]? with | some (Value.str n _) => n == file | _ => false)
  | _ => false
theorem fileIn_of {K : PySem.W.Frag} {h : Heap} {c : Addr} {file : Str} (X : K.In h) (q : fileIn K c file = true) : ∃ oc vs n t, h.get? c = some oc ∧ oc.data = .fields vs ∧ vs[2]? = some (.str n t) ∧ n = file := by
  unfold fileIn at q
  split at q
  · rename_i a b vs d ho
    split at q
    · rename_i n t hv
      exact ⟨_, vs, n, t, X _ _ ho, rfl, hv, by simpa using q⟩
    · cases q
  · cases q
section
variable {prog : Program} {w : World} {A : Around} {E : Value → Shared → Prop} {h : Heap} {g : Array GenState} {d : Drawn} {t : Nat} {os : OsState}
variable {nm q : Str} {C N : Addr} {bs bm : List Value} {hdct : Bool} {sn : List Str} {sub : List Value} {ab : Bool} {col : Option Bool} {dd : Option Addr} {k0 k1 k2 k3 k5 : Option Value}
theorem call_vw {u e t0 : Addr} {rest : List Value} {Q : Value → Shared → Prop}
    (hC : h.get? C = some (excClassObj nm q C N bs bm hdct sn sub ab col dd k0 k1 k2 k3 k5 "ValueError.__new__")) (he : h.get? e = some (HandSPX.excO C t0)) (hu : h.get? u = some (PySem.W.kxs_mw "ValueError.__init__" e)) (hrest : rest.length ≤ sizeLine)
    (hq : ∀ h' t1, (∀ b o, b ≠ e → h.get? b = some o → h'.get? b = some o) → h'.get? e = some (HandSPX.excO C t1) → Q .none ⟨h', g, d, t, os⟩) :
    wpAny (model prog w) A (call (.ref u) rest) Q E ⟨h, g, d, t, os⟩ := by
  refine wpAny_call (codeAny_of_tree ?_)
  show wpAny _ A.in1 (callAny (.ref u) ⟨rest, []⟩) _ _ _
  simp only [callAny]
  refine wpAny_bind (wpAny_load hu ?_)
  simp only [PySem.W.kxs_mw, show (Value.type "method-wrapper" == Value.type "method" || Value.type "method-wrapper" == Value.type "builtin_function_or_method" || Value.type "method-wrapper" == Value.type "method-wrapper") = true by decide, if_true]
  refine W.KFB.if_so (by decide) ?_
  refine wpAny_bind (ESX.check_bound F.excBase_ValueError hC he rfl ?_)
  refine wpAny_bind (wpAny_pure (wpAny_pure ?_))
  refine ⟨Code.quiet_builtin _ (by decide +kernel), codeAny_builtin F.excBase_ValueError.initEntry ?_⟩
  rw [Around.under_plainId F.excBase_ValueError.init.plain _]
  wp_walk
  refine hq _ h.objs.size (fun b o hb ho => ?_) ?_
  · rw [Heap.get?_update_other _ _ (Ne.symm hb)]
    exact Heap.get?_push_of_some _ ho
  · rw [Heap.get?_update_self _ (Heap.get?_push_of_some _ he) rfl]
    rfl
end
section
variable {M : Model} {A : Around} {E : Value → Shared → Prop} {s : Shared}
theorem callWith_vw {pos : Pos} {u x : Addr} {env : Env} {e : PySem.Expr} {rest : List PySem.Expr} {Q : Value → Shared → Prop}
    (h : wpAny M A (spliced (backTo pos (starEach (e :: rest) env))) (fun vs s₁ => s₁.heap.get? u = some (PySem.W.kxs_mw "ValueError.__init__" x) ∧ wpAny M A (call (.ref u) vs) Q E s₁) E s)
    (he : starEach (e :: rest) env = (false, eval e env) :: starEach rest env := by rfl) (hplain : (backTo pos (starEach rest env)).any (·.1) = false := by rfl) :
    wpAny M A (callWith pos (.ref u) [] (backTo pos (starEach (e :: rest) env)) []) Q E s := by
  rw [he] at h ⊢
  refine PySem.W.kxs_callWith (i := "ValueError.__init__") (x := x) (by show (false || (backTo pos (starEach rest env)).any (·.1)) = false; rw [hplain]; rfl) ?_
  exact PySem.Calls.evalArgs_plain h
end
section
variable {X : Cx} {pins : List (Addr × Obj)} {σ : L2.St} {H : Hp} {s : Shared} {f a C cda cc : Addr} {fd : FuncData} {ar : Arg} {oc ccl : Value} {od cld : Option Addr} {osl csl : Array (Option Value)}
theorem wp_superInit {body : List Stmt} {m : Str} {j : Nat} {p0 p1 p2 p3 p4 p5 : Pos} {pl : Sem Bool} (I : Inv X pins σ H s) (hf : X.K.lookup f = some ⟨oc, od, .func fd, osl⟩) (hfu : X.env.func = some f) (hp : (fd.params.posonlyargs ++ fd.params.args).head? = some ar)
    (hcode : X.env.code = .ref cda) (hfile : fileIn X.K cda X.prog.main.file = true) (hcl : X.env.cells.lookup ("__class__" : Str) = some cc) (hcell : X.K.lookup cc = some ⟨ccl, cld, .cell (some (.ref C)), csl⟩) (T : OexC X.K C)
    (hsub : PySem.W.mroIn X.K C (.ref C) = some true) (hsuper : X.mg "super" = none) (hks : X.env.scope.names.lookup ("super" : Str) = some .globalImplicit) (hkc : X.env.scope.names.lookup ("__class__" : Str) = some .free) (hka : X.env.scope.names.lookup ar.arg = some .local)
    (htop : (X.prog.main.scope.names.lookup ("super" : Str)).isSome = false) (hth : PySem.W.nsIn X.K cStatics "thirdparty.any" = some none) (hsi : PySem.W.ks_superIn X.K C C "__init__" = some (some (.builtin "ValueError.__init__")))
    (hsB : PySem.W.subIn X.K (.ref C) (.type "ValueError") = some true) (hN : X.N[0]? = some ar.arg) (hσ : σ[0]? = some (some (.ref a))) (ea : H a = some (exo a C none))
    (hi : interactive X.env = false := by rfl)
    (hsw : swapsWith (.Call (.Attribute (.Call (.Name "super" p0) [] [] p1) "__init__" p2) [.Constant (.str m) j p3] [] p4) none p5.line X.env = pure false := by rfl)
    (he : eval (.Call (.Attribute (.Call (.Name "super" p0) [] [] p1) "__init__" p2) [.Constant (.str m) j p3] [] p4) X.env = (do
      let ov ← attributeBase (.Call (.Name "super" p0) [] [] p1) "__init__" X.env (eval (.Call (.Name "super" p0) [] [] p1) X.env)
      standAt p2.atName
      let (f, first) ← holding [ov] (getMethod ov "__init__" pl)
      callWith p4 f first (backTo p4 (starEach [.Constant (.str m) j p3] X.env)) []) := by rfl)
    (hse : starEach [.Constant (.str m) j p3] X.env = (false, eval (.Constant (.str m) j p3) X.env) :: starEach [] X.env := by rfl) :
    _root_.PySem.wpAt (model X.prog X.w) X.A (.func body X.env) (exec (.Expr (.Call (.Attribute (.Call (.Name "super" p0) [] [] p1) "__init__" p2) [.Constant (.str m) j p3] [] p4) p5) X.env) (fun fl s' => fl = .next ∧ Inv X pins σ H s') X.xe s := by
  have XK := I.kIn
  obtain ⟨nm, q, N, bs, bm, sn, sub, ab, col, dd, k0, k1, k2, k3, k5, hC, hbm⟩ := T.cls
  have hcls : PySem.W.clsIn X.K C = some { name := nm, bases := bs, mro := .ref C :: bm, ns := N, qualname := q, hasDict := true, slotNames := sn, subclasses := sub, abstract := ab, collection := col, hasDel := false } := by unfold PySem.W.clsIn; rw [hC] <;> rfl
  obtain ⟨occ, vs, n, tf, hoc, hdc, hvs, hn⟩ := fileIn_of XK hfile
  obtain ⟨t1, ho⟩ := exo_at I.hok ea
  obtain ⟨ml, hns, hloc⟩ := id I.loc
  obtain ⟨u, ru, hlk⟩ := hloc 0 ar.arg (.ref a) hN hσ (.inl hka)
  obtain rfl : u = Value.ref a := ru
  have hml : ml ar.arg = some (.ref a) := by
    rcases hlk with ⟨_, z⟩ | ⟨z, _⟩
    · exact z
    · have z : X.env.scope.names.lookup ar.arg = some .cell ∨ X.env.scope.names.lookup ar.arg = some .free := z
      rw [hka] at z
      rcases z with z | z <;> cases z
  refine ks_wpAt_Expr_any ?_ hi hsw
  refine ks_wpAt_MethodCall (pl := pl) ?_ he
  refine ks_wpAt_super_base hks hkc (by decide) hfu (XK _ _ hf) rfl hp hcode hoc hdc hvs (by rw [hn]; exact beq_self_eq_true _) htop ?_
  obtain ⟨mb, b1, b2⟩ := I.mod.blt
  refine PySem.W.ks_loadName_global I.ok.kind hks (Calls.loadGlobal_builtin (by rw [I.ok.glob]; exact I.mod.glob.keeps I.bk) hsuper (by rw [I.ok.blt]; exact b1.keeps I.bk) ((b2 "super" (by decide)).trans (show bootBuiltins "super" = some (.type "super") by decide +kernel)) ⟨rfl, ?_⟩)
  refine wpAny_loadName_free I.ok.kind hkc hcl ⟨_, XK _ _ hcell, rfl⟩ ?_
  refine wpAny_loadName_local I.ok.kind hka hns hml ?_
  refine ks_wpAny_isType_cls (XK _ _ hC) rfl ⟨rfl, ?_⟩
  obtain ⟨hp', g, d, t, os⟩ := s
  refine ks_wpAny_call_super (XK _ _ hC) rfl ho rfl (fun c z => by cases z) (PySem.W.looks_mroIn XK hsub) (fun h1 e1 kp1 => ?_)
  have I1 : Inv X pins σ H ⟨h1, g, d, t, os⟩ := I.kept (t' := t) kp1
  have XK1 := I1.kIn
  have hI : PySem.W.Looks (model X.prog X.w) h1 (isInstance (.ref a) (.type "ValueError")) true := (PySem.W.InstAt.type (C := C) (ox := { cls := .ref C, dict := none, data := .fields #[.ref t1, .none, .none, .none, .bool false, .none] }) (od := none) ⟨kp1 _ _ ho, rfl, rfl, trivial⟩).andThen (PySem.W.looks_subIn XK1 hsB)
  have hne : a ≠ C := fun z => by
    have h2 := XK _ _ hC
    rw [← z] at h2
    have ho' : hp'.get? a = _ := ho
    rw [h2] at ho'
    cases ho'
  have hal : PySem.W.alongIn X.K "__init__" (((Value.ref C :: bm).dropWhile (· != .ref C)).drop 1) = some (some (.builtin "ValueError.__init__")) := by
    unfold PySem.W.ks_superIn at hsi
    rw [hcls] at hsi
    exact hsi
  refine PySem.W.kxs_getMethod PySem.W.kxs_ValueError e1 (PySem.W.looks_opaque XK1 hth) (l₀ := .ref C :: bm) ((PySem.W.looks_clsIn XK1 hcls).andThen .now) rfl XK1 hal hI hne (by decide) ?_
  have I2 : Inv X pins σ H ⟨h1.push (PySem.W.kxs_mw "ValueError.__init__" a), g, d, t + 1, os⟩ := I1.kept (t' := t + 1) fun b o z => Heap.get?_push_of_some _ z
  have hu2 : (h1.push (PySem.W.kxs_mw "ValueError.__init__" a)).get? h1.objs.size = some (PySem.W.kxs_mw "ValueError.__init__" a) := Heap.get?_push_at rfl rfl
  show wpAny _ _ (callWith p4 (.ref h1.objs.size) [] (backTo p4 (starEach [.Constant (.str m) j p3] X.env)) []) _ _ _
  refine callWith_vw (x := a) ?_ hse rfl
  have ha : PA X [.Constant (.str m) j p3] (tCons (tC (.str m)) tNil) := pa_cons pe_str pa_nil
  have I3 := I2.pins_of (pins' := (h1.objs.size, PySem.W.kxs_mw "ValueError.__init__" a) :: pins) fun p hp => by
    rcases List.mem_cons.mp hp with rfl | hp
    · exact ⟨hu2, I1.hok.fresh (Nat.le_refl _), fun z => Nat.ne_of_lt I1.lt z.symm, I1.nofs (Nat.le_refl _), fun v z => by cases z⟩
    · exact I2.pin p (List.mem_append_right _ hp)
  refine wpAny_mono (ha.run p4 _ _ σ H (fun vs H1 => vs = [V.str m] ∧ H = H1) I3 ⟨rfl, rfl⟩) (fun us s2 hh => ?_) fun _ _ z => z
  obtain ⟨vs2, H1, J, r1, ev, eH⟩ := hh
  subst ev
  subst eH
  have hu3 := (J.pin (h1.objs.size, PySem.W.kxs_mw "ValueError.__init__" a) (List.mem_append_right _ (List.mem_cons_self ..))).1
  obtain ⟨t2, ho2⟩ := exo_at J.hok ea
  have hlen : us.length ≤ sizeLine := by
    rw [← r1.length, sizeLine_eq]
    exact (by decide : (1:Nat) ≤ 16777216)
  obtain ⟨hp3, g3, d3, t3, os3⟩ := s2
  refine ⟨hu3, call_vw (J.kIn _ _ hC) ho2 hu3 hlen fun h' t2 k hx => ⟨rfl, ?_⟩⟩
  have J1 := J.write (t' := t3) (x := a) (e := a) (o := exo a C none) (by rw [ea]; exact True.intro) (.inl rfl) k ⟨_, hx⟩ (exo_ok hx)
  have eu : upd H a (exo a C none) = H := by
    funext b
    by_cases hb : b = a
    · rw [hb, upd_same, ea]
    · rw [upd_ne hb]
  rw [eu] at J1
  exact J1.pins_of fun p hp => J1.pin p (List.mem_append_right _ (List.mem_cons_of_mem _ hp))
end
end DL
set_option Elab.async false
set_option linter.all false
set_option maxRecDepth 100000
set_option maxHeartbeats 4000000
/-! DL18: such an __init__ as a function, and the raise. -/
namespace DL
open PySem PySem.Spec PyProof.Rows L2 NdefX
structure FunX (K : PySem.W.Frag) (qual : Str) (st : Stmt) (file : Str) (C f : Addr) (fd : FuncData) : Prop where
  ex : ∃ (oc : Value) (od : Option Addr) (osl : Array (Option Value)) (doc pm ct : Value) (cda cc : Addr) (ccl : Value) (cld : Option Addr) (csl : Array (Option Value)),
    fd = PySem.W.fnX "__init__" qual (defArgs st) (defBody st) (defScope st) [("__class__", cc)] .none .none doc pm none (.ref cda) ct ∧ K.lookup f = some ⟨oc, od, .func fd, osl⟩ ∧ PySem.W.codeIn K (.ref cda) qual = true ∧ fileIn K cda file = true ∧
    K.lookup cc = some ⟨ccl, cld, .cell (some (.ref C)), csl⟩
  T : OexC K C
  sub : PySem.W.mroIn K C (.ref C) = some true
  th : PySem.W.nsIn K cStatics "thirdparty.any" = some none
  si : PySem.W.ks_superIn K C C "__init__" = some (some (.builtin "ValueError.__init__"))
  sB : PySem.W.subIn K (.ref C) (.type "ValueError") = some true
  iC : PySem.W.findIn K (.ref C) "__init__" = some (some (.ref f))
  tI : PySem.W.typeIn K (.ref f) = some (.type "function")
abbrev superS (m : Str) (j : Nat) (p0 p1 p2 p3 p4 p5 : Pos) : Stmt := .Expr (.Call (.Attribute (.Call (.Name "super" p0) [] [] p1) "__init__" p2) [.Constant (.str m) j p3] [] p4) p5
/-- the exception at a gets the fields fl -/
def spEx (C : Addr) (fl : List Str) : Sp := fun vs H Q E => ∃ (a : Addr) (ws : List V), vs = .ref a :: ws ∧ ws.length = fl.length ∧ H a = some (exo a C none) ∧
  ∀ (d : Addr) (H2 : Hp), H d = none → d ≠ a → H2 a = some (exo a C (some d)) → H2 d = some (exd d (fl.zip ws).reverse) → (∀ b, b ≠ a → b ≠ d → H2 b = H b) → Q .non H2
section
variable {P : Program} {w : World} {K : PySem.W.Frag} {mg : Str → Option Value} {base : Heap} {qual m : Str} {st : Stmt} {C f : Addr} {fd : FuncData} {N ps fl : List Str} {k j : Nat} {rest : List Stmt} {t : TS} {ar : Arg} {p0 p1 p2 p3 p4 p5 : Pos} {pl : Sem Bool}
theorem fnx_of (F : FunX K qual st P.main.file C f fd) (S : NScope N ps ["__class__"] (defScope st)) (hb0 : defBody st = superS m j p0 p1 p2 p3 p4 p5 :: rest) (hh : ((defArgs st).posonlyargs ++ (defArgs st).args).head? = some ar) (hps : N[0]? = some ar.arg) (hlen : ps.length = fl.length + 1)
    (hsuper : mg "super" = none) (hks : (defScope st).names.lookup ("super" : Str) = some .globalImplicit) (hka : (defScope st).names.lookup ar.arg = some .local) (htop : (P.main.scope.names.lookup ("super" : Str)).isSome = false)
    (hi : ∀ (L cda cc : Addr), interactive (PySem.W.envX qual (defScope st) L f (.ref cda) [("__class__", cc)]) = false)
    (hsw : ∀ (L cda cc : Addr), swapsWith (.Call (.Attribute (.Call (.Name "super" p0) [] [] p1) "__init__" p2) [.Constant (.str m) j p3] [] p4) none p5.line (PySem.W.envX qual (defScope st) L f (.ref cda) [("__class__", cc)]) = pure false)
    (he : ∀ (L cda cc : Addr), eval (.Call (.Attribute (.Call (.Name "super" p0) [] [] p1) "__init__" p2) [.Constant (.str m) j p3] [] p4) (PySem.W.envX qual (defScope st) L f (.ref cda) [("__class__", cc)]) = (do
      let ov ← attributeBase (.Call (.Name "super" p0) [] [] p1) "__init__" (PySem.W.envX qual (defScope st) L f (.ref cda) [("__class__", cc)]) (eval (.Call (.Name "super" p0) [] [] p1) (PySem.W.envX qual (defScope st) L f (.ref cda) [("__class__", cc)]))
      standAt p2.atName
      let (f', first) ← holding [ov] (getMethod ov "__init__" pl)
      callWith p4 f' first (backTo p4 (starEach [.Constant (.str m) j p3] (PySem.W.envX qual (defScope st) L f (.ref cda) [("__class__", cc)]))) []))
    (hrest : ∀ (F' : NF) (A : Around) (outer : List Env) (s : Shared) (H : Hp) (E : XK), F'.scope = defScope st → F'.qual = qual → PSs (ncx (L2.CX P w) P w K mg base N F' f A outer s H E) rest t)
    (ht : ∀ (D : Ends) (H : Hp) (a : Addr) (ws : List V), ws.length = fl.length → H a = some (exo a C none) →
      (∀ (σ : L2.St) (d : Addr) (H2 : Hp), H d = none → d ≠ a → H2 a = some (exo a C (some d)) → H2 d = some (exd d (fl.zip ws).reverse) → (∀ b, b ≠ a → b ≠ d → H2 b = H b) → D.nx σ H2) → t D (startF N (.ref a :: ws) [none]) H) :
    FnOk P w K mg base (L2.CX P w) (k + 1) f fd ps (spEx C fl) := by
  refine ⟨fun vs H Q E q => ?_, fun A outer s H args us vs Q E hr e0 hb r hsp => ?_⟩
  · obtain ⟨a, ws, rfl, hl, _⟩ := q
    rw [List.length_cons, hl, hlen]
  obtain ⟨oc, od, osl, doc, pm, ct, cda, cc, ccl, cld, csl, rfl, lk, hcd, hfile, hcc⟩ := F.ex
  obtain ⟨a, ws, rfl, hl, ea, hq⟩ := hsp
  have KX : K.In s.heap := e0.mod.kin.keeps fun b o e => (e0.bs b o e).1
  have lim : s.heap.NoLimit := e0.mod.nolimit.keeps fun b o e => (e0.bs b o e).1
  let F' : NF := ⟨"__init__", qual, defArgs st, defBody st, defScope st, [("__class__", cc)], cda⟩
  have Ce : CellsAt F'.cl ["__class__"] [none] s.heap H := by
    have look : ∀ (y : Str) (c : Addr), List.lookup y [(("__class__" : Str), cc)] = some c → c = cc ∧ y = "__class__" := fun y c z => by
      simp only [List.lookup_cons, List.lookup_nil] at z
      split at z
      · rename_i q
        cases z
        exact ⟨rfl, by simpa using q⟩
      · cases z
    refine ⟨rfl, fun y c z => ?_, fun x y c z1 z2 => (look _ _ z1).2.trans (look _ _ z2).2.symm, fun i y z => ?_⟩
    · obtain ⟨rfl, _⟩ := look _ _ z
      exact ⟨(e0.bs _ _ (e0.mod.kin _ _ hcc)).2, _, _, KX _ _ hcc, rfl⟩
    · cases i with
      | succ i => simp at z
      | zero =>
        have z : some ("__class__" : Str) = some y := z
        cases z
        exact ⟨cc, by simp [F'], fun v z2 => by cases z2⟩
  refine codeAny_call_function hr.depth (KX _ _ lk) rfl S.co S.gen rfl (PySem.W.codeRec_of KX hcd) (hb _ _ _ _ ?_)
  refine wpAny_newFunctionEnv S.nocell (fun ⟨n, _⟩ hy => S.par n (List.of_mem_zip hy).1) (fun h₁ hns hsb => ⟨lim.fresh _ hsb, ?_⟩) S.kind
  show codeAny _ _ (.func (defBody st) (envF F' f s.heap.objs.size)) _ _
  have kp : ∀ b o, s.heap.get? b = some o → h₁.get? b = some o := fun b o e => hsb.extBut b o (Nat.ne_of_lt (Heap.lt_size e)) (Heap.get?_push_of_some _ e)
  have I : Inv (ncx (L2.CX P w) P w K mg base N F' f A outer s H E) [] (startF N (.ref a :: ws) [none]) H { s with heap := h₁, toks := s.toks + (ps.zip us).length } := inv_startN S hr.hd e0 (by rw [List.length_cons, hl, hlen]) r Ce hns kp
  refine ks_codeAny_funcAt ?_
  rw [hb0]
  refine ks_wpAt_execs_cons ?_
  refine ks_wpAt_mono (wp_superInit (ar := ar) (X := ncx (L2.CX P w) P w K mg base N F' f A outer s H E) I lk rfl hh rfl hfile rfl hcc F.T F.sub hsuper hks (S.frk _ (List.mem_cons_self ..)) hka htop F.th F.si F.sB hps rfl ea (hi _ _ _) (hsw _ _ _) (he _ _ _) rfl) (fun fl0 s' hs => ?_) fun e s' hs => hs
  obtain ⟨rfl, J⟩ := hs
  refine wpAt_of_wpAny (wpAny_mono ((hrest F' A outer s H E rfl rfl).run [] s' _ H { nx := fun _ H' => Q .non H', rt := Q } J (ht _ _ _ _ hl ea fun σ d H2 => hq d H2)) (fun fl2 s2 hs => ?_) fun e s2 hs => hs)
  have fin : ∀ {σ' : L2.St} {H' : Hp} {v : V} {u : Value}, Inv (ncx (L2.CX P w) P w K mg base N F' f A outer s H E) [] σ' H' s2 → L2.RelV v u → Q v H' → CE outer P w H s Q u s2 :=
    fun {σ' H' v u} J rv q => ⟨v, H', J.os, J.bare, J.base, J.hok, rv, q⟩
  cases fl2 with
  | ret u =>
    obtain ⟨v, σ', H', J, rv, q⟩ := hs
    exact fin J rv q
  | next =>
    obtain ⟨σ', H', J, q⟩ := hs
    exact fin (v := V.non) (u := Value.none) J rfl q
  | brk =>
    obtain ⟨_, _, _, q⟩ := hs
    exact False.elim q
  | cont =>
    obtain ⟨_, _, _, q⟩ := hs
    exact False.elim q
end
/-! ### what such an exception's fields may be -/
theorem rep_atm {K : PySem.W.Frag} {mg : Str → Option Value} {F F' : Hp} {v : V} {d : D} (h : d.flat = true) (r : Rep K mg F v d) : Rep K mg F' v d := by
  cases r with
  | non => exact .non
  | bl b => exact .bl b
  | int i => exact .int i
  | str x => exact .str x
  | lst a b => cases h
  | tup a b => cases h
  | obj a b c d => cases h
theorem repAll_atm {K : PySem.W.Frag} {mg : Str → Option Value} {F F' : Hp} : ∀ {vs : List V} {ds : List D}, ds.all D.flat = true → RepAll K mg F vs ds → RepAll K mg F' vs ds
  | _, _, _, .nil => .nil
  | _, _, h, .cons a b => by
    rw [List.all_cons, Bool.and_eq_true] at h
    exact .cons (rep_atm h.1 a) (repAll_atm h.2 b)
/-- raise c(..), c's __init__ keeping its arguments as the fields fl -/
def sRaise (c : Str) (fl : List Str) (g : DEnv → Res (List D)) : DEnv → SRes := fun ρ => after (g ρ) ρ fun ds => if ds.length = fl.length ∧ ds.length ≤ 1000 ∧ ds.all D.flat = true then .er ⟨c, fl.reverse, ds.reverse⟩ ρ else .st
section
variable {X : Cx} {fr : Bool} {We : WeX} {S : List Nat} {c : Str} {fl ps : List Str} {C f : Addr} {fd : FuncData} {k : Nat} {qual : Str} {st : Stmt} {file : Str} {e : PySem.Expr} {es : List PySem.Expr} {g : DEnv → Res (List D)} {p pos pos2 : Pos}
theorem zip_fst : ∀ {fl : List Str} {ws : List V}, ws.length = fl.length → (fl.zip ws).map (·.1) = fl
  | [], [], _ => rfl
  | a :: l, b :: m, h => by rw [List.zip_cons_cons, List.map_cons, zip_fst (by simpa using h)]
theorem zip_snd : ∀ {fl : List Str} {ws : List V}, ws.length = fl.length → (fl.zip ws).map (·.2) = ws
  | [], [], _ => rfl
  | a :: l, b :: m, h => by rw [List.zip_cons_cons, List.map_cons, zip_snd (by simpa using h)]
theorem sd_raise (hc : X.calm = true) (tk : Takes X We.w) (F : FunX X.K qual st file C f fd) (F1 : FnOk X.prog X.w X.K X.mg X.base (L2.CX X.prog X.w) k f fd ps (spEx C fl)) {kk : Nat} (hr : Room kk X.A) (hjk : k + 1 ≤ kk) (hb : Binds X.K fd ps []) (hg : Gl X c) (hm : X.mg c = some (.ref C)) (ha : PAD X We S (e :: es) g)
    (hdb : (c == ("__debug__" : Str)) = false := by decide) (he : starEach (e :: es) X.env = (false, eval e X.env) :: starEach es X.env := by rfl) (hpl : (backTo pos (starEach es X.env)).any (·.1) = false := by rfl) :
    SD X fr We (.Raise (some (.Call (.Name c p) (e :: es) [] pos)) none pos2) (sRaise c fl g) :=
  ps_imp (ps_raise hc tk (pmk_oex (dvs := []) F.T F.iC F.tI F1 (hr.mono hjk) hb .nil (passes_call takes0 fun _ _ _ _ z => z) hg hm ha hdb he hpl)) fun E σ H ⟨B, F0, ρ, e0, h⟩ => OutS.eval e0 h fun Fp F' H1 vs ds hf hg2 ex r e1 ⟨F2, e2, l, s2⟩ => by
    by_cases hz : ds.length = fl.length ∧ ds.length ≤ 1000 ∧ ds.all D.flat = true
    · have hg2 : OutS X.K X.mg fr We B E (if ds.length = fl.length ∧ ds.length ≤ 1000 ∧ ds.all D.flat = true then .er ⟨c, fl.reverse, ds.reverse⟩ ρ else .st) := hg2
      rw [if_pos hz] at hg2
      have r : RepAll X.K X.mg F' vs ds := r
      have hl := r.length
      refine ⟨by omega, fun a na => ⟨a, vs, by rw [List.append_nil], by omega, upd_same, fun d H2 nd dne q1 q2 q3 => ⟨rfl, d, _, q1, q2, ?_, ?_⟩⟩⟩
      · rw [upd_ne dne] at nd; exact nd
      · have nd1 : H1 d = none := by rw [upd_ne dne] at nd; exact nd
        have sm : Same H1 (upd (del H2 a) d (.xd (fl.zip vs).reverse)) := fun b o q => by
          have ba : b ≠ a := ne_of_none q na
          have bd : b ≠ d := ne_of_none q nd1
          rw [upd_ne bd, del_ne ba, q3 b ba bd, upd_ne ba]
          exact q
        refine hg2 F2 σ _ C (some d) (e2.heap sm) hm (.inr ⟨d, _, rfl, e2.hh.free nd1, upd_same, ?_, ?_⟩)
        · rw [List.map_reverse, zip_fst (by omega)]
        · rw [List.map_reverse, zip_snd (by omega)]
          exact (repAll_atm hz.2.2 r).reverse
    · have hg2 : OutS X.K X.mg fr We B E (if ds.length = fl.length ∧ ds.length ≤ 1000 ∧ ds.all D.flat = true then .er ⟨c, fl.reverse, ds.reverse⟩ ρ else .st) := hg2
      rw [if_neg hz] at hg2; exact hg2.elim
end
/-! ### self.f = f -/
abbrev keepS (fl : Str) (q1 q2 q3 q4 : Pos) : Stmt := .Assign [.Attribute (.Name "self" q1) fl q2] (.Name fl q3) q4
section
variable {CX : CXT} {P : Program} {w : World} {K : PySem.W.Frag} {mg : Str → Option Value} {base : Heap} {N : List Str} {F' : NF} {f C : Addr} {A : Around} {outer : List Env} {s : Shared} {H : Hp} {E : XK} {fl x1 x2 : Str} {q1 q2 q3 q4 q5 q6 q7 q8 : Pos} {sc : Scope}
theorem keep1 (e : F'.scope = sc) (n0 : N[0]? = some ("self" : Str)) (n1 : N[1]? = some x1) (k0 : sc.names.lookup ("self" : Str) = some .local) (k1 : sc.names.lookup x1 = some .local) (hs : swapsWith (.Name x1 q3) (some (.Attribute (.Name "self" q1) x1 q2)) q4.line (envF F' f s.heap.objs.size) = pure false)
    (d1 : (x1 == ("__debug__" : Str)) = false := by decide) (d2 : (x1 == ("__classdict__" : Str)) = false := by decide) : PSs (ncx CX P w K mg base N F' f A outer s H E) [keepS x1 q1 q2 q3 q4] (tOst K x1 (tVar 0) (tVar 1)) := by
  subst e
  exact pss_one (ps_ost (pe_var n0 (.inl k0) (by decide) (by decide)) (pe_var n1 (.inl k1) d1 d2) hs)
theorem keep1_t (T : OexC K C) (hno : PySem.W.findIn K (.ref C) x1 = some none) (D : Ends) (H : Hp) (a : Addr) (ws : List V) (hl : ws.length = [x1].length) (ea : H a = some (exo a C none))
    (h : ∀ (σ : L2.St) (d : Addr) (H2 : Hp), H d = none → d ≠ a → H2 a = some (exo a C (some d)) → H2 d = some (exd d ([x1].zip ws).reverse) → (∀ b, b ≠ a → b ≠ d → H2 b = H b) → D.nx σ H2) : tOst K x1 (tVar 0) (tVar 1) D (startF N (.ref a :: ws) [none]) H := by
  obtain ⟨y, rfl⟩ : ∃ y, ws = [y] := by
    cases ws with
    | nil => simp at hl
    | cons y r => cases r with
      | nil => exact ⟨y, rfl⟩
      | cons z r => simp at hl
  refine ⟨y, rfl, .ref a, rfl, a, C, rfl, T, hno, .inl ⟨ea, fun dx n ne => h _ dx _ n ne upd_same ?_ fun b b1 b2 => ?_⟩⟩
  · rw [upd_ne ne, upd_same]; rfl
  · rw [upd_ne b1, upd_ne b2]
theorem keep2 (e : F'.scope = sc) (n0 : N[0]? = some ("self" : Str)) (n1 : N[1]? = some x1) (n2 : N[2]? = some x2) (k0 : sc.names.lookup ("self" : Str) = some .local) (k1 : sc.names.lookup x1 = some .local) (k2 : sc.names.lookup x2 = some .local)
    (hs : swapsWith (.Name x1 q3) (some (.Attribute (.Name "self" q1) x1 q2)) q4.line (envF F' f s.heap.objs.size) = pure false) (hs2 : swapsWith (.Name x2 q7) (some (.Attribute (.Name "self" q5) x2 q6)) q8.line (envF F' f s.heap.objs.size) = pure false)
    (d1 : (x1 == ("__debug__" : Str)) = false := by decide) (d2 : (x1 == ("__classdict__" : Str)) = false := by decide) (d3 : (x2 == ("__debug__" : Str)) = false := by decide) (d4 : (x2 == ("__classdict__" : Str)) = false := by decide) :
    PSs (ncx CX P w K mg base N F' f A outer s H E) [keepS x1 q1 q2 q3 q4, keepS x2 q5 q6 q7 q8] (tSeq (tOst K x1 (tVar 0) (tVar 1)) (tOst K x2 (tVar 0) (tVar 2))) := by
  subst e
  exact pss_cons (ps_ost (pe_var n0 (.inl k0) (by decide) (by decide)) (pe_var n1 (.inl k1) d1 d2) hs) (pss_one (ps_ost (pe_var n0 (.inl k0) (by decide) (by decide)) (pe_var n2 (.inl k2) d3 d4) hs2))
theorem keep2_t (T : OexC K C) (hno : PySem.W.findIn K (.ref C) x1 = some none) (hno2 : PySem.W.findIn K (.ref C) x2 = some none) (D : Ends) (H : Hp) (a : Addr) (ws : List V) (hl : ws.length = [x1, x2].length) (ea : H a = some (exo a C none))
    (h : ∀ (σ : L2.St) (d : Addr) (H2 : Hp), H d = none → d ≠ a → H2 a = some (exo a C (some d)) → H2 d = some (exd d ([x1, x2].zip ws).reverse) → (∀ b, b ≠ a → b ≠ d → H2 b = H b) → D.nx σ H2) : tSeq (tOst K x1 (tVar 0) (tVar 1)) (tOst K x2 (tVar 0) (tVar 2)) D (startF N (.ref a :: ws) [none]) H := by
  obtain ⟨y, z, rfl⟩ : ∃ y z, ws = [y, z] := by
    cases ws with
    | nil => simp at hl
    | cons y r => cases r with
      | nil => simp at hl
      | cons z r => cases r with
        | nil => exact ⟨y, z, rfl⟩
        | cons u r => simp at hl
  refine ⟨y, rfl, .ref a, rfl, a, C, rfl, T, hno, .inl ⟨ea, fun dx n ne => ?_⟩⟩
  refine ⟨z, rfl, .ref a, rfl, a, C, rfl, T, hno2, .inr ⟨dx, [(x1, y)], upd_same, by rw [upd_ne ne, upd_same], (by decide : (1:Nat) ≤ 900), h _ dx _ n ne ?_ ?_ fun b b1 b2 => ?_⟩⟩
  · rw [upd_ne (Ne.symm ne), upd_same]
  · rw [upd_same]; rfl
  · rw [upd_ne b2, upd_ne b1, upd_ne b2]
end
/-! ### raise c('text'), c without own __init__ -/
def sRaise0 (c : Str) : DEnv → SRes := fun ρ => .er ⟨c, [], []⟩ ρ
section
variable {X : Cx} {fr : Bool} {We : WeX} {c m : Str} {C : Addr} {j : Nat} {p p2 pos pos2 : Pos} {bmB : List Value} {Bn newId initId : String}
theorem sd_raise0 (hc : X.calm = true) (tk : Takes X We.w) (F : ExcBaseFacts Bn newId initId bmB) (q : PySem.W.excIn X.K C bmB newId = true) (hm : X.mg c = some (.ref C)) (kC : PySem.W.keepIn X.K (.ref C) = true) (exC : PySem.W.subIn X.K (.ref C) (.type "BaseException") = some true) (tyC : PySem.W.typeIn X.K (.ref C) = some (.type "type"))
    (hg : Gl X c) (hdb : (c == ("__debug__" : Str)) = false := by decide) : SD X fr We (.Raise (some (.Call (.Name c p) [.Constant (.str m) j p2] [] pos)) none pos2) (sRaise0 c) :=
  ps_imp (ps_raise hc tk (pmk_own F q hm kC (raises_own exC tyC) hg hdb)) fun E σ H ⟨B, F0, ρ, e0, h⟩ => h F0 σ H C none e0 hm (.inl ⟨rfl, rfl⟩)
end
/-! ### the facts, as tests -/
def oexIn (K : PySem.W.Frag) (C : Addr) : Bool := match K.lookup C with
  | some ⟨.type "type", _, .cls cd, sl⟩ => (match cd.mro, sl.toList with
    | .ref C' :: bm, [_, _, _, _, some (.builtin n), _] => C' == C && n == "ValueError.__new__" && !cd.hasDel && cd.hasDict && PySem.HandSPX.refsVE bm
    | _, _ => false)
  | _ => false
theorem oexC_by {K : PySem.W.Frag} {C : Addr} (q : oexIn K C = true) (sa : PySem.W.findIn K (.ref C) "__setattr__" = some (some (.builtin "object.__setattr__"))) (exC : PySem.W.subIn K (.ref C) (.type "BaseException") = some true) (tyC : PySem.W.typeIn K (.ref C) = some (.type "type")) (kC : PySem.W.keepIn K (.ref C) = true) : OexC K C := by
  refine ⟨?_, sa, exC, tyC, kC⟩
  unfold oexIn at q
  split at q
  · rename_i dd cd sl ho
    split at q
    · rename_i C' bm k0 k1 k2 k3 n k5 hm hs
      simp only [Bool.and_eq_true, beq_iff_eq, Bool.not_eq_true'] at q
      obtain ⟨⟨⟨⟨rfl, rfl⟩, hdel⟩, hdct⟩, hv⟩ := q
      obtain ⟨nm, bs, mro, ns, qn, hd, sn, sub, ab, col, del⟩ := cd
      dsimp only at hm hdel hdct
      subst hm hdel hdct
      have hsl : sl = #[k0, k1, k2, k3, some (.builtin "ValueError.__new__"), k5] := by
        obtain ⟨l⟩ := sl
        simp only at hs
        rw [hs]
      subst hsl
      exact ⟨nm, qn, ns, bs, bm, sn, sub, ab, col, dd, k0, k1, k2, k3, k5, ho, hv⟩
    · cases q
  · cases q
theorem funX_mk {K : PySem.W.Frag} {qual : Str} {st : Stmt} {file : Str} {C f cda cc : Addr} {oc doc pm ct ccl : Value} {od cld : Option Addr} {osl csl : Array (Option Value)}
    (l : K.lookup f = some ⟨oc, od, .func (PySem.W.fnX "__init__" qual (defArgs st) (defBody st) (defScope st) [("__class__", cc)] .none .none doc pm none (.ref cda) ct), osl⟩) (c : PySem.W.codeIn K (.ref cda) qual = true) (fi : fileIn K cda file = true) (l2 : K.lookup cc = some ⟨ccl, cld, .cell (some (.ref C)), csl⟩)
    (T : OexC K C) (sub : PySem.W.mroIn K C (.ref C) = some true) (th : PySem.W.nsIn K cStatics "thirdparty.any" = some none) (si : PySem.W.ks_superIn K C C "__init__" = some (some (.builtin "ValueError.__init__"))) (sB : PySem.W.subIn K (.ref C) (.type "ValueError") = some true)
    (iC : PySem.W.findIn K (.ref C) "__init__" = some (some (.ref f))) (tI : PySem.W.typeIn K (.ref f) = some (.type "function")) :
    FunX K qual st file C f (PySem.W.fnX "__init__" qual (defArgs st) (defBody st) (defScope st) [("__class__", cc)] .none .none doc pm none (.ref cda) ct) :=
  ⟨⟨oc, od, osl, doc, pm, ct, cda, cc, ccl, cld, csl, rfl, l, c, fi, l2⟩, T, sub, th, si, sB, iC, tI⟩
theorem FunX.binds {K : PySem.W.Frag} {qual : Str} {st : Stmt} {file : Str} {C f : Addr} {fd : FuncData} {ps : List Str} (F : FunX K qual st file C f fd)
    (h : ∀ (doc pm ct : Value) (cda cc : Addr) (us : List Value), us.length = ps.length → bindArgs (PySem.W.fnX "__init__" qual (defArgs st) (defBody st) (defScope st) [("__class__", cc)] .none .none doc pm none (.ref cda) ct) ⟨us, []⟩ = pure (ps.zip us)) : Binds K fd ps [] := by
  obtain ⟨oc, od, osl, doc, pm, ct, cda, cc, ccl, cld, csl, rfl, _⟩ := F.ex
  exact .all (h doc pm ct cda cc)
/-- the tests on what the lookup told -/
def oexOk (C : Addr) (cd : ClassData) (sl : Array (Option Value)) : Bool := match cd.mro, sl.toList with
  | .ref C' :: bm, [_, _, _, _, some (.builtin n), _] => C' == C && n == "ValueError.__new__" && !cd.hasDel && cd.hasDict && PySem.HandSPX.refsVE bm
  | _, _ => false
theorem oexIn_by {K : PySem.W.Frag} {C : Addr} {dd : Option Addr} {cd : ClassData} {sl : Array (Option Value)} (h : K.lookup C = some ⟨.type "type", dd, .cls cd, sl⟩) (q : oexOk C cd sl = true) : oexIn K C = true := by
  unfold oexIn
  rw [h]
  exact q
theorem fileIn_by {K : PySem.W.Frag} {c : Addr} {file : Str} {oc : Value} {od : Option Addr} {vs : Array Value} {sl : Array (Option Value)} {t : Tok} (h : K.lookup c = some ⟨oc, od, .fields vs, sl⟩) (q : vs[2]? = some (.str file t)) : fileIn K c file = true := by
  unfold fileIn
  rw [h]
  dsimp only
  rw [q]
  exact beq_self_eq_true _
end DL
set_option Elab.async false
set_option linter.all false
set_option maxRecDepth 100000
set_option maxHeartbeats 1000000
/-! SA: tables of sets of up to 306 elements, by hashes alone (the kit's TabOk ends at 127 slots). -/
namespace SS
open PySem PySem.Spec PyProof.Rows L2

def Msk (m : Nat) : Prop := MaskOk m ∨ m = 511
theorem Msk.odd {m : Nat} (q : Msk m) : m % 2 = 1 := by
  rcases q with q | rfl
  · exact mask_odd q
  · rfl
theorem Msk.le {m : Nat} (q : Msk m) : m ≤ 511 := by
  rcases q with (rfl | rfl | rfl) | rfl <;> decide
/-- n numbers from i on -/
def orb (m : Nat) : Nat → Nat → List Nat
  | 0, _ => []
  | n + 1, i => i :: orb m n ((i * 5 + 1) % (m + 1))
theorem orb_mem (m : Nat) : ∀ (n a j : Nat), j ∈ orb m n (lcgN m a) → ∃ k, k < n ∧ lcgN m (a + k) = j
  | 0, _, _, q => by cases q
  | n + 1, a, j, q => by
    have q : j ∈ lcgN m a :: orb m n (lcgN m (a + 1)) := q
    cases q with
    | head => exact ⟨0, by omega, rfl⟩
    | tail _ q =>
      obtain ⟨k, k1, k2⟩ := orb_mem m n (a + 1) j q
      exact ⟨k + 1, by omega, by rw [← k2]; congr 1; omega⟩
theorem orb511 : ((List.range 512).all fun j => (orb 511 512 0).contains j) = true := by decide +kernel
theorem end511 : lcgN 511 512 = 0 := by decide +kernel
theorem Msk.each {m : Nat} (q : Msk m) {j : Nat} (hj : j ≤ m) : ∃ b, b ≤ m ∧ lcgN m b = j := by
  rcases q with q | rfl
  · exact lcg_all q hj
  · have z := List.all_eq_true.mp orb511 j (List.mem_range.mpr (by omega))
    have z : j ∈ orb 511 512 0 := by simpa using z
    obtain ⟨k, k1, k2⟩ := orb_mem 511 512 0 j z
    exact ⟨k, by omega, by rw [← k2, Nat.zero_add]⟩
theorem Msk.back {m : Nat} (q : Msk m) (k : Nat) : lcgN m (m + 1 + k) = lcgN m k := by
  induction k with
  | zero =>
    rcases q with q | rfl
    · exact lcg_round q
    · exact end511
  | succ k ih => exact congrArg (fun z => (z * 5 + 1) % (m + 1)) ih
theorem Msk.from {m : Nat} (q : Msk m) {i j : Nat} (hi : i ≤ m) (hj : j ≤ m) : ∃ k, k ≤ m ∧ lcgI m i k = j := by
  obtain ⟨a, a1, rfl⟩ := q.each hi
  obtain ⟨b, b1, rfl⟩ := q.each hj
  by_cases c : a ≤ b
  · exact ⟨b - a, by omega, by rw [lcgN_add, Nat.add_sub_cancel' c]⟩
  · exact ⟨m + 1 + b - a, by omega, by rw [lcgN_add, show a + (m + 1 + b - a) = m + 1 + b by omega, q.back]⟩
theorem Msk.run {m : Nat} (q : Msk m) (h : Int) {j : Nat} (hj : j ≤ m) : ∃ n, n ≤ m + 12 ∧ runI m (SetTable.bits h) n = j := by
  obtain ⟨k, k1, k2⟩ := q.from (runI_le m (SetTable.bits h) 12) hj
  exact ⟨12 + k, by omega, (runI_tail (bits_lt h) k).trans k2⟩
abbrev stt (m : Nat) (h : Int) : SetTable.Probe := runAt m (SetTable.bits h % (m + 1)) (SetTable.bits h)
theorem Msk.met {m : Nat} (q : Msk m) (h : Int) {j : Nat} (hj : j ≤ m) : ∃ k, k < 10 * SetTable.turns m ∧ way m h k = j := by
  obtain ⟨n, n1, n2⟩ := q.run h hj
  obtain ⟨k, k1, k2⟩ := run_nth m (SetTable.bits h) n
  exact ⟨k, by unfold SetTable.turns; omega, by show (nth m (stt m h) k).j = j; rw [k2]; exact n2⟩
theorem way_in (m : Nat) (h : Int) (k : Nat) : way m h k ≤ m := by
  have b0 : SetTable.bits h % (m + 1) ≤ m := Nat.le_of_lt_succ (Nat.mod_lt _ (by omega))
  have b1 := runEnd_bd b0
  have b2 : (nth m (stt m h) k).j + (nth m (stt m h) k).more ≤ m := nth_in k (stt m h) (by
    change SetTable.bits h % (m + 1) + (SetTable.runEnd m (SetTable.bits h % (m + 1)) - SetTable.bits h % (m + 1)) ≤ m
    omega)
  exact Nat.le_trans (Nat.le_add_right _ _) b2

/-- a table whose elements have the hashes hs -/
structure Tb (t : SetTable) (hs : List Int) : Prop where
  up : Ris t.place.toList
  nodum : t.dummies = #[]
  num : t.place.size = hs.length
  msk : Msk t.mask
  top : ∀ x ∈ t.place.toList, x ≤ t.mask
  road : ∀ (i : Nat) (h : Int) (j : Nat), hs[i]? = some h → t.place.toList[i]? = some j → ∃ k, way t.mask h k = j ∧ ∀ c, c < k → way t.mask h c ∈ t.place.toList
section
variable {t : SetTable} {hs : List Int} {h : Int} {K : Nat}
theorem Tb.free (T : Tb t hs) (hl : hs.length ≤ t.mask) (h : Int) : ∃ K, K < 10 * SetTable.turns t.mask ∧ way t.mask h K ∉ t.place.toList ∧ ∀ c, c < K → way t.mask h c ∈ t.place.toList := by
  obtain ⟨j, j1, j2⟩ := st_missing t.place.toList (t.mask + 1) (by rw [Array.length_toList, T.num]; omega)
  obtain ⟨k, k1, k2⟩ := T.msk.met h (Nat.le_of_lt_succ j1)
  obtain ⟨K, z1, z2, z3⟩ := st_least (p := fun c => way t.mask h c ∉ t.place.toList) k (fun z => j2 (k2 ▸ z))
  exact ⟨K, by omega, z2, fun c hc => Classical.byContradiction (z3 c hc)⟩
theorem Tb.ahead (T : Tb t hs) {i j : Nat} (hK : way t.mask h K ∉ t.place.toList) (hi : hs[i]? = some h) (hj : t.place.toList[i]? = some j) : ∃ k, k < K ∧ way t.mask h k = j := by
  obtain ⟨k, k1, k2⟩ := T.road i h j hi hj
  refine ⟨k, Nat.lt_of_not_le fun z => hK ?_, k1⟩
  rcases Nat.eq_or_lt_of_le z with z | z
  · rw [z, k1]; exact List.mem_of_getElem? hj
  · exact k2 K z
/-- one is put in at the free end of its way -/
theorem Tb.ins (T : Tb t hs) (hK : way t.mask h K ∉ t.place.toList) (hb : ∀ c, c < K → way t.mask h c ∈ t.place.toList) (p : Nat) (hp : SetTable.below t.place (way t.mask h K) = p) :
    p ≤ hs.length ∧ Tb (t.put (way t.mask h K)).1 (hs.take p ++ h :: hs.drop p) ∧ (t.put (way t.mask h K)).1.fill = hs.length + 1 := by
  have hm := way_in t.mask h K
  generalize hj : way t.mask h K = j at hK hm hp ⊢
  have cut := (below_cut T.up j).1
  rw [hp] at cut
  have ph : p ≤ hs.length := by rw [← T.num]; exact cut
  have pl : p ≤ t.place.toList.length := by rw [Array.length_toList]; exact cut
  have lay : (t.put j).1.place.toList = t.place.toList.take p ++ j :: t.place.toList.drop p := by rw [put_place, hp]
  have num : (t.put j).1.place.size = hs.length + 1 := by
    rw [← Array.length_toList, lay, len_ins _ pl, Array.length_toList, T.num]
  have kept : ∀ x ∈ t.place.toList, x ∈ (t.put j).1.place.toList := fun x hx => by rw [lay]; exact mem_ins.mpr (.inr hx)
  have nn : t.place[SetTable.below t.place j]? ≠ some j := fun z => by
    rw [← Array.getElem?_toList] at z
    exact hK (List.mem_of_getElem? z)
  refine ⟨ph, ⟨ris_insert T.up nn, put_dm T.nodum j, by rw [len_ins _ ph]; exact num, T.msk, fun x hx => ?_, fun i h' j' a b => ?_⟩, ?_⟩
  · rw [lay] at hx
    rcases mem_ins.mp hx with rfl | hx
    · exact hm
    · exact T.top x hx
  · rw [tins_get hs ph] at a
    rw [lay, tins_get _ pl] at b
    change ∃ k, way t.mask h' k = j' ∧ ∀ c, c < k → way t.mask h' c ∈ (t.put j).1.place.toList
    split at a
    · rename_i g
      rw [if_pos g] at b
      obtain ⟨k, k1, k2⟩ := T.road i h' j' a b
      exact ⟨k, k1, fun c hc => kept _ (k2 c hc)⟩
    · rename_i g
      rw [if_neg g] at b
      split at a
      · rename_i g2
        rw [if_pos g2] at b
        cases a
        cases b
        exact ⟨K, hj, fun c hc => kept _ (hb c hc)⟩
      · rename_i g2
        rw [if_neg g2] at b
        obtain ⟨k, k1, k2⟩ := T.road (i - 1) h' j' a b
        exact ⟨k, k1, fun c hc => kept _ (k2 c hc)⟩
  · change (t.put j).1.place.size + (t.put j).1.dummies.size = hs.length + 1
    rw [num, put_dm T.nodum j]
    rfl
end
/-! ### laid anew -/
theorem lay_free {m : Nat} (q : Msk m) (ow : Array (Option Nat)) (h : Int) {j : Nat} (hj : j ≤ m) (e : oAt ow j = none) :
    ∃ K, SetTable.layClean.free m ow (SetTable.turns m) (SetTable.bits h % (m + 1)) (SetTable.bits h) = some (way m h K) ∧ oAt ow (way m h K) = none ∧ ∀ c, c < K → oAt ow (way m h c) ≠ none := by
  obtain ⟨n, n1, n2⟩ := q.run h hj
  have at_n : way m h (off m (SetTable.bits h % (m + 1)) (SetTable.bits h) n) = j := by
    change (nth m (stt m h) (off m (SetTable.bits h % (m + 1)) (SetTable.bits h) n)).j = j
    rw [nth_off, itL_run]
    exact n2
  obtain ⟨K, z1, z2, z3⟩ := st_least (p := fun c => oAt ow (way m h c) = none) _ (at_n.symm ▸ e : oAt ow (way m h (off m (SetTable.bits h % (m + 1)) (SetTable.bits h) n)) = none)
  refine ⟨K, free_spec m ow _ n _ _ K (by unfold SetTable.turns; omega) z1 (fun c hc => ?_) ?_, z2, z3⟩
  · exact Option.isNone_eq_false_iff.mpr (Option.isSome_iff_ne_none.mpr (z3 c hc))
  · exact Option.isNone_iff_eq_none.mpr z2
theorem own_next {m : Nat} (q : Msk m) {done : List Int} {ow : Array (Option Nat)} (W : Own m done ow) (hl : done.length ≤ m) (h : Int) :
    ∃ j, SetTable.layClean.free m ow (SetTable.turns m) (SetTable.bits h % (m + 1)) (SetTable.bits h) = some j ∧ Own m (done ++ [h]) (ow.setIfInBounds j (some done.length)) := by
  obtain ⟨ps, l, mem⟩ := W.ps
  obtain ⟨j0, g0, g1⟩ := st_missing ps (m + 1) (by omega)
  have e0 : oAt ow j0 = none := Classical.byContradiction fun z => g1 (mem j0 (by omega) z)
  obtain ⟨K, f1, f2, f3⟩ := lay_free q ow h (Nat.le_of_lt_succ g0) e0
  have hm := way_in m h K
  have hself := oAt_set_self (owner := ow) (some done.length) (j := way m h K) (by rw [W.sz]; omega)
  have stays : ∀ i, oAt ow i ≠ none → oAt (ow.setIfInBounds (way m h K) (some done.length)) i ≠ none := fun i hi => by
    by_cases c : i = way m h K
    · rw [c, hself]; simp
    · rw [oAt_set_ne _ c]; exact hi
  refine ⟨_, f1, ⟨by rw [Array.size_setIfInBounds, W.sz], fun j k hj e => ?_, fun k hk => ?_, ⟨way m h K :: ps, by simp [l], fun j hj e => ?_⟩⟩⟩
  · by_cases c : j = way m h K
    · rw [c, hself] at e
      cases e
      exact ⟨h, K, by simp, c.symm, fun k' hk' => stays _ (f3 k' hk')⟩
    · rw [oAt_set_ne _ c] at e
      obtain ⟨h', K', w1, w2, w3⟩ := W.at_ j k hj e
      exact ⟨h', K', by rw [List.getElem?_append_left (List.getElem?_eq_some_iff.mp w1).1, w1], w2, fun k' hk' => stays _ (w3 k' hk')⟩
  · simp only [List.length_append, List.length_singleton] at hk
    by_cases c : k = done.length
    · exact ⟨_, hm, by rw [hself, c]⟩
    · obtain ⟨j, hj, e⟩ := W.all k (by omega)
      refine ⟨j, hj, ?_⟩
      rw [oAt_set_ne _ (fun z => by rw [z, f2] at e; cases e)]
      exact e
  · by_cases c : j = way m h K
    · rw [c]; simp
    · rw [oAt_set_ne _ c] at e
      exact List.mem_cons_of_mem _ (mem j hj e)
theorem own_fold {m : Nat} (q : Msk m) : ∀ (rest done : List Int) (ow : Array (Option Nat)), Own m done ow → done.length + rest.length ≤ m →
    ∃ ow2, rest.foldl (stepF m) (some (ow, done.length)) = some (ow2, (done ++ rest).length) ∧ Own m (done ++ rest) ow2
  | [], done, ow, W, _ => ⟨ow, by simp, by simpa using W⟩
  | h :: rest, done, ow, W, hl => by
    simp only [List.length_cons] at hl
    obtain ⟨j, e, W1⟩ := own_next q W (by omega) h
    obtain ⟨ow2, f, W2⟩ := own_fold q rest (done ++ [h]) _ W1 (by simp; omega)
    simp only [List.append_assoc, List.singleton_append, List.length_append, List.length_singleton] at f W2
    refine ⟨ow2, ?_, W2⟩
    rw [List.foldl_cons, stepF_some e, f]
    simp only [List.length_append]
theorem clean {m : Nat} (q : Msk m) {hs : Array Int} (hn : hs.size ≤ m) : ∃ ow, SetTable.layClean m hs = some ow ∧ Own m hs.toList ow := by
  obtain ⟨ow, f, W⟩ := own_fold q hs.toList [] _ (Own.init m) (by simpa using hn)
  refine ⟨ow, ?_, by simpa using W⟩
  rw [layClean_eq]
  exact congrArg (Option.map (·.1)) f
theorem relaid' (t : SetTable) {hs : Array Int} {wanted M : Nat} (hw : SetTable.sizeAbove wanted - 1 = M) (q : Msk M) (hn : hs.size ≤ M) :
    ∃ t' order, t.relaid hs wanted = some (t', order) ∧ order.toList.Perm (List.range hs.size) ∧ Tb t' (order.toList.map fun i => hs.getD i 0) ∧ t'.mask = M ∧ t'.led = t.led ∧ t'.plain = t.plain := by
  obtain ⟨ow, e, W⟩ := clean q hn
  have hr : t.relaid hs wanted = some (tabOf t M ow, ((liveOf M ow).map (·.2)).toArray) := by
    rw [relaid_eq, hw, e]
    rfl
  obtain ⟨u1, u2⟩ := ris_live (fun j => ow.getD j none) (List.range (M + 1)) (show List.Pairwise (· < ·) _ from List.pairwise_lt_range)
  have u1 : Ris ((liveOf M ow).map (·.1)) := u1
  have nd : ((liveOf M ow).map (·.1)).Nodup := u1.imp fun z => Nat.ne_of_lt z
  have le1 : ∀ x ∈ (liveOf M ow).map (·.1), x ≤ M := fun x hx => by
    have := List.mem_range.mp (u2 x hx)
    omega
  have all : ∀ k, k < hs.size → k ∈ (liveOf M ow).map (·.2) := fun k hk => by
    obtain ⟨j, b1, b2⟩ := W.all k (by rw [Array.length_toList]; exact hk)
    exact List.mem_map.mpr ⟨(j, k), (mem_live W.sz).mpr ⟨b1, b2⟩, rfl⟩
  have len : (liveOf M ow).length = hs.size := by
    obtain ⟨ps, p1, p2⟩ := W.ps
    have a := nat_nodup_len _ ps nd fun x hx => by
      obtain ⟨⟨y, k⟩, hq, e1⟩ := List.mem_map.mp hx
      have e1 : y = x := e1
      obtain ⟨b1, b2⟩ := (mem_live W.sz).mp hq
      rw [← e1]
      exact p2 y b1 (by rw [b2]; simp)
    have b := nat_nodup_len (List.range hs.size) ((liveOf M ow).map (·.2)) List.nodup_range fun k hk => all k (List.mem_range.mp hk)
    simp only [List.length_map, List.length_range, Array.length_toList] at a b p1
    omega
  refine ⟨_, _, hr, ?_, ⟨u1, rfl, ?_, q, le1, fun i h j a b => ?_⟩, rfl, rfl, rfl⟩
  · exact perm_range hs.size _ (by rw [List.length_map]; exact len) all
  · change ((liveOf M ow).map (·.1)).toArray.size = _
    simp
  · have a : (((liveOf M ow).map (·.2)).map fun i => hs.getD i 0)[i]? = some h := a
    have b : ((liveOf M ow).map (·.1))[i]? = some j := b
    simp only [List.getElem?_map] at a b
    cases z : (liveOf M ow)[i]? with
    | none => rw [z] at b; cases b
    | some yk =>
      obtain ⟨y, k⟩ := yk
      rw [z] at a b
      have b : y = j := Option.some.inj b
      have a : hs.getD k 0 = h := Option.some.inj a
      obtain ⟨b1, b2⟩ := (mem_live W.sz).mp (List.mem_of_getElem? z)
      obtain ⟨h0, K, w1, w2, w3⟩ := W.at_ y k b1 b2
      have e0 : hs.getD k 0 = h0 := by
        rw [Array.getElem?_toList] at w1
        rw [Array.getD_eq_getD_getElem?, w1]
        rfl
      have eh : h0 = h := e0.symm.trans a
      refine ⟨K, by rw [← eh, ← b]; exact w2, fun c hc => ?_⟩
      change way M h c ∈ (liveOf M ow).map (·.1)
      rw [← eh]
      obtain ⟨k2, e2⟩ := Option.ne_none_iff_exists'.mp (w3 c hc)
      exact List.mem_map.mpr ⟨(_, k2), (mem_live W.sz).mpr ⟨way_in M h0 c, e2⟩, rfl⟩
theorem size_308 : SetTable.sizeAbove (SetTable.grown 77) = 512 := by decide +kernel
end SS
set_option Elab.async false
set_option linter.all false
set_option maxRecDepth 100000
set_option maxHeartbeats 1000000
/-! SB: sets whose elements are tuples of ints, bools, None and of such tuples: added to. -/
namespace SS
open PySem PySem.Spec PyProof.Rows L2
abbrev NK := NestedKey
mutual
/-- no text within -/
def nt : NK → Bool
  | .text _ => false
  | .tup ks => nts ks
  | _ => true
def nts : List NK → Bool
  | [] => true
  | k :: ks => nt k && nts ks
end
section
variable {P : Program} {w : World}
theorem away {n : Nat} {v : Value} (q : ∀ a, v ≠ .ref a) : ofAClassStatement n v = pure false := by
  cases v with
  | ref a => exact absurd rfl (q a)
  | _ => cases n <;> rfl
mutual
theorem notOwn : ∀ (k : NK) (v : Value) (n : Nat) (A : Around) (E : Value → Shared → Prop) (s : Shared) (Q : Bool → Shared → Prop), NestedIs s.heap k v → k.depth ≤ n → Q false s → wpAny (model P w) A (ofAClassStatement n v) Q E s
  | .none, _, n, A, E, s, Q, x, _, q => by cases x; rw [away (by simp)]; exact wpAny_pure q
  | .num i, _, n, A, E, s, Q, x, _, q => by cases x <;> (rw [away (by simp)]; exact wpAny_pure q)
  | .text y, _, n, A, E, s, Q, x, _, q => by cases x; rw [away (by simp)]; exact wpAny_pure q
  | .tup ks, _, n, A, E, s, Q, x, hn, q => by
    cases x with
    | @tup a o vs m _ g1 g2 g3 g4 =>
      have hn : NestedKey.depthAll ks + 1 ≤ n := hn
      cases n with
      | zero => omega
      | succ n =>
        unfold ofAClassStatement
        refine wpAny_bind (wpAny_typeOf (⟨o, g1, g2⟩ : s.TypeIs (.ref a) "tuple") ?_)
        dsimp only
        simp only [show (("tuple" : String) == "tuple") = true from by decide, if_true, Bool.not_true, Bool.false_eq_true, if_false]
        first
          | refine wpAny_bind (wpAny_pure ?_)
          | skip
        try simp only [Bool.not_true, Bool.false_eq_true, if_false]
        refine wpAny_bind (m := seqItems? (.ref a)) (wpAny_seqItems g1 g3 ?_)
        dsimp only
        refine wpAny_bind ?_
        change wpAny _ _ (forIn vs _ _) _ _ s
        rw [← Array.forIn_toList]
        refine wpAny_forIn_list _ (fun l r s' => r.1 = none ∧ s' = s ∧ ∃ kk, NestedAll s.heap kk l ∧ ∀ v ∈ l, ∀ Q', Q' false s → wpAny (model P w) A (ofAClassStatement n v) Q' E s) _ ?_ ?_ _ _ ⟨rfl, rfl, ks, g4, notOwns ks _ n A E s g4 (by omega)⟩
        · rintro v l r s' ⟨e1, rfl, kk, all, each⟩
          refine wpAny_bind (each v List.mem_cons_self _ ?_)
          simp only [Bool.false_eq_true, if_false]
          cases all with
          | cons _ tl => exact wpAny_pure ⟨rfl, rfl, _, tl, fun u hu => each u (List.mem_cons_of_mem _ hu)⟩
        · rintro ⟨r1, r2⟩ s' ⟨e1, rfl, _⟩
          simp only at e1
          subst e1
          exact wpAny_pure q
theorem notOwns : ∀ (ks : List NK) (vs : List Value) (n : Nat) (A : Around) (E : Value → Shared → Prop) (s : Shared), NestedAll s.heap ks vs → NestedKey.depthAll ks ≤ n →
    ∀ v ∈ vs, ∀ Q : Bool → Shared → Prop, Q false s → wpAny (model P w) A (ofAClassStatement n v) Q E s
  | [], _, n, A, E, s, x, _, v, hv, _, _ => by cases x; cases hv
  | k :: ks, _, n, A, E, s, x, hn, v, hv, Q, q => by
    have hn : max k.depth (NestedKey.depthAll ks) ≤ n := hn
    cases x with
    | cons x1 x2 =>
      cases hv with
      | head => exact notOwn k _ n A E s Q x1 (by omega) q
      | tail _ hv => exact notOwns ks _ n A E s x2 (by omega) v hv Q q
end
mutual
theorem byVal : ∀ (k : NK) (v : Value) (n : Nat) (A : Around) (E : Value → Shared → Prop) (s : Shared) (Q : Bool → Shared → Prop), NestedIs s.heap k v → nt k = true → k.depth ≤ n → Q true s → wpAny (model P w) A (hashByValue n v) Q E s
  | .none, _, n, A, E, s, Q, x, _, _, q => by cases x; cases n <;> exact wpAny_pure q
  | .num i, _, n, A, E, s, Q, x, _, _, q => by cases x <;> cases n <;> exact wpAny_pure q
  | .text y, _, n, A, E, s, Q, x, z, _, q => by cases z
  | .tup ks, _, n, A, E, s, Q, x, z, hn, q => by
    cases x with
    | @tup a o vs m _ g1 g2 g3 g4 =>
      have hn : NestedKey.depthAll ks + 1 ≤ n := hn
      cases n with
      | zero => omega
      | succ n =>
        unfold hashByValue
        refine wpAny_bind (wpAny_specialOf (⟨o, g1, g2⟩ : s.TypeIs (.ref a) "tuple") F.slot_tuple_hash.lookup ?_)
        change wpAny _ _ (seqItems? (.ref a) >>= _) _ _ s
        refine wpAny_bind (wpAny_seqItems g1 g3 ?_)
        refine wpAny_bind ?_
        change wpAny _ _ (forIn vs _ _) _ _ s
        rw [← Array.forIn_toList]
        refine wpAny_forIn_list _ (fun l r s' => r.1 = none ∧ s' = s ∧ ∀ v ∈ l, ∀ Q', Q' true s → wpAny (model P w) A (hashByValue n v) Q' E s) _ ?_ ?_ _ _ ⟨rfl, rfl, byVals ks _ n A E s g4 z (by omega)⟩
        · rintro v l r s' ⟨e1, rfl, each⟩
          refine wpAny_bind (each v List.mem_cons_self _ ?_)
          simp only [Bool.not_true, Bool.false_eq_true, if_false]
          exact wpAny_pure ⟨rfl, rfl, fun u hu => each u (List.mem_cons_of_mem _ hu)⟩
        · rintro ⟨r1, r2⟩ s' ⟨e1, rfl, _⟩
          simp only at e1
          subst e1
          exact wpAny_pure q
theorem byVals : ∀ (ks : List NK) (vs : List Value) (n : Nat) (A : Around) (E : Value → Shared → Prop) (s : Shared), NestedAll s.heap ks vs → nts ks = true → NestedKey.depthAll ks ≤ n →
    ∀ v ∈ vs, ∀ Q : Bool → Shared → Prop, Q true s → wpAny (model P w) A (hashByValue n v) Q E s
  | [], _, n, A, E, s, x, _, _, v, hv, _, _ => by cases x; cases hv
  | k :: ks, _, n, A, E, s, x, z, hn, v, hv, Q, q => by
    have hn : max k.depth (NestedKey.depthAll ks) ≤ n := hn
    have z : (nt k && nts ks) = true := z
    rw [Bool.and_eq_true] at z
    cases x with
    | cons x1 x2 =>
      cases hv with
      | head => exact byVal k _ n A E s Q x1 z.1 (by omega) q
      | tail _ hv => exact byVals ks _ n A E s x2 z.2 (by omega) v hv Q q
end
end

/-- at b stands the tuple k -/
def Is (h : Heap) (k : NK) (b : Addr) : Prop := NestedIs h k (.ref b) ∧ k.depth ≤ 8 ∧ nt k = true
theorem Is.keep {h h' : Heap} {k : NK} {b : Addr} (x : Is h k b) (e : ∀ c o, h.get? c = some o → h'.get? c = some o) : Is h' k b := ⟨NestedIs.at (fun a o _ _ g _ => e a o g) k _ x.1, x.2⟩
theorem Is.but {h h' : Heap} {k : NK} {a b : Addr} {o : Obj} {es : Array (Int × Value)} {ep : Nat} {t : SetTable} (x : Is h k b) (ho : h.get? a = some o) (hd : o.data = .set es ep t) (sb : Heap.SameBut a h h') : Is h' k b :=
  ⟨NestedIs.at (fun c u vs n g gd => (sb.2 c (fun z => by
    subst z
    rw [ho] at g
    cases g
    rw [hd] at gd
    cases gd)).trans g) k _ x.1, x.2⟩
def rws (w : World) (L : List (Addr × NK)) : List (Int × Value) := L.map fun p => (p.2.hash w, Value.ref p.1)
/-- the set at a: the tuples of L -/
structure Sx (w : World) (h : Heap) (a : Addr) (L : List (Addr × NK)) (es : Array (Int × Value)) (ep : Nat) (t : SetTable) : Prop where
  ob : ∃ o, h.get? a = some o ∧ o.ExactSet ∧ o.data = .set es ep t
  rows : es.toList = rws w L
  tab : Tb t (L.map fun p => p.2.hash w)
  nd : (L.map (·.2)).Nodup
  plain : t.plain = true
  led : w.params.followText "set-order" = true ∨ t.led = true
  room : L.length * 5 < t.mask * 3
section
variable {P : Program} {w : World} {A : Around} {E : Value → Shared → Prop} {s : Shared} {a : Addr} {L : List (Addr × NK)} {es : Array (Int × Value)} {ep : Nat} {t : SetTable}
theorem rows_len {L : List (Addr × NK)} (e : es.toList = rws w L) : es.size = L.length := by
  have := congrArg List.length e
  simpa [rws] using this
theorem fits_of (T : Tb t (L.map fun p => p.2.hash w)) (e : es.size = L.length) (b : L.length ≤ t.mask) : t.fits es.size = true := by
  have z := T.num
  rw [List.length_map] at z
  unfold SetTable.fits SetTable.fill
  simp only [T.nodum, e, z, Bool.and_eq_true, beq_iff_eq, decide_eq_true_eq]
  exact ⟨trivial, b⟩
theorem Sx.le (R : Sx w s.heap a L es ep t) : L.length ≤ t.mask := by have := R.room; omega
theorem Sx.fits (R : Sx w s.heap a L es ep t) : t.fits es.size = true := fits_of R.tab (rows_len R.rows) R.le
theorem Sx.row (R : Sx w s.heap a L es ep t) {i : Nat} {p : Addr × NK} (h : L[i]? = some p) : es[i]? = some (p.2.hash w, Value.ref p.1) := by
  rw [← Array.getElem?_toList, R.rows, rws, List.getElem?_map, h]
  rfl
theorem quiet_of {k : NK} {b : Addr} (x : Is s.heap k b) {Q : Bool → Shared → Prop} (q : Q true s) : wpAny (model P w) A (eqIsQuiet 8 (.ref b)) Q E s := quiet_key k _ 8 s x.1 x.2.1 A E Q q
theorem unseen {k : NK} {b : Addr} (x : Is s.heap k b) {ys : List Value} (hy : ∀ y ∈ ys, ∃ k' c, y = Value.ref c ∧ Is s.heap k' c) {Q : Bool → Shared → Prop} (q : Q false s) : wpAny (model P w) A (searchCouldBeSeen (.ref b) ys) Q E s := by
  unfold searchCouldBeSeen
  refine wpAny_bind ?_
  refine wpAny_forIn_list _ (fun l r s' => r.1 = none ∧ s' = s ∧ ∀ y ∈ l, ∃ k' c, y = Value.ref c ∧ Is s.heap k' c) _ ?_ ?_ _ _ ⟨rfl, rfl, hy⟩
  · rintro y l r s' ⟨e1, rfl, all⟩
    obtain ⟨k', c, rfl, y1⟩ := all _ List.mem_cons_self
    have tl := fun u hu => all u (List.mem_cons_of_mem _ hu)
    dsimp only
    by_cases z : (b == c || (carriedByValue (.ref b) && carriedByValue (.ref c))) = true
    · exact wp_if_pos z (wpAny_pure ⟨rfl, rfl, tl⟩)
    · refine wp_if_neg z (wpAny_bind (quiet_of x ?_))
      simp only [Bool.not_true, Bool.false_eq_true, if_false]
      refine wpAny_bind (quiet_of y1 ?_)
      simp only [Bool.not_true, Bool.false_eq_true, if_false]
      refine wpAny_bind (notOwn k _ 8 A _ _ _ x.1 x.2.1 ?_)
      simp only [Bool.false_eq_true, if_false]
      refine wpAny_bind (notOwn k' _ 8 A _ _ _ y1.1 y1.2.1 ?_)
      simp only [Bool.false_eq_true, if_false]
      exact wpAny_pure ⟨rfl, rfl, tl⟩
  · rintro ⟨r1, r2⟩ s' ⟨e1, rfl, _⟩
    simp only at e1
    subst e1
    exact wpAny_pure q
theorem eq_of {x y : NK} {b c : Addr} (hx : Is s.heap x b) (hy : Is s.heap y c) (hu : A.units + 8 < cLine) {Q : Bool → Shared → Prop} (q : Q (decide (x = y)) s) : wpAny (model P w) A (eqBool (.ref b) (.ref c)) Q E s :=
  (nestedKind P w).eqBool hu ⟨hx.1, hx.2.1⟩ ⟨hy.1, hy.2.1⟩ q
theorem no_dummy (m : Nat) : ∀ (n : Nat) (p : SetTable.Probe), p.dummy = none → (nth m p n).dummy = none
  | 0, _, h => h
  | n + 1, p, h => no_dummy m n _ (by unfold adv; split <;> exact h)

/-- the search, from step c of the way on -/
theorem seek (R : Sx w s.heap a L es ep t) (tu : ∀ p ∈ L, Is s.heap p.2 p.1) {x : Addr} {k : NK} (hx : Is s.heap k x) (hu : A.units + 8 < cLine) {H : Int} (hH : k.hash w = H) {K : Nat} (b1 : K < 10 * SetTable.turns t.mask)
    (b2 : way t.mask H K ∉ t.place.toList) (b3 : ∀ c, c < K → way t.mask H c ∈ t.place.toList) {Q : SetFound → Shared → Prop}
    (yes : k ∈ L.map (·.2) → Q (.there none) s) (no : k ∉ L.map (·.2) → Q (.free (way t.mask H K) false) s) :
    ∀ (f c : Nat) (stand : Option SetTable.Probe), stand.getD (t.probeStart H) = nth t.mask (stt t.mask H) c → c ≤ K → K - c < f →
      (∀ (i : Nat) p, L[i]? = some p → p.2 = k → ∃ c', c ≤ c' ∧ c' < K ∧ t.place.toList[i]? = some (way t.mask H c')) →
      wpAny (model P w) A (setSearchFrom a (.ref x) H true f stand) Q E s
  | 0, c, stand, _, _, z, _ => by omega
  | f + 1, c, stand, hst, hc, hf, later => by
    obtain ⟨o, ho, hex, hd⟩ := R.ob
    rw [setSearchFrom_succ]
    refine wpAny_bind (wpAny_setState_of ho hd R.fits ?_)
    dsimp only
    refine wp_if_neg (by unfold SetTable.gaveWay; rw [R.tab.msk.odd]; decide) ?_
    try refine wpAny_bind (wpAny_pure ?_)
    have at_ : ∀ q, nth t.mask (nth t.mask (stt t.mask H) c) q = nth t.mask (stt t.mask H) (c + q) := fun q => (nth_add t.mask c _ q).symm
    have atj : ∀ q, (nth t.mask (nth t.mask (stt t.mask H) c) q).j = way t.mask H (c + q) := fun q => congrArg SetTable.Probe.j (at_ q)
    have cK : c + (K - c) = K := Nat.add_sub_cancel' hc
    let hashAt : Nat → Int := fun i => (es[i]?.map (·.1)).getD 0
    have hash_at : ∀ (i : Nat) p, L[i]? = some p → hashAt i = p.2.hash w := fun i p hp => by
      change (es[i]?.map (·.1)).getD 0 = _
      rw [R.row hp]
      rfl
    -- no equal one is left out
    have missed : ∀ (q i : Nat) p, L[i]? = some p → p.2 = k → t.place.toList[i]? = some (way t.mask H (c + q)) → hashAt i = H := fun q i p hp e _ => by rw [hash_at i p hp, e, hH]
    rcases go_spec t R.tab.up R.tab.nodum hashAt H (10 * SetTable.turns t.mask) (K - c) _ (no_dummy t.mask c (stt t.mask H) rfl) (by omega)
      (fun q hq => by rw [atj]; exact b3 _ (by omega)) (by rw [atj, cK]; exact b2) with ⟨q, i, q1, q2, q3, q4, q5⟩ | ⟨q4, q5⟩
    · have pr : t.probe hashAt H (stand.getD (t.probeStart H)) = some (.candidate (way t.mask H (c + q)) i (nth t.mask (stt t.mask H) (c + (q + 1)))) := by
        rw [hst, ← atj, ← at_]
        exact q5
      rw [pr]
      dsimp only
      rw [atj] at q2
      have iL : i < L.length := by
        have z1 := (List.getElem?_eq_some_iff.mp q2).1
        have z2 := R.tab.num
        rw [List.length_map] at z2
        rw [Array.length_toList, z2] at z1
        exact z1
      obtain ⟨p, hp⟩ : ∃ p, L[i]? = some p := ⟨_, List.getElem?_eq_getElem iL⟩
      have pm := List.mem_of_getElem? hp
      have on : wpAny (model P w) A (searchRest a (.ref x) H true f es t (way t.mask H (c + q)) i (nth t.mask (stt t.mask H) (c + (q + 1)))) Q E s := by
        unfold searchRest
        rw [R.row hp]
        dsimp only
        refine wpAny_bind (wpAny_holding (eq_of (tu p pm) hx hu ?_))
        refine wpAny_bind (wpAny_setState_of ho hd R.fits ?_)
        dsimp only
        by_cases e : p.2 = k
        · refine wp_if_pos (by simp [e]) (wpAny_pure (yes ?_))
          rw [← e]
          exact List.mem_map_of_mem pm
        · refine wp_if_neg (by simp [e]) ?_
          try refine wpAny_bind (wpAny_pure ?_)
          rw [sameMem]
          dsimp only
          have sl : t.slot (way t.mask H (c + q)) = .live i := slot_live R.tab.up q2
          simp only [if_true, sl, R.row hp]
          refine wpAny_bind (wpAny_isSame_ref_self (wpAny_bind (wpAny_pure ?_)))
          simp only [if_true]
          refine wp_if_neg (by simp [e]) ?_
          refine seek R tu hx hu hH b1 b2 b3 yes no f (c + (q + 1)) _ rfl (by omega) (by omega) fun i0 p0 g0 ge => ?_
          obtain ⟨c', w1, w2, w3⟩ := later i0 p0 g0 ge
          refine ⟨c', Classical.byContradiction fun z => ?_, w2, w3⟩
          by_cases y : c' = c + q
          · rw [y] at w3
            have s0 := slot_live R.tab.up w3
            rw [sl] at s0
            cases s0
            rw [hp] at g0
            cases g0
            exact e ge
          · have cc : c + (c' - c) = c' := by omega
            exact q4 (c' - c) i0 (by omega) (by rw [atj, cc]; exact w3) (missed (c' - c) i0 p0 g0 ge (by rw [cc]; exact w3))
      by_cases ld : t.led = true
      · refine wp_if_neg (by simp [ld]) ?_
        try refine wpAny_bind (wpAny_pure ?_)
        exact on
      · refine wp_if_pos (by simp [ld]) ?_
        refine wpAny_bind (unseen hx (fun y hy => ?_) ?_)
        · obtain ⟨r, r1, r2⟩ := List.mem_map.mp hy
          have r3 : r ∈ es.toList := by
            have : r ∈ es ∧ r.1 = H := by simpa using r1
            simpa using this.1
          rw [R.rows] at r3
          obtain ⟨p2, p3, p4⟩ := List.mem_map.mp r3
          exact ⟨p2.2, p2.1, by rw [← r2, ← p4], tu p2 p3⟩
        · refine wp_if_neg (by decide) ?_
          try refine wpAny_bind (wpAny_pure ?_)
          exact on
    · have pr : t.probe hashAt H (stand.getD (t.probeStart H)) = some (.empty (way t.mask H K) none) := by
        rw [hst, ← cK, ← atj]
        exact q5
      rw [pr]
      dsimp only
      refine wpAny_pure (no fun hm => ?_)
      obtain ⟨p0, g0, ge⟩ := List.mem_map.mp hm
      obtain ⟨i0, gi⟩ := List.getElem?_of_mem g0
      obtain ⟨c', w1, w2, w3⟩ := later i0 p0 gi ge
      have cc : c + (c' - c) = c' := by omega
      exact q4 (c' - c) i0 (by omega) (by rw [atj, cc]; exact w3) (missed (c' - c) i0 p0 gi ge (by rw [cc]; exact w3))
theorem find (R : Sx w s.heap a L es ep t) (tu : ∀ p ∈ L, Is s.heap p.2 p.1) {x : Addr} {k : NK} (hx : Is s.heap k x) (hu : A.units + 8 < cLine) {H : Int} (hH : k.hash w = H) {Q : SetFound → Shared → Prop}
    (yes : k ∈ L.map (·.2) → Q (.there none) s)
    (no : ∀ K, k ∉ L.map (·.2) → way t.mask H K ∉ t.place.toList → (∀ c, c < K → way t.mask H c ∈ t.place.toList) → Q (.free (way t.mask H K) false) s) :
    wpAny (model P w) A (setSearch a (.ref x) H true) Q E s := by
  obtain ⟨K, k1, k2, k3⟩ := R.tab.free (by rw [List.length_map]; exact R.le) H
  have small := R.tab.msk.le
  have k4 : K < 100000 := by unfold SetTable.turns at k1; omega
  unfold setSearch
  refine seek R tu hx hu hH k1 k2 k3 yes (fun n => no K n k2 k3) 100000 0 none rfl (Nat.zero_le _) (by omega) fun i p hp e => ?_
  have iT : i < t.place.toList.length := by
    rw [Array.length_toList, R.tab.num, List.length_map]
    exact (List.getElem?_eq_some_iff.mp hp).1
  obtain ⟨c, c1, c2⟩ := R.tab.ahead (h := H) k2 (i := i) (by rw [List.getElem?_map, hp, ← hH, ← e]; rfl) (List.getElem?_eq_getElem iT)
  exact ⟨c, Nat.zero_le _, c1, by rw [List.getElem?_eq_getElem iT, c2]⟩
theorem pick_rows (L : List (Addr × NK)) (order : Array Nat) (hr : es.toList = rws w L) (hp : order.toList.Perm (List.range L.length)) :
    ∃ L2, (order.filterMap (es[·]?)).toList = rws w L2 ∧ L2.Perm L ∧ (L2.map fun p => p.2.hash w) = order.toList.map fun i => (es.map (·.1)).getD i 0 := by
  have ent : ∀ i (p : Addr × NK), L[i]? = some p → es[i]? = some (p.2.hash w, Value.ref p.1) := fun i p h => by
    rw [← Array.getElem?_toList, hr, rws, List.getElem?_map, h]
    rfl
  have go : ∀ l : List Nat, (∀ i ∈ l, i < L.length) → l.filterMap (fun i => es[i]?) = rws w (l.filterMap fun i => L[i]?) ∧ ((l.filterMap fun i => L[i]?).map fun p => p.2.hash w) = l.map fun i => (es.map (·.1)).getD i 0 := by
    intro l
    induction l with
    | nil => exact fun _ => ⟨rfl, rfl⟩
    | cons i l ih =>
      intro hl
      obtain ⟨e1, e2⟩ := ih fun j hj => hl j (List.mem_cons_of_mem _ hj)
      obtain ⟨p, hp⟩ : ∃ p, L[i]? = some p := ⟨_, List.getElem?_eq_getElem (hl i List.mem_cons_self)⟩
      rw [List.filterMap_cons_some (ent i p hp), List.filterMap_cons_some hp, e1]
      refine ⟨rfl, ?_⟩
      rw [List.map_cons, List.map_cons, e2, Array.getD_eq_getD_getElem?, Array.getElem?_map, ent i p hp]
      rfl
  obtain ⟨e1, e2⟩ := go order.toList fun i hi => List.mem_range.mp (hp.mem_iff.mp hi)
  refine ⟨_, by first | (rw [Array.toList_filterMap]; exact e1) | simpa using e1, ?_, e2⟩
  have whole : (List.range L.length).filterMap (fun i => L[i]?) = L := by
    have : ∀ n, n ≤ L.length → (List.range n).filterMap (fun i => L[i]?) = L.take n := by
      intro n
      induction n with
      | zero => intro _; simp
      | succ n ih =>
        intro hn
        rw [List.range_succ, List.filterMap_append, ih (by omega), List.take_succ]
        congr 1
        try simp [List.getElem?_eq_getElem (show n < L.length by omega)]
    simpa using this L.length (Nat.le_refl _)
  have z := hp.filterMap fun i => L[i]?
  rw [whole] at z
  exact z
/-- laid anew in a larger table -/
theorem relay {o : Obj} (ho : s.heap.get? a = some o) (hex : o.ExactSet) (hd : o.data = .set es ep t) (hr : es.toList = rws w L) (T : Tb t (L.map fun p => p.2.hash w)) (hl : L.length ≤ t.mask)
    (nd : (L.map (·.2)).Nodup) (pl : t.plain = true) (ld : w.params.followText "set-order" = true ∨ t.led = true) {n M : Nat}
    (hw : SetTable.sizeAbove n = M + 1) (hM : Msk M) (hn : L.length * 5 < M * 3) {Q : Unit → Shared → Prop}
    (hQ : ∀ h' L' es' ep' t', Heap.SameBut a s.heap h' → Sx w h' a L' es' ep' t' → L'.Perm L → Q () { s with heap := h' }) : wpAny (model P w) A (setRelay a n) Q E s := by
  have len := rows_len hr
  have mle := hM.le
  obtain ⟨t', order, e, pm, T', em, el, epl⟩ := relaid' t (hs := es.map (·.1)) (wanted := n) (M := M) (by omega) hM (by rw [Array.size_map, len]; omega)
  rw [Array.size_map, len] at pm
  obtain ⟨L2, r1, r2, r3⟩ := pick_rows L order hr pm
  rw [← r3] at T'
  have len2 : (order.filterMap (es[·]?)).size = es.size := by rw [rows_len r1, r2.length_eq, len]
  rw [setRelay_eq]
  refine wpAny_bind (wpAny_setState_of ho hd (fits_of T len hl) ?_)
  dsimp only
  refine wp_if_neg (by rw [sizeLine_eq]; omega) ?_
  try refine wpAny_bind (wpAny_pure ?_)
  rw [e]
  dsimp only
  refine wpAny_bind (wp_if_neg (by rw [len2]; simp) ?_)
  try refine wpAny_bind (wpAny_pure ?_)
  refine wpAny_pure ?_
  dsimp only
  refine wpAny_storeSet_of ho hd ?_ (by rw [len2, len, sizeLine_eq]; omega)
  have sb : Heap.SameBut a s.heap (s.heap.update a (Obj.putSet (order.filterMap (es[·]?)) t')) := Heap.SameBut.update ..
  exact hQ _ L2 _ (ep + 1) t' sb ⟨⟨_, store_at ho hd, ⟨hex.1, hex.2.1, hex.2.2⟩, rfl⟩, r1, T', (r2.map (·.2)).nodup_iff.mpr nd, by rw [epl]; exact pl, by rw [el]; exact ld, by rw [r2.length_eq, em]; exact hn⟩ r2
theorem sz20 : SetTable.sizeAbove (SetTable.grown 5) = 31 + 1 := by decide +kernel
theorem sz76 : SetTable.sizeAbove (SetTable.grown 19) = 127 + 1 := by decide +kernel
/-- one is added -/
theorem add (R : Sx w s.heap a L es ep t) (tu : ∀ p ∈ L, Is s.heap p.2 p.1) {x : Addr} {k : NK} (hx : Is s.heap k x) (hu : A.units + 8 < cLine) (few : L.length < 305) {Q : Bool → Shared → Prop}
    (hQ : ∀ b h' L' es' ep' t', Heap.SameBut a s.heap h' → Sx w h' a L' es' ep' t' → (k ∈ L.map (·.2) → L' = L) → (k ∉ L.map (·.2) → L'.Perm ((x, k) :: L)) → Q b { s with heap := h' }) :
    wpAny (model P w) A (setAddHashed a (.ref x) (k.hash w)) Q E s := by
  obtain ⟨o, ho, hex, hd⟩ := R.ob
  have len := rows_len R.rows
  have room := R.room
  generalize hH : k.hash w = H
  unfold setAddHashed
  refine wpAny_holding ?_
  rw [show (100000 : Nat) = 99999 + 1 from rfl, setAddHashedIn_succ]
  refine wpAny_bind (wpAny_setState_of ho hd R.fits ?_)
  dsimp only
  refine wp_if_neg (by simp [byScan, Value.scannable]) ?_
  try refine wpAny_bind (wpAny_pure ?_)
  refine wpAny_bind (find R tu hx hu hH (fun hm => ?_) fun K hm hK hb => ?_)
  · dsimp only
    exact wpAny_pure (hQ false s.heap L es ep t (Heap.SameBut.refl a s.heap) R (fun _ => rfl) (absurd hm))
  · dsimp only
    refine wpAny_bind (wpAny_setState_of ho hd R.fits ?_)
    dsimp only
    obtain ⟨p, hp⟩ : ∃ p, SetTable.below t.place (way t.mask H K) = p := ⟨_, rfl⟩
    obtain ⟨z1, z2, z3⟩ := R.tab.ins (h := H) hK hb p hp
    have plc : (t.put (way t.mask H K)).2 = p := hp
    have pl1 : (t.put (way t.mask H K)).1.plain = true := R.plain
    have mk1 : (t.put (way t.mask H K)).1.mask = t.mask := rfl
    have ld1 : w.params.followText "set-order" = true ∨ (t.put (way t.mask H K)).1.led = true := R.led
    generalize t.put (way t.mask H K) = pt at z2 z3 plc pl1 mk1 ld1 ⊢
    obtain ⟨t1, p1⟩ := pt
    dsimp only at z2 z3 plc pl1 mk1 ld1 ⊢
    subst plc
    first
      | (refine wpAny_bind ?_; refine wp_if_pos pl1 ?_; refine byVal k _ 8 A _ _ _ hx.1 hx.2.2 hx.2.1 ?_)
      | refine wp_if_pos pl1 (wpAny_bind (byVal k _ 8 A _ _ _ hx.1 hx.2.2 hx.2.1 ?_))
    simp only [if_true]
    have lay : (SetTable.insertAt es p1 (H, Value.ref x)).toList = rws w (L.take p1 ++ (x, k) :: L.drop p1) := by
      rw [SetTable.toList_insertAt, R.rows]
      simp only [rws, List.map_append, List.map_cons, List.map_take, List.map_drop, hH]
    have pm : (L.take p1 ++ (x, k) :: L.drop p1).Perm ((x, k) :: L) := put_perm L p1 (x, k)
    have hsh : (L.take p1 ++ (x, k) :: L.drop p1).map (fun p => p.2.hash w) = (L.map fun p => p.2.hash w).take p1 ++ H :: (L.map fun p => p.2.hash w).drop p1 := by
      simp only [List.map_append, List.map_cons, List.map_take, List.map_drop, hH]
    rw [← hsh] at z2
    have nd1 : ((L.take p1 ++ (x, k) :: L.drop p1).map (·.2)).Nodup := (pm.map (·.2)).nodup_iff.mpr (List.nodup_cons.mpr ⟨hm, R.nd⟩)
    generalize L.take p1 ++ (x, k) :: L.drop p1 = L1 at lay pm z2 nd1
    have len1 : L1.length = L.length + 1 := pm.length_eq
    have les := rows_len lay
    generalize SetTable.insertAt es p1 (H, Value.ref x) = es1 at lay les ⊢
    refine wpAny_bind (wpAny_storeSet_of ho hd ?_ (by rw [les, len1, sizeLine_eq]; omega))
    have sb : Heap.SameBut a s.heap (s.heap.update a (Obj.putSet es1 t1)) := Heap.SameBut.update ..
    have ho1 := store_at (es' := es1) (t' := t1) ho hd
    generalize s.heap.update a (Obj.putSet es1 t1) = h1 at sb ho1 ⊢
    by_cases full : t1.tooFull = true
    · first
        | (refine wpAny_bind ?_; refine wp_if_pos (by simp [full]) ?_)
        | (refine wp_if_pos (by simp [full]) ?_; refine wpAny_bind ?_)
      have hfull : (L.length + 1) * 5 ≥ t.mask * 3 := by
        unfold SetTable.tooFull at full
        rw [decide_eq_true_eq, z3, List.length_map, mk1] at full
        exact full
      rw [len]
      have go : ∀ M, SetTable.sizeAbove (SetTable.grown (L.length + 1)) = M + 1 → Msk M → (L.length + 1) * 5 < M * 3 →
          wpAny (model P w) A (setRelay a (SetTable.grown (L.length + 1))) (fun _ s' => wpAny (model P w) A (pure true) Q E s') E { s with heap := h1 } := fun M g1 g2 g3 =>
        relay (s := { s with heap := h1 }) ho1 ⟨hex.1, hex.2.1, hex.2.2⟩ rfl lay z2 (by rw [len1, mk1]; have := R.tab.msk; rcases this with (e | e | e) | e <;> (rw [e] at room ⊢; omega)) nd1 pl1 ld1 g1 g2 (by rw [len1]; exact g3)
          fun h2 L2 es2 ep2 t2 sb2 R2 pm2 => wpAny_pure (hQ true h2 L2 es2 ep2 t2 (sb.trans sb2) R2 (fun z => absurd z hm) fun _ => pm2.trans pm)
      rcases R.tab.msk with (e | e | e) | e
      · have : L.length = 4 := by rw [e] at room hfull; omega
        exact go 31 (by rw [this, sz20]) (.inl (.inr (.inl rfl))) (by omega)
      · have : L.length = 18 := by rw [e] at room hfull; omega
        exact go 127 (by rw [this, sz76]) (.inl (.inr (.inr rfl))) (by omega)
      · have : L.length = 76 := by rw [e] at room hfull; omega
        exact go 511 (by rw [this, size_308]) (.inr rfl) (by omega)
      · rw [e] at room hfull; omega
    · first
        | refine wp_if_neg (by simp [full]) ?_
        | (refine wpAny_bind ?_; refine wp_if_neg (by simp [full]) ?_; refine wpAny_pure ?_)
      refine wpAny_pure (hQ true h1 L1 es1 (ep + 1) t1 sb ⟨⟨_, ho1, ⟨hex.1, hex.2.1, hex.2.2⟩, rfl⟩, lay, z2, nd1, pl1, ld1, ?_⟩ (fun z => absurd z hm) fun _ => pm)
      unfold SetTable.tooFull at full
      rw [decide_eq_true_eq, z3, List.length_map] at full
      omega
theorem Sx.fresh {h : Heap} (ho : h.get? a = some { cls := .type "set", dict := none, data := .set #[] 0 (.fresh 0 0 (!w.params.followText "set-order")) }) : Sx w h a [] #[] 0 (.fresh 0 0 (!w.params.followText "set-order")) where
  ob := ⟨_, ho, ⟨rfl, rfl, rfl⟩, rfl⟩
  rows := rfl
  tab := ⟨.nil, rfl, rfl, .inl (.inl rfl), fun _ q => (by cases q), fun _ _ _ q => (by simp at q)⟩
  nd := .nil
  plain := rfl
  led := by
    change _ ∨ (!w.params.followText "set-order") = true
    cases w.params.followText "set-order" <;> simp
  room := by change 0 * 5 < 7 * 3; decide
end
end SS
set_option Elab.async false
set_option linter.all false
set_option maxRecDepth 100000
set_option maxHeartbeats 1000000
/-! SC: set comprehensions whose elements are tuples; sorted of sets and of lists, by data. -/
namespace DL
open PySem PySem.Spec PyProof.Rows L2
mutual
def D.nk : D → NestedKey
  | .non => .none
  | .bl b => .num (if b = true then 1 else 0)
  | .int i => .num i
  | .str x => .text x
  | .tup xs => .tup (nks xs)
  | .lst _ => .none
  | .obj _ _ _ => .none
def nks : List D → List NestedKey
  | [] => []
  | d :: ds => d.nk :: nks ds
end
mutual
/-- a key of this depth, no text within -/
def kOk : Nat → D → Bool
  | _, .non => true
  | _, .bl _ => true
  | _, .int _ => true
  | _, .str _ => false
  | _, .lst _ => false
  | _, .obj _ _ _ => false
  | 0, .tup _ => false
  | n + 1, .tup xs => kOks n xs
def kOks : Nat → List D → Bool
  | _, [] => true
  | n, d :: ds => kOk n d && kOks n ds
end
section
variable {X : Cx} {pins : List (Addr × Obj)} {σ : L2.St} {H : Hp} {s : Shared}
mutual
theorem rep_nk (I : Inv X pins σ H s) : ∀ (d : D) (v : V) (u : Value) (n : Nat), Rep X.K X.mg H v d → RelV v u → kOk n d = true → NestedIs s.heap d.nk u ∧ d.nk.depth ≤ n ∧ SS.nt d.nk = true
  | .non, _, _, n, r, e, _ => by cases r; cases e; exact ⟨.none, Nat.zero_le _, rfl⟩
  | .bl b, _, _, n, r, e, _ => by cases r; cases e; exact ⟨.bool rfl, Nat.zero_le _, rfl⟩
  | .int i, _, _, n, r, e, _ => by cases r; obtain ⟨t, rfl⟩ := e; exact ⟨.int i t, Nat.zero_le _, rfl⟩
  | .str _, _, _, n, _, _, k => by cases n <;> cases k
  | .lst _, _, _, n, _, _, k => by cases n <;> cases k
  | .obj _ _ _, _, _, n, _, _, k => by cases n <;> cases k
  | .tup ds, _, _, 0, _, _, k => by cases k
  | .tup ds, _, _, n + 1, r, e, k => by
    cases r with
    | tup a b =>
      cases e
      obtain ⟨its, rv, ⟨o, ho, hc, m, hd⟩, _⟩ := I.tuple a
      obtain ⟨h1, h2, h3⟩ := rep_nks I ds _ its n b rv k
      exact ⟨.tup ho hc hd (by simpa using h1), Nat.succ_le_succ h2, h3⟩
theorem rep_nks (I : Inv X pins σ H s) : ∀ (ds : List D) (vs : List V) (us : List Value) (n : Nat), RepAll X.K X.mg H vs ds → Vals vs us → kOks n ds = true → NestedAll s.heap (nks ds) us ∧ NestedKey.depthAll (nks ds) ≤ n ∧ SS.nts (nks ds) = true
  | [], _, _, n, r, e, _ => by cases r; cases e; exact ⟨.nil, Nat.zero_le _, rfl⟩
  | d :: ds, _, _, n, r, e, k => by
    have k : (kOk n d && kOks n ds) = true := k
    rw [Bool.and_eq_true] at k
    cases r with
    | cons r1 r2 =>
      cases e with
      | cons e1 e2 =>
        obtain ⟨h1, h2, h3⟩ := rep_nk I d _ _ n r1 e1 k.1
        obtain ⟨g1, g2, g3⟩ := rep_nks I ds _ _ n r2 e2 k.2
        exact ⟨.cons h1 g1, Nat.max_le.mpr ⟨h2, g2⟩, by show (SS.nt d.nk && SS.nts (nks ds)) = true; rw [h3, g3]; rfl⟩
end
end

/-! ### the set as a tracked thing -/
abbrev Row := Addr × D
def kz (Z : List Row) : List (Addr × NestedKey) := Z.map fun z => (z.1, z.2.nk)
/-- a set whose elements are the tuples of Z -/
def SxO (w : World) (a : Addr) (Z : List Row) : HO := .ext fun h => ∃ es ep t, SS.Sx w h a (kz Z) es ep t
theorem Sx_keep {w : World} {h h' : Heap} {a : Addr} {L : List (Addr × NestedKey)} {es : Array (Int × Value)} {ep : Nat} {t : SetTable} (R : SS.Sx w h a L es ep t) (e : ∀ o, h.get? a = some o → h'.get? a = some o) : SS.Sx w h' a L es ep t := by
  obtain ⟨o, ho, z⟩ := R.ob
  exact ⟨⟨o, e o ho, z⟩, R.rows, R.tab, R.nd, R.plain, R.led, R.room⟩
theorem SxO_new {w : World} {P : Program} {H : Hp} {h : Heap} {a : Addr} {Z : List Row} (R : ∃ es ep t, SS.Sx w h a (kz Z) es ep t) : ObjOk P w H h a (SxO w a Z) := by
  have ⟨es, ep, t, R1⟩ := R
  have ⟨o, ho, _⟩ := R1.ob
  exact ⟨R, ⟨o, ho⟩, fun h1 h2 ⟨es', ep', t', p⟩ k => ⟨es', ep', t', Sx_keep p (k)⟩⟩
section
variable {X : Cx} {pins : List (Addr × Obj)} {σ : L2.St} {H : Hp} {s : Shared} {E : Value → Shared → Prop}
theorem SxO_get {a : Addr} {Z : List Row} (I : Inv X pins σ H s) (h : H a = some (SxO X.w a Z)) : ∃ es ep t, SS.Sx X.w s.heap a (kz Z) es ep t := (I.hok a _ h).1
/-- the rows' tuples stand -/
def RowsOk (K : PySem.W.Frag) (mg : Str → Option Value) (H : Hp) (Z : List Row) : Prop := ∀ z ∈ Z, Rep K mg H (.ref z.1) z.2 ∧ kOk 8 z.2 = true
theorem rows_is (I : Inv X pins σ H s) {Z : List Row} (h : RowsOk X.K X.mg H Z) : ∀ p ∈ kz Z, SS.Is s.heap p.2 p.1 := fun p hp => by
  obtain ⟨z, hz, rfl⟩ := List.mem_map.mp hp
  obtain ⟨r, k⟩ := h z hz
  exact rep_nk I z.2 _ _ 8 r rfl k
/-- a perm of an image is an image of a perm -/
theorem perm_img {α β : Type} {f : α → β} {m l : List β} (pm : m.Perm l) : ∀ L : List α, l = L.map f → ∃ L1 : List α, L1.Perm L ∧ m = L1.map f := by
  induction pm with
  | nil => intro L e; exact ⟨L, .refl _, e⟩
  | @cons x m l _ ih =>
    intro L e
    cases L with
    | nil => cases e
    | cons y L =>
      rw [List.map_cons] at e
      injection e with e1 e2
      obtain ⟨L1, p1, rfl⟩ := ih L e2
      exact ⟨y :: L1, p1.cons y, by rw [List.map_cons, e1]⟩
  | @swap x y m =>
    intro L e
    cases L with
    | nil => cases e
    | cons a L =>
      cases L with
      | nil => cases e
      | cons b L =>
        simp only [List.map_cons, List.cons.injEq] at e
        obtain ⟨rfl, rfl, rfl⟩ := e
        exact ⟨b :: a :: L, .swap .., rfl⟩
  | trans _ _ ih1 ih2 =>
    intro L e
    obtain ⟨L2, p2, rfl⟩ := ih2 L e
    obtain ⟨L1, p1, rfl⟩ := ih1 L2 rfl
    exact ⟨L1, p1.trans p2, rfl⟩
theorem kz_perm {L : List (Addr × NestedKey)} {Z : List Row} {z : Row} (pm : L.Perm ((z.1, z.2.nk) :: kz Z)) : ∃ Z1 : List Row, Z1.Perm (z :: Z) ∧ L = kz Z1 := perm_img (f := fun z : Row => (z.1, z.2.nk)) pm (z :: Z) rfl

/-- D.add(x) -/
theorem add_sx {Dn b : Addr} {d : D} {Z : List Row} {Q : Value → Shared → Prop} (I : Inv X pins σ H s) (hu : X.A.units + 16 < cLine) (hD : H Dn = some (SxO X.w Dn Z)) (ok : RowsOk X.K X.mg H Z) (rb : Rep X.K X.mg H (.ref b) d) (kb : kOk 8 d = true) (few : Z.length < 305)
    (h : ∀ s' Z', (d.nk ∈ (kz Z).map (·.2) → Z' = Z) → (d.nk ∉ (kz Z).map (·.2) → Z'.Perm ((b, d) :: Z)) → Inv X pins σ (upd H Dn (SxO X.w Dn Z')) s' → Q .none s') :
    wpAny (model X.prog X.w) X.A (call (.builtin "set.add") [.ref Dn, .ref b]) Q E s := by
  obtain ⟨es, ep, t, R⟩ := SxO_get I hD
  have xi := rep_nk I d _ _ 8 rb rfl kb
  have ti : s.TypeIs (.ref Dn) "set" := by
    obtain ⟨o, ho, hx, _⟩ := R.ob
    exact ⟨o, ho, hx.1⟩
  refine wpAny_call_entry F.slot_set_add ti F.entry_set_add ?_ (F.args_set_add_2 _ _)
  unfold Builtin.«set.add» Builtin.Frozenset.oneOther
  simp only [List.isEmpty_nil, bind_assoc]
  unfold Builtin.Frozenset.addrOf setAdd
  refine wpAny_bind (wpAny_pure ?_)
  try dsimp only
  refine wpAny_bind (wpAny_pure ?_)
  try dsimp only
  refine wpAny_bind (wpAny_holding ?_)
  refine wpAny_bind ((nestedKind X.prog X.w).pyHash (A := X.A.in1) (show X.A.units + 1 + 8 < cLine by omega) (k := d.nk) ⟨xi.1, xi.2.1⟩ ?_)
  refine SS.add (s := { s with toks := s.toks + NestedKey.draws d.nk }) R (rows_is I ok) xi (A := X.A.in1) (show X.A.units + 1 + 8 < cLine by omega) (by rw [kz, List.length_map]; exact few) fun bb h' L' es' ep' t' sb R' c1 c2 => ?_
  change wpAny _ _ (ret Value.none) _ _ _
  obtain ⟨Z', z1, z2, z3⟩ : ∃ Z' : List Row, L' = kz Z' ∧ (d.nk ∈ (kz Z).map (·.2) → Z' = Z) ∧ (d.nk ∉ (kz Z).map (·.2) → Z'.Perm ((b, d) :: Z)) := by
    by_cases c : d.nk ∈ (kz Z).map (·.2)
    · exact ⟨Z, c1 c, fun _ => rfl, fun n => absurd c n⟩
    · obtain ⟨Z1, p1, p2⟩ := kz_perm (z := (b, d)) (c2 c)
      exact ⟨Z1, p2, fun n => absurd n c, fun _ => p1⟩
  subst z1
  have keep : ∀ c u, c ≠ Dn → s.heap.get? c = some u → h'.get? c = some u := fun c u hc hu => (sb.2 c hc).trans hu
  have there : ∃ u, h'.get? Dn = some u := let ⟨o, ho, _⟩ := R'.ob; ⟨o, ho⟩
  exact wpAny_pure ⟨_, rfl, h _ Z' z2 z3 (I.write (e := Dn) (t' := s.toks + NestedKey.draws d.nk) (by rw [hD]; trivial) (.inl rfl) keep there (SxO_new ⟨es', ep', t', R'⟩))⟩
end
open PpSet
section
variable {X : Cx}
/-- {elt for target in iter if ..}: Dn the new set -/
def tSx (K : PySem.W.Frag) (mg : Str → Option Value) (w : World) (wi : TI) (g : TG) (tt : TT) (te : TE) (vs : List Nat) : TE := fun σ H Q => wi σ H fun J H1 => ∀ Dn, H1 Dn = none → ∃ W : Nat → Nat → Hp → Prop, (∃ m, W 0 m (upd H1 Dn (SxO w Dn []))) ∧ ∀ i m Hc, W i m Hc →
  (J.stop i Hc ∧ Q (.ref Dn) Hc) ∨ (J.go i Hc ∧ ∃ Nx : Hp → Prop, (∀ H', Nx H' → ∃ m', m' < m ∧ W (i + 1) m' H') ∧ ∀ x H', J.yld i Hc x H' → g x (wipe σ vs) H' fun σ2 H2 => wipe σ2 vs = wipe σ vs ∧ tt σ2 H2 fun b H3 =>
    if b = true then te σ2 H3 fun y H4 => ∃ (p : Addr) (d : D) (Z : List Row), y = .ref p ∧ H4 Dn = some (SxO w Dn Z) ∧ RowsOk K mg H4 Z ∧ Rep K mg H4 (.ref p) d ∧ kOk 8 d = true ∧ Z.length < 305 ∧
      ∀ Z', (d.nk ∈ (kz Z).map (·.2) → Z' = Z) → (d.nk ∉ (kz Z).map (·.2) → Z'.Perm ((p, d) :: Z)) → Nx (upd H4 Dn (SxO w Dn Z')) else Nx H3)
theorem pe_sx {elt tg iter : PySem.Expr} {ifs : List PySem.Expr} {scope : Scope} {own : List (Str × Nat)} {pos : Pos} {wi : TI} {g : TG} {tt : TT} {te : TE} (hc : X.calm = true) (hu : X.A.units + 16 < cLine) (hN : X.N.Nodup) (hi : PI X tg iter wi) (ok : BlkOk X.N X.env.scope scope own)
    (hg : ∀ (s : Shared) (H : Hp) (C : Addr) (cl : List (Str × Addr)) (fp : List Addr), PG (X.blk s H scope (compEnvC scope cl C X.env) fp) tg g) (ht : ∀ (s : Shared) (H : Hp) (C : Addr) (cl : List (Str × Addr)) (fp : List Addr), PTs (X.blk s H scope (compEnvC scope cl C X.env) fp) ifs tt)
    (he : ∀ (s : Shared) (H : Hp) (C : Addr) (cl : List (Str × Addr)) (fp : List Addr), PE (X.blk s H scope (compEnvC scope cl C X.env) fp) elt te) (hs : ∀ x, foldedSetIterable iter X.env x = pure x := by intro _; rfl) :
    PE X (.SetComp elt [⟨tg, iter, ifs, 0⟩] scope pos) (tSx X.K X.mg X.w wi g tt te (own.map (·.2))) := by
  refine ⟨fun pins s σ H Q I h => ?_⟩
  rw [eval_SetComp]
  have frees : ∀ y ∈ scope.names, y.2 = .free → ∃ c, X.env.cells.lookup y.1 = some c := fun y hy e => I.ok.has _ (by
    rcases ok.free y hy e with z | z
    · exact .inl z
    · exact .inr z)
  refine wpAny_comprehension_free (use := none) rfl hs (closure_ok frees) ok.kind (fun y hy e => by rw [ok.uniq y hy, e]) (thn (hi.run pins s σ H _ I h) fun xv s1 k1 => thn k1 fun itv s2 k2 => ?_)
  obtain ⟨it, fp, tn, J, H2, rfl, I2, T, st2, fr2, q⟩ := k2
  refine newSet_ok (newEnv_comp ?_)
  obtain ⟨Dn, hDn⟩ : ∃ n, s2.heap.objs.size = n := ⟨_, rfl⟩
  rw [hDn]
  have noD : H2 Dn = none := I2.hok.fresh (Nat.le_of_eq hDn)
  obtain ⟨W, ⟨m0, w0⟩, turn⟩ := q Dn noD
  -- the new set
  let emp : Obj := { cls := .type "set", dict := none, data := .set #[] 0 (.fresh 0 0 (!X.w.params.followText "set-order")) }
  obtain ⟨s3, hs3⟩ : ∃ z : Shared, z = { s2 with heap := s2.heap.push emp } := ⟨_, rfl⟩
  have hp3 : s3.heap = s2.heap.push emp := by rw [hs3]
  obtain ⟨H3, hH3⟩ : ∃ z, z = upd H2 Dn (SxO X.w Dn []) := ⟨_, rfl⟩
  rw [← hH3] at w0
  have I3 : Inv X pins σ H3 s3 := by
    rw [hs3, hH3]
    refine I2.laid (t' := s2.toks) (fun b o e => Heap.get?_push_of_some _ e) (Nat.le_of_eq hDn) (SxO_new ⟨#[], 0, _, SS.Sx.fresh ?_⟩)
    rw [← hDn]
    exact Heap.get?_push_size _ rfl
  have small : ∀ b ∈ fp, b < s2.heap.objs.size := fun b hb => let ⟨o, e, _⟩ := T.obj _ _ st2 b hb; Heap.lt_size e
  have fr3 : ∀ b ∈ fp, FpOk X pins H3 b ∧ b < s3.heap.objs.size := fun b hb => by
    have lt := small b hb
    obtain ⟨z1, z2⟩ := fr2 b hb
    refine ⟨⟨?_, z2⟩, by rw [hp3, Heap.size_push]; exact Nat.lt_succ_of_lt lt⟩
    rw [hH3, upd_ne (fun z => Nat.lt_irrefl _ (by rw [z, ← hDn] at lt; exact lt))]
    exact z1
  have st3 : tn 0 s3.heap := T.keep _ _ _ st2 fun b _ o e => by rw [hp3]; exact Heap.get?_push_of_some _ e
  have I4 := block_start I3 ok hN fr3
  have none3 : ∀ b ∈ fp, H3 b = none := fun b hb => (fr3 b hb).1.1
  have pg := hg s3 H3 s3.heap.objs.size (cellsFrom (s3.heap.objs.size + 1) scope.names (cloFrom X.env.cells scope.names [])) fp
  have pt := ht s3 H3 s3.heap.objs.size (cellsFrom (s3.heap.objs.size + 1) scope.names (cloFrom X.env.cells scope.names [])) fp
  have pe := he s3 H3 s3.heap.objs.size (cellsFrom (s3.heap.objs.size + 1) scope.names (cloFrom X.env.cells scope.names [])) fp
  have hst3 : ({ s2 with heap := s2.heap.push { cls := .type "set", dict := none, data := .set #[] 0 (.fresh 0 0 (!X.w.params.followText "set-order")) } } : Shared) = s3 := hs3.symm
  rw [hst3]
  show codeAny _ _ (.compStart (.SetComp elt [⟨tg, iter, ifs, 0⟩] scope pos) 0 (.ref it) (.ref Dn) (compEnvC scope (cellsFrom (s3.heap.objs.size + 1) scope.names (cloFrom X.env.cells scope.names [])) s3.heap.objs.size X.env)) (compPost (model X.prog X.w) X.A X.xe none _ (.ref Dn) s3.heap.objs.size) { s3 with heap := pushCells (s3.heap.push { cls := .type "dict", data := .dict #[] }) scope.names }
  generalize hce : compEnvC scope (cellsFrom (s3.heap.objs.size + 1) scope.names (cloFrom X.env.cells scope.names [])) s3.heap.objs.size X.env = ce at I4 pg pt pe ⊢
  have locs : ce.locals = s3.heap.objs.size := by rw [← hce]; rfl
  generalize hs4 : ({ s3 with heap := pushCells (s3.heap.push { cls := .type "dict", data := .dict #[] }) scope.names } : Shared) = s4 at I4 ⊢
  have st4 : tn 0 s4.heap := T.keep _ _ _ st3 fun b _ o e => by rw [← hs4]; exact pushCells_keeps _ _ _ _ (Heap.get?_push_of_some _ e)
  have stays : ∀ {σ' : L2.St} {H' : Hp} {s' : Shared}, Inv (X.blk s3 H3 scope ce fp) [] σ' H' s' → (∀ b ∈ fp, H' b = none) → ∀ b ∈ fp, FpOk (X.blk s3 H3 scope ce fp) [] H' b := fun {σ' H' s'} I' n' b hb =>
    ⟨n' b hb, (I'.ok.exf b hb).1, I'.ok.exfs b hb, .inl hb, fun x c e => (I'.ok.exf b hb).2 x c e, fun p hp => by
      have hp : p ∈ ([] : List (Addr × Obj)) ++ [] := hp
      simp at hp⟩
  have loop : codeAny (model X.prog X.w) X.A (.compLoop (.SetComp elt [⟨tg, iter, ifs, 0⟩] scope pos) 0 (.ref it) (.ref Dn) ce) (compPost (model X.prog X.w) X.A X.xe none (EP X pins σ Q) (.ref Dn) s3.heap.objs.size) s4 := by
    refine compLoopS_any (fun n s' => ∃ i Hc, Inv (X.blk s3 H3 scope ce fp) [] (wipe σ (own.map (·.2))) Hc s' ∧ tn i s'.heap ∧ (∀ b ∈ fp, Hc b = none) ∧ W i n Hc) ?_ m0 ⟨0, H3, I4, st4, none3, w0⟩
    rintro n s5 ⟨i, H5, I5, st5, n5, w5⟩
    rcases turn i n H5 w5 with ⟨halt, fin⟩ | ⟨go, Nx, back, step⟩
    · refine thnF (T.done (X.blk s3 H3 scope ce fp) rfl rfl rfl hc i [] s5 _ H5 (fun _ _ => False) I5 (stays I5 n5) st5 halt) fun r s6 ⟨hr, I6⟩ => ?_
      subst hr
      have I7 : Inv X pins σ H5 s6 := I3.call' (ch := fp) I6.os I6.base I6.hok I6.bare fun b hb => by
        obtain ⟨⟨_, z1, z2, z3, z4, z5⟩, _⟩ := fr3 b hb
        exact ⟨z3, z1, z4, z5⟩
      have fC : H5 s3.heap.objs.size = none := by
        have z : H5 ce.locals = none := I6.free
        rwa [locs] at z
      obtain ⟨m, hm, _⟩ := I6.loc
      have hm : s6.heap.Ns ce.locals m := hm
      rw [locs] at hm
      obtain ⟨f0, f1, f2, f3, f4, f5⟩ := I3.fpOk (Nat.le_refl _) fC
      exact ⟨m, hm, fun h2 sb => ⟨.ref Dn, H5, I7.turned (t' := s6.toks) (fun b o hb e => (sb.2 b hb).trans e) f0 f1 f3 f4 f5, rfl, fin⟩⟩
    · refine thnF (T.item (X.blk s3 H3 scope ce fp) rfl rfl rfl hc i [] s5 _ H5 (fun _ _ => False) I5 (stays I5 n5) st5 go) fun r s6 ⟨u, hr, k6⟩ => ?_
      subst hr
      refine thnF k6 fun _ s7 ⟨x, H7, I7, r7, y7, st7, n7⟩ => ?_
      refine thnF (pg.run _ s7 _ H7 x u _ (I7.pinned (stays I7 n7) (T.obj _ _ st7)) r7 (step x H7 y7)) fun _ s8 ⟨σ8, H8, I8, hw8, q8⟩ => ?_
      refine thnF (pt.run _ s8 σ8 H8 _ I8 q8) fun b s9 ⟨H9, I9, q9⟩ => ?_
      -- behind the turn
      have next : ∀ {s' : Shared} {H' : Hp}, Inv (X.blk s3 H3 scope ce fp) ([] ++ pinsAt fp s7.heap) σ8 H' s' → Nx H' → ∃ m, m < n ∧ ∃ i Hc, Inv (X.blk s3 H3 scope ce fp) [] (wipe σ (own.map (·.2))) Hc s' ∧ tn i s'.heap ∧ (∀ b ∈ fp, Hc b = none) ∧ W i m Hc := fun {s' H'} I' nx => by
        obtain ⟨m', lt, w'⟩ := back H' nx
        have pin' : ∀ b ∈ fp, ∀ o, s7.heap.get? b = some o → s'.heap.get? b = some o ∧ H' b = none := fun b hb o e => by
          obtain ⟨z1, z2, _⟩ := I'.pin (b, o) (List.mem_append_right _ (List.mem_append_right _ (mem_pinsAt hb e)))
          exact ⟨z1, z2⟩
        refine ⟨m', lt, i + 1, H', (I'.unpinned (pins := [])).weak (by rw [← hw8, wipe_length]) (fun j v e => ?_), T.keep _ _ _ st7 fun b hb o e => (pin' b hb o e).1, fun b hb => ?_, w'⟩
        · rw [← hw8] at e
          exact (wipe_some e).1
        · have ⟨o, e, _⟩ := T.obj _ _ st7 b hb
          exact (pin' b hb o e).2
      cases b with
      | false =>
        simp only [Bool.false_eq_true, if_false] at q9 ⊢
        exact next I9 q9
      | true =>
        simp only [if_true] at q9 ⊢
        refine thnF (pe.run _ s9 σ8 H9 _ I9 q9) fun z s10 ⟨yv, H10, I10, r10, p, d, Z, ey, hD10, rok, rp, kd, few, nx⟩ => ?_
        subst ey
        cases r10
        exact add_sx (X := X.blk s3 H3 scope ce fp) I10 hu hD10 rok rp kd few fun s11 Z' z1 z2 I11 => next I11 (nx Z' z1 z2)
  exact codeAny_compStart_set loop (T.self X.A 0 _ _ _ st4 loop)
end
end DL
set_option Elab.async false
set_option linter.all false
set_option maxRecDepth 100000
set_option maxHeartbeats 1000000
/-! SD: sorted(list), sorted({.. for ..}) by data. -/
namespace DL
open PySem PySem.Spec PyProof.Rows L2 PySem.W
def toksD (d : D) : List (Int ⊕ List Nat) := keyToks d.py
/-- a may stand before b -/
def leD (a b : D) : Bool := sortLe (listOrd itemOrd) false toksD a b
def sortD (xs : List D) : List D := xs.mergeSort leD
theorem leD_total : TotalLe leD := sortLe_total (listOrd itemOrd) false toksD
def tup1 : D → Bool
  | .tup (_ :: _) => true
  | _ => false
def plainK : D → Bool
  | .bl _ => true
  | .int _ => true
  | .str _ => true
  | .lst _ => true
  | _ => false
def alikes (xs : List D) : Bool := xs.all fun a => xs.all fun b => alike a.py b.py
def sortOk (xs : List D) : Bool := dOks 15 xs && alikes xs && (xs.all tup1 || xs.all plainK) && decide (xs.length ≤ lim)
theorem sortOk_iff {xs : List D} : sortOk xs = true ↔ dOks 15 xs = true ∧ alikes xs = true ∧ (xs.all tup1 = true ∨ xs.all plainK = true) ∧ xs.length ≤ lim := by
  unfold sortOk
  simp only [Bool.and_eq_true, Bool.or_eq_true, decide_eq_true_eq, and_assoc]
theorem dOks_mem : ∀ {xs : List D} {n : Nat}, dOks n xs = true → ∀ d ∈ xs, dOk n d = true
  | [], _, _, _, h => by cases h
  | x :: xs, n, e, d, h => by
    have e : (dOk n x && dOks n xs) = true := e
    rw [Bool.and_eq_true] at e
    cases h with
    | head => exact e.1
    | tail _ h => exact dOks_mem e.2 d h
theorem sortable_of {xs : List D} (h : xs.all tup1 = true ∨ xs.all plainK = true) : Sortable (xs.map D.py) := by
  rcases h with h | h
  · refine .inl fun p hp => ?_
    obtain ⟨d, hd, rfl⟩ := List.mem_map.mp hp
    have z := List.all_eq_true.mp h d hd
    cases d with
    | tup l =>
      cases l with
      | nil => cases z
      | cons x r => exact ⟨_, _, rfl⟩
    | _ => cases z
  · refine .inr fun p hp => ?_
    obtain ⟨d, hd, rfl⟩ := List.mem_map.mp hp
    have z := List.all_eq_true.mp h d hd
    cases d with
    | tup l => cases z
    | non => cases z
    | obj _ _ _ => cases z
    | _ => exact ⟨fun e => (by cases e), fun _ e => (by cases e)⟩
theorem alikes_of {xs : List D} (h : alikes xs = true) : AllAlike (xs.map D.py) := fun p hp q hq => by
  obtain ⟨d, hd, rfl⟩ := List.mem_map.mp hp
  obtain ⟨e, he, rfl⟩ := List.mem_map.mp hq
  exact List.all_eq_true.mp (List.all_eq_true.mp h d hd) e he
/-- values and what they stand for -/
theorem each_reads {h : Heap} : ∀ {zs : List (Value × D)}, (∀ z ∈ zs, ∃ as, Reads h z.1 z.2.py as) → EachIs (fun v d => ∃ as, Reads h v d as) (zs.map (·.1)) ((zs.map (·.2)).map D.py)
  | [], _ => .nil
  | z :: zs, q => .cons (q z List.mem_cons_self) (each_reads fun y hy => q y (List.mem_cons_of_mem _ hy))
theorem each_pair {h : Heap} {ds : List PyData} (al : AllAlike ds) : ∀ {zs : List (Value × D)}, (∀ z ∈ zs, z.2.py ∈ ds ∧ ∃ as, Reads h z.1 z.2.py as) → EachIs (fun v (z : Value × D) => (dataKind h ds).keyOf v = some (toksD z.2)) (zs.map (·.1)) zs
  | [], _ => .nil
  | z :: zs, q => by
    obtain ⟨m, as, r⟩ := q z List.mem_cons_self
    exact .cons (dataKind_some al m r) (each_pair al fun y hy => q y (List.mem_cons_of_mem _ hy))
theorem each_self {zs : List (Value × D)} : EachIs (fun v (z : Value × D) => v = z.1) (zs.map (·.1)) zs := by
  induction zs with
  | nil => exact .nil
  | cons z zs ih => exact .cons rfl ih
theorem each_vals {out : List Value} {zs : List (Value × D)} (e : EachIs (fun v (z : Value × D) => v = z.1) out zs) : out = zs.map (·.1) := by
  induction e with
  | nil => rfl
  | cons h _ ih => rw [List.map_cons, h, ih]
def leP (a b : Value × D) : Bool := leD a.2 b.2
/-- what list.sort makes of the values -/
theorem sort_pairs {h : Heap} (zs : List (Value × D)) (al : alikes (zs.map (·.2)) = true) (q : ∀ z ∈ zs, ∃ as, Reads h z.1 z.2.py as) :
    sortVals (dataKind h ((zs.map (·.2)).map D.py)) false (zs.map (·.1)) (zs.map (·.1)) = (zs.mergeSort leP).map (·.1) := by
  have z := sortVals_each (κ := dataKind h ((zs.map (·.2)).map D.py)) (rev := false) (fun z : Value × D => toksD z.2) (each_self (zs := zs)) (each_pair (alikes_of al) fun z hz => ⟨List.mem_map_of_mem (List.mem_map_of_mem hz), q z hz⟩)
  exact each_vals z
section
variable {X : Cx} {pins : List (Addr × Obj)} {σ : L2.St} {H : Hp} {s : Shared} {E : Value → Shared → Prop}
theorem reads_of (I : Inv X pins σ H s) {v : V} {u : Value} {d : D} (r : Rep X.K X.mg H v d) (rv : RelV v u) (k : dOk 15 d = true) : ∃ as, Reads s.heap u d.py as := Dp.reads I d.py v u (r.dp _ _ _ k) rv
theorem sorts_at {A : Around} {s' : Shared} (zs : List (Value × D)) (q : ∀ z ∈ zs, ∃ as, Reads s'.heap z.1 z.2.py as) (ok : sortOk (zs.map (·.2)) = true) (hu : A.units + 20 < cLine) : SortsAt X.prog X.w A s' (dataKind s'.heap ((zs.map (·.2)).map D.py)) (zs.map (·.1)) := by
  obtain ⟨k1, k2, k3, k4⟩ := sortOk_iff.mp ok
  refine SortsAt.data (each_reads q) (alikes_of k2) (sortable_of k3) fun p hp => ?_
  obtain ⟨d, hd, rfl⟩ := List.mem_map.mp hp
  have := (dOk_lay d 15 (dOks_mem k1 d hd)).2
  omega
/-! ### sorted(list) -/
theorem zip_vals : ∀ {ws : List (V × D)} {us : List Value}, Vals (ws.map (·.1)) us → ∃ W : List ((V × D) × Value), W.map (·.1) = ws ∧ W.map (·.2) = us ∧ ∀ x ∈ W, RelV x.1.1 x.2
  | [], _, e => by cases e; exact ⟨[], rfl, rfl, by simp⟩
  | w :: ws, _, e => by
    cases e with
    | @cons _ u _ us e1 e2 =>
      obtain ⟨W, h1, h2, h4⟩ := zip_vals e2
      refine ⟨(w, u) :: W, by rw [List.map_cons, h1], by rw [List.map_cons, h2], fun x hx => ?_⟩
      cases hx with
      | head => exact e1
      | tail _ hx => exact h4 x hx
theorem unzip_vals : ∀ {W : List ((V × D) × Value)}, (∀ x ∈ W, RelV x.1.1 x.2) → Vals (W.map (·.1.1)) (W.map (·.2))
  | [], _ => .nil
  | x :: W, q => .cons (q x List.mem_cons_self) (unzip_vals fun y hy => q y (List.mem_cons_of_mem _ hy))
def leV (a b : V × D) : Bool := leD a.2 b.2
def leW (a b : (V × D) × Value) : Bool := leD a.1.2 b.1.2
def rSortL (K : PySem.W.Frag) (mg : Str → Option Value) : List V → Hp → VK → Prop := fun vs H Q => ∃ (l : Addr) (ws : List (V × D)), vs = [.ref l] ∧ SqL K H l (ws.map (·.1)) ∧ (∀ x ∈ ws, Rep K mg H x.1 x.2) ∧ sortOk (ws.map (·.2)) = true ∧
  ∀ p, H p = none → Q (.ref p) (upd H p (.lst ((ws.mergeSort leV).map (·.1))))
theorem cr_sortL (hu : X.A.units + 65 < cLine) : CallR X (.builtin "sorted") (rSortL X.K X.mg) := by
  intro pins s σ H vs us Q I r h
  obtain ⟨l, ws, rfl, hl, rr, ok, q⟩ := h
  obtain ⟨its, rv, pl, hz⟩ := I.list hl
  rw [Vals.ref1 r]
  obtain ⟨W, w1, w2, w4⟩ := zip_vals rv
  subst w1
  subst w2
  obtain ⟨k1, k2, k3, k4⟩ := sortOk_iff.mp ok
  let zs : List (Value × D) := W.map fun x => (x.2, x.1.2)
  have m1 : zs.map (·.1) = W.map (·.2) := by show (W.map _).map _ = _; rw [List.map_map]; rfl
  have m2 : zs.map (·.2) = (W.map (·.1)).map (·.2) := by show (W.map _).map _ = _; rw [List.map_map, List.map_map]; rfl
  have rd : ∀ (h' : Heap), (∀ b o, s.heap.get? b = some o → h'.get? b = some o) → ∀ z ∈ zs, ∃ as, Reads h' z.1 z.2.py as := fun h' kp z hm => by
    obtain ⟨x, hx, rfl⟩ := List.mem_map.mp hm
    obtain ⟨as, ra⟩ := reads_of I (rr _ (List.mem_map_of_mem hx)) (w4 x hx) (dOks_mem k1 _ (List.mem_map_of_mem (List.mem_map_of_mem hx)))
    exact ⟨as, PyProof.Rows.Reads.keeps kp ra⟩
  have kp : ∀ b o, s.heap.get? b = some o → (sortingHeap (copyHeap s.heap (W.map (·.2))) (s.heap.objs.size + 1) (W.map (·.2))).get? b = some o := fun b o e => sorting_copy_old e
  have S := sorts_at (X := X) (A := X.A.in1.in1) (s' := { s with heap := sortingHeap (copyHeap s.heap (W.map (·.2))) (s.heap.objs.size + 1) (W.map (·.2)) }) zs (rd _ kp) (by rw [m2]; exact ok) (show X.A.units + 1 + 1 + 20 < cLine by omega)
  rw [m1] at S
  have srt := sort_pairs zs (by rw [m2]; exact k2) (rd _ kp)
  rw [m1] at srt
  have srt2 : zs.mergeSort leP = (W.mergeSort leW).map fun x => (x.2, x.1.2) := (sort_maps (r := leW) (s := leP) (fun x : (V × D) × Value => (x.2, x.1.2)) fun _ _ _ _ => rfl).symm
  have srt3 : (W.map (·.1)).mergeSort leV = (W.mergeSort leW).map (·.1) := (sort_maps (r := leW) (s := leV) (fun x : (V × D) × Value => x.1) fun _ _ _ _ => rfl).symm
  refine sorted_vals (κ := dataKind (sortingHeap (copyHeap s.heap (W.map (·.2))) (s.heap.objs.size + 1) (W.map (·.2))) ((zs.map (·.2)).map D.py)) pl.isList S (by rw [← rv.length]; exact hz) ?_
  rw [srt, srt2, List.map_map]
  obtain ⟨ep, he⟩ := PyProof.Rows.sortedAll_at s.heap (W.map (·.2)) (((W.mergeSort leW).map ((·.1) ∘ fun x => (x.2, x.1.2)))).toArray
  have pm := List.mergeSort_perm W leW
  have v1 := unzip_vals (W := W.mergeSort leW) fun x hx => w4 x (pm.mem_iff.mp hx)
  have lenO : ((W.mergeSort leW).map (·.1.1)).length ≤ sizeLine := by
    rw [List.length_map, pm.length_eq]
    simpa using hz
  have fin := q (s.heap.objs.size + 1) (I.hok.fresh (Nat.le_succ _))
  rw [srt3, List.map_map] at fin
  exact ⟨.ref _, upd H (s.heap.objs.size + 1) (.lst ((W.mergeSort leW).map (·.1.1))), I.laid (t' := s.toks) (fun _ _ => PyProof.Rows.sortedAll_old) (Nat.le_succ _) ⟨lenO, _, ep, v1, he⟩, rfl, fin⟩
/-! ### sorted(set) -/
def rSortX (K : PySem.W.Frag) (mg : Str → Option Value) (w : World) : List V → Hp → VK → Prop := fun vs H Q => ∃ (a : Addr) (Z : List Row), vs = [.ref a] ∧ H a = some (SxO w a Z) ∧ RowsOk K mg H Z ∧ sortOk (Z.map (·.2)) = true ∧ Z.length < 4000 ∧
  ∀ (p : Addr) (Z' : List Row), Z'.Perm Z → (Z'.map (·.2)).Pairwise (fun a b => leD a b = true) → H p = none → Q (.ref p) (upd H p (.lst (Z'.map fun z => V.ref z.1)))
theorem sortOk_perm {xs ys : List D} (pm : xs.Perm ys) (h : sortOk ys = true) : sortOk xs = true := by
  obtain ⟨k1, k2, k3, k4⟩ := sortOk_iff.mp h
  refine sortOk_iff.mpr ⟨?_, ?_, ?_, by rw [pm.length_eq]; exact k4⟩
  · have : ∀ l : List D, (∀ d ∈ l, dOk 15 d = true) → dOks 15 l = true := by
      intro l
      induction l with
      | nil => exact fun _ => rfl
      | cons x l ih =>
        intro q
        show (dOk 15 x && dOks 15 l) = true
        rw [q x List.mem_cons_self, ih fun d hd => q d (List.mem_cons_of_mem _ hd)]
        rfl
    exact this xs fun d hd => dOks_mem k1 d (pm.mem_iff.mp hd)
  · unfold alikes at k2 ⊢
    simp only [List.all_eq_true] at k2 ⊢
    exact fun a ha b hb => k2 a (pm.mem_iff.mp ha) b (pm.mem_iff.mp hb)
  · simp only [List.all_eq_true] at k3 ⊢
    exact k3.imp (fun q a ha => q a (pm.mem_iff.mp ha)) fun q a ha => q a (pm.mem_iff.mp ha)
theorem cr_sortX (hc : X.calm = true) (hu : X.A.units + 65 < cLine) : CallR X (.builtin "sorted") (rSortX X.K X.mg X.w) := by
  intro pins s σ H vs us Q I r h
  obtain ⟨a, Z, rfl, ha, rok, ok, few, q⟩ := h
  obtain ⟨es, ep, t, R⟩ := SxO_get I ha
  rw [Vals.ref1 r]
  obtain ⟨o, ho, hex, hd⟩ := R.ob
  have len : es.size = Z.length := by rw [SS.rows_len R.rows, kz, List.length_map]
  refine Calls.call_function_entry kind_sorted plain_sorted entry_sorted (args_sorted1 _) ?_
  unfold Builtin.«sorted»
  refine wpAny_bind (m := checkCount "sorted" 1 1 _) (wpAny_pure ?_)
  refine wpAny_bind (collect_set (A := X.A.in1) (I.ok.hd hc) ⟨o, ho, hex.1, hd⟩ R.fits (by unfold scanBound; omega) R.tab.up R.led fun s1 vs1 kp1 sz1 g1 o1 pm => ?_)
  have ev : es.toList.map (·.2) = Z.map fun z => Value.ref z.1 := by
    rw [R.rows, SS.rws, kz, List.map_map, List.map_map]
    rfl
  rw [ev] at pm
  obtain ⟨Z1, p1, rfl⟩ := perm_img pm Z rfl
  obtain ⟨k1, k2, k3, k4⟩ := sortOk_iff.mp ok
  have ok1 : sortOk (Z1.map (·.2)) = true := sortOk_perm (p1.map _) ok
  have lenZ : (Z1.map fun z => Value.ref z.1).length ≤ sizeLine := by rw [List.length_map, p1.length_eq, sizeLine_eq]; omega
  refine wpAny_bind (wpAny_newList ?_ lenZ)
  obtain ⟨L, hL⟩ : ∃ L, s1.heap.objs.size = L := ⟨_, rfl⟩
  have atL : (s1.heap.push (seqObj "list" (Z1.map fun z => Value.ref z.1).toArray 0)).get? L = some (seqObj "list" (Z1.map fun z => Value.ref z.1).toArray 0) := by rw [← hL]; exact Heap.get?_push_size _ rfl
  have kp2 : ∀ b u, s.heap.get? b = some u → b ≠ L ∧ (s1.heap.push (seqObj "list" (Z1.map fun z => Value.ref z.1).toArray 0)).get? b = some u := fun b u e => by
    have z := kp1 b u e
    exact ⟨fun y => by rw [y, ← hL] at z; exact Nat.lt_irrefl _ (Heap.lt_size z), Heap.get?_push_of_some _ z⟩
  rw [hL]
  generalize s1.heap.push (seqObj "list" (Z1.map fun z => Value.ref z.1).toArray 0) = h2 at atL kp2 ⊢
  let zs : List (Value × D) := Z1.map fun z => (Value.ref z.1, z.2)
  have m1 : zs.map (·.1) = Z1.map fun z => Value.ref z.1 := by show (Z1.map _).map _ = _; rw [List.map_map]; rfl
  have m2 : zs.map (·.2) = Z1.map (·.2) := by show (Z1.map _).map _ = _; rw [List.map_map]; rfl
  have rd : ∀ (h' : Heap), (∀ b o, s.heap.get? b = some o → h'.get? b = some o) → ∀ z ∈ zs, ∃ as, Reads h' z.1 z.2.py as := fun h' kp z hm => by
    obtain ⟨x, hx, rfl⟩ := List.mem_map.mp hm
    have hx' := p1.mem_iff.mp hx
    obtain ⟨as, ra⟩ := reads_of I (rok x hx').1 (show RelV (.ref x.1) (.ref x.1) from rfl) (dOks_mem k1 _ (List.mem_map_of_mem hx'))
    exact ⟨as, PyProof.Rows.Reads.keeps kp ra⟩
  have kp3 : ∀ b o, s.heap.get? b = some o → (sortingHeap h2 L (Z1.map fun z => Value.ref z.1)).get? b = some o := fun b o e => sortingHeap_old (kp2 b o e).1 (kp2 b o e).2
  have S := sorts_at (X := X) (A := X.A.in1.in1) (s' := { s1 with heap := sortingHeap h2 L (Z1.map fun z => Value.ref z.1) }) zs (rd _ kp3) (by rw [m2]; exact ok1) (show X.A.units + 1 + 1 + 20 < cLine by omega)
  rw [m1] at S
  have srt := sort_pairs zs (by rw [m2]; exact (sortOk_iff.mp ok1).2.1) (rd _ kp3)
  rw [m1] at srt
  have srt2 : zs.mergeSort leP = (Z1.mergeSort fun a b => leD a.2 b.2).map fun z => (Value.ref z.1, z.2) := (sort_maps (r := fun a b : Row => leD a.2 b.2) (s := leP) (fun z : Row => (Value.ref z.1, z.2)) fun _ _ _ _ => rfl).symm
  have pm1 := List.mergeSort_perm Z1 fun a b : Row => leD a.2 b.2
  refine wpAny_bind (wpAny_holding (wpAny_call_entry slot_list_sort ⟨_, atL, rfl⟩ entry_list_sort (list_sort_vals (s := { s1 with heap := h2 }) atL S lenZ ⟨_, rfl, ?_⟩) (args_list_sort _)))
  rw [srt, srt2, List.map_map]
  obtain ⟨c, hc2⟩ := sortedHeap_at (vs := Z1.map fun z => Value.ref z.1) (out := ((Z1.mergeSort fun a b => leD a.2 b.2).map ((·.1) ∘ fun z => (Value.ref z.1, z.2))).toArray) atL
  refine wpAny_pure ⟨_, rfl, ?_⟩
  have kp4 : ∀ b o, s.heap.get? b = some o → (sortedHeap h2 L (Z1.map fun z => Value.ref z.1) ((Z1.mergeSort fun a b => leD a.2 b.2).map ((·.1) ∘ fun z => (Value.ref z.1, z.2))).toArray).get? b = some o := fun b o e => by
    rw [sortedHeap_old (kp2 b o e).1 (Heap.lt_size (kp2 b o e).2)]
    exact (kp2 b o e).2
  have fr : H L = none := I.hok.fresh (by rw [← hL]; exact sz1)
  generalize hZ2 : (Z1.mergeSort fun a b => leD a.2 b.2) = Z2 at pm1 hc2 kp4 ⊢
  have vals : Vals (Z2.map fun z => V.ref z.1) (Z2.map ((·.1) ∘ fun z => (Value.ref z.1, z.2))) := by
    clear hZ2 pm1 hc2 kp4
    induction Z2 with
    | nil => exact .nil
    | cons z Z2 ih => exact .cons rfl ih
  have len2 : (Z2.map fun z => V.ref z.1).length ≤ sizeLine := by rw [List.length_map, pm1.length_eq, ← List.length_map (f := fun z : Row => Value.ref z.1) (as := Z1)]; exact lenZ
  have pw : (Z2.map (·.2)).Pairwise fun a b => leD a b = true := by
    have tt : TotalLe fun a b : Row => leD a.2 b.2 := ⟨fun a b c => leD_total.trans a.2 b.2 c.2, fun a b => leD_total.total a.2 b.2⟩
    rw [← hZ2, List.pairwise_map]
    exact sort_pairwise tt Z1
  have e3 : ({ s1 with heap := sortedHeap h2 L (Z1.map fun z => Value.ref z.1) (Z2.map ((·.1) ∘ fun z => (Value.ref z.1, z.2))).toArray } : Shared) = { s with heap := sortedHeap h2 L (Z1.map fun z => Value.ref z.1) (Z2.map ((·.1) ∘ fun z => (Value.ref z.1, z.2))).toArray, gens := s1.gens, drawn := s1.drawn, toks := s1.toks } := by
    cases s1
    cases s
    cases o1
    rfl
  rw [e3]
  exact ⟨.ref L, upd H L (.lst (Z2.map fun z => V.ref z.1)), I.call (ch := []) (Un.laid kp4 (by rw [← hL]; exact sz1) fr) (I.hok.laid kp4 (by rw [← hL]; exact sz1) ⟨len2, _, c, vals, hc2⟩) (by rw [g1]; exact I.bare) (fun _ z => nomatch z), rfl, q L Z2 (pm1.trans p1) pw fr⟩
end
end DL
set_option Elab.async false
set_option linter.all false
set_option maxRecDepth 100000
set_option maxHeartbeats 1000000
/-! SE: sorted(list), sorted({.. for ..}) as rules of data. -/
namespace DL
open PySem PySem.Spec PyProof.Rows L2 PySem.W
def bSorted : List D → Res (List D)
  | [.lst xs] => if sortOk xs = true then .ok (sortD xs) else .st
  | _ => .st
section
variable {K : PySem.W.Frag} {mg : Str → Option Value}
theorem rep_zip {F : Hp} : ∀ {vs : List V} {ds : List D}, RepAll K mg F vs ds → ∃ ws : List (V × D), ws.map (·.1) = vs ∧ ws.map (·.2) = ds ∧ ∀ x ∈ ws, Rep K mg F x.1 x.2
  | [], _, r => by cases r; exact ⟨[], rfl, rfl, by simp⟩
  | v :: vs, _, r => by
    cases r with
    | @cons _ _ d ds a b =>
      obtain ⟨ws, h1, h2, h3⟩ := rep_zip b
      refine ⟨(v, d) :: ws, by rw [List.map_cons, h1], by rw [List.map_cons, h2], fun x hx => ?_⟩
      cases hx with
      | head => exact a
      | tail _ hx => exact h3 x hx
theorem rep_unzip {F : Hp} : ∀ {ws : List (V × D)}, (∀ x ∈ ws, Rep K mg F x.1 x.2) → RepAll K mg F (ws.map (·.1)) (ws.map (·.2))
  | [], _ => .nil
  | x :: ws, q => .cons (q x List.mem_cons_self) (rep_unzip fun y hy => q y (List.mem_cons_of_mem _ hy))
theorem sortV_map (ws : List (V × D)) : (ws.mergeSort leV).map (·.2) = sortD (ws.map (·.2)) := sort_maps (r := leV) (s := leD) (fun x : V × D => x.2) fun _ _ _ _ => rfl
theorem cf_sorted : CaF K mg (rSortL K mg) bSorted := caf_one (len1 (fun a _ _ => by cases a <;> rfl) rfl) fun We F H σ d v Q hF r q => by
  cases d with
  | lst xs =>
    have q : Out K mg We (RF K mg) F H σ Q (if sortOk xs = true then .ok (sortD xs) else .st) := q
    by_cases ok : sortOk xs = true
    · rw [if_pos ok] at q
      cases r with
      | @lst a vs _ sq rr =>
        obtain ⟨ws, rfl, rfl, h3⟩ := rep_zip rr
        refine ⟨a, ws, rfl, SqL.same hF sq, fun x hx => (h3 x hx).mono hF, ok, fun p hp => ?_⟩
        refine q F _ _ (Ext.new0 hF hp) ⟨p, _, rfl, hp, hF.free hp, upd_same, ?_⟩
        have z := rep_unzip (K := K) (mg := mg) (F := F) (ws := ws.mergeSort leV) fun x hx => h3 x ((List.mergeSort_perm ws leV).mem_iff.mp hx)
        rw [sortV_map] at z
        exact z
    · rw [if_neg ok] at q; exact q.elim
  | _ => exact q.elim
end
/-! ### what a set keeps -/
def hasK (acc : List D) (d : D) : Bool := acc.any fun y => NestedKey.beq y.nk d.nk
/-- the first of each key, behind acc -/
def ddS : List D → List D → List D
  | acc, [] => acc
  | acc, d :: ds => ddS (if hasK acc d = true then acc else acc ++ [d]) ds
theorem ddS_append : ∀ (xs ys acc : List D), ddS acc (xs ++ ys) = ddS (ddS acc xs) ys
  | [], _, _ => rfl
  | _ :: xs, ys, _ => ddS_append xs ys _
theorem ddS_len : ∀ (xs acc : List D), acc.length ≤ (ddS acc xs).length
  | [], _ => Nat.le_refl _
  | x :: xs, acc => by
    refine Nat.le_trans ?_ (ddS_len xs _)
    split
    · exact Nat.le_refl _
    · simp
theorem beq_iff {a b : NestedKey} : NestedKey.beq a b = true ↔ a = b := by rw [← NestedKey.decide_eq, decide_eq_true_eq]
theorem hasK_iff {acc : List D} {d : D} : hasK acc d = true ↔ d.nk ∈ acc.map D.nk := by
  unfold hasK
  rw [List.any_eq_true, List.mem_map]
  exact ⟨fun ⟨y, h1, h2⟩ => ⟨y, h1, beq_iff.mp h2⟩, fun ⟨y, h1, h2⟩ => ⟨y, h1, beq_iff.mpr h2⟩⟩
def keyT : D → Bool
  | .tup xs => kOks 7 xs
  | _ => false
/-- no two that stand alike -/
def strictD : List D → Bool
  | [] => true
  | d :: ds => (ds.all fun e => !(leD d e && leD e d)) && strictD ds
def setSort (xs : List D) : Res (List D) := if (xs.all keyT && sortOk (ddS [] xs) && strictD (ddS [] xs) && decide ((ddS [] xs).length < 305)) = true then .ok (sortD (ddS [] xs)) else .st
theorem setSort_ok {xs ys : List D} (h : setSort xs = .ok ys) : xs.all keyT = true ∧ sortOk (ddS [] xs) = true ∧ strictD (ddS [] xs) = true ∧ (ddS [] xs).length < 305 ∧ ys = sortD (ddS [] xs) := by
  unfold setSort at h
  split at h
  · rename_i z
    simp only [Bool.and_eq_true, decide_eq_true_eq, and_assoc] at z
    cases h
    exact ⟨z.1, z.2.1, z.2.2.1, z.2.2.2, rfl⟩
  · cases h
theorem setSort_ner (xs : List D) (x : Exn) : setSort xs ≠ .er x := by
  unfold setSort
  split <;> simp
theorem strict_apart : ∀ {xs : List D}, strictD xs = true → xs.Pairwise fun a b => ¬ (leD a b = true ∧ leD b a = true)
  | [], _ => .nil
  | d :: ds, h => by
    have h : ((ds.all fun e => !(leD d e && leD e d)) && strictD ds) = true := h
    rw [Bool.and_eq_true] at h
    refine .cons (fun e he => ?_) (strict_apart h.2)
    have z := List.all_eq_true.mp h.1 e he
    rw [Bool.not_eq_true', Bool.and_eq_false_iff] at z
    rintro ⟨h1, h2⟩
    rcases z with z | z
    · rw [h1] at z; cases z
    · rw [h2] at z; cases z
/-- one order of a strict list -/
theorem sort_only {xs ys : List D} (st : strictD xs = true) (pm : ys.Perm xs) (pw : ys.Pairwise fun a b => leD a b = true) : ys = sortD xs := by
  have p2 : (sortD xs).Perm xs := List.mergeSort_perm xs leD
  have pw2 : (sortD xs).Pairwise fun a b => leD a b = true := sort_pairwise leD_total xs
  have ap : ∀ a ∈ xs, ∀ b ∈ xs, leD a b = true → leD b a = true → a = b := by
    have := strict_apart st
    intro a ha b hb h1 h2
    apply Classical.byContradiction
    intro ne
    have sym : ∀ {l : List D}, l.Pairwise (fun a b => ¬ (leD a b = true ∧ leD b a = true)) → ∀ a ∈ l, ∀ b ∈ l, a ≠ b → ¬ (leD a b = true ∧ leD b a = true) := by
      intro l pl
      induction pl with
      | nil => intro a ha; cases ha
      | @cons x l hx _ ih =>
        intro a ha b hb ne
        cases ha with
        | head =>
          cases hb with
          | head => exact absurd rfl ne
          | tail _ hb => exact hx b hb
        | tail _ ha =>
          cases hb with
          | head => exact fun z => hx a ha ⟨z.2, z.1⟩
          | tail _ hb => exact ih a ha b hb ne
    exact sym this a ha b hb ne ⟨h1, h2⟩
  exact List.Perm.eq_of_pairwise (le := fun a b => leD a b = true) (fun a b ha hb h1 h2 => ap a (pm.mem_iff.mp ha) b (p2.mem_iff.mp hb) h1 h2) pw pw2 (pm.trans p2.symm)
/-- sorted({..}) -/
def eSsc (sl : List Nat) (fi : DEnv → Res (List D)) (g : D → Option (List D)) (ft : DEnv → Res Bool) (fe : DEnv → Res D) : DEnv → Res (List D) := fun ρ => (fi ρ).bind fun ds => (lcL sl g ft fe ρ ds).bindN setSort
section
variable {X : Cx} {We : WeX} {Si St Se sl : List Nat} {tg iter elt : PySem.Expr} {ifs : List PySem.Expr} {fi : DEnv → Res (List D)} {g : D → Option (List D)} {ft : DEnv → Res Bool} {fe : DEnv → Res D} {p pos cpos : Pos} {scope : Scope} {own : List (Str × Nat)}
theorem ssc_ok {σ : L2.St} {H : Hp} {Q : VK} (hg2 : ∀ d ds, g d = some ds → ds.length = sl.length) (ho : own.map (·.2) = sl)
    (h : tG X.K X.mg We (RF X.K X.mg) (Si ++ minus (St ++ Se) sl) (eSsc sl fi g ft fe) σ H Q) :
    tSx X.K X.mg X.w (tG X.K X.mg We (RI X.K X.mg) Si fi) (tT X.K X.mg sl g) (tG X.K X.mg (We0 We.ex) RB St ft) (tG X.K X.mg (We0 We.ex) (RD X.K X.mg) Se fe) (own.map (·.2)) σ H fun v H' => rSortX X.K X.mg X.w [v] H' Q := by
  obtain ⟨F, ρ, hF, hE, q⟩ := h
  refine ⟨F, ρ, hF, hE.l, Out.bind q fun ds F1 H1 J ex hj q1 => ?_⟩
  intro Dn nD
  rw [ho]
  cases ht : (lcL sl g ft fe ρ ds).bindN setSort with
  | st => rw [ht] at q1; exact q1.elim
  | er x => exact absurd ht (bindN_ner setSort_ner x)
  | ok res =>
    rw [ht] at q1
    obtain ⟨tot, h1, h2⟩ := bindN_ok ht
    obtain ⟨g1, g2, g3, g4, rfl⟩ := setSort_ok h2
    have fD : F1 Dn = none := ex.2.1.free nD
    let Iv : Nat → Hp → Prop := fun i H => ∃ Fc Z accD ys, Ext F1 H1 Fc H ∧ H Dn = some (SxO X.w Dn Z) ∧ Fc Dn = none ∧ RowsOk X.K X.mg Fc Z ∧ (Z.map (·.2)).Perm (ddS [] accD) ∧ lcL sl g ft fe ρ (ds.drop i) = .ok ys ∧ tot = accD ++ ys
    refine ⟨fun i m H => m = ds.length - i ∧ i ≤ ds.length ∧ Iv i H, ⟨ds.length, by simp, Nat.zero_le _, F1, [], [], tot, Ext.new0 ex.2.1 nD, upd_same, fD, (fun _ hz => by cases hz), .nil, h1, rfl⟩, ?_⟩
    rintro i m H' ⟨rfl, hi, Fc, Z, accD, ys, exc, hD, fcD, rok, pmZ, hys, htot⟩
    obtain ⟨j1, j2⟩ := hj i Fc H' exc.1 exc.2.1
    by_cases hlt : i < ds.length
    · right
      have hd : ds[i]? = some ds[i] := List.getElem?_eq_getElem hlt
      obtain ⟨go, yl⟩ := j2 _ hd
      refine ⟨go, Iv (i + 1), fun H'' n => ⟨ds.length - (i + 1), by omega, rfl, hlt, n⟩, fun x H2 y => ?_⟩
      obtain ⟨F2, ex2, rx⟩ := yl x H2 y
      rw [List.drop_eq_getElem_cons hlt] at hys
      have hys : (match g ds[i] with
        | none => .st
        | some vs => (ft (setAll ρ sl (vs.map Slot.d))).bindN fun b => if b then (fe (setAll ρ sl (vs.map Slot.d))).bindN fun y => (lcL sl g ft fe ρ (ds.drop (i + 1))).bindN fun ys => .ok (y :: ys) else lcL sl g ft fe ρ (ds.drop (i + 1))) = Res.ok ys := hys
      cases hgd : g ds[i] with
      | none => rw [hgd] at hys; cases hys
      | some vs =>
        simp only [hgd] at hys
        obtain ⟨b, hb, hys⟩ := bindN_ok hys
        refine ⟨F2, ds[i], vs, ex2.2.1, rx, hgd, hg2 _ _ hgd, fun us ru => ⟨by rw [wipe_setAll sl _ _ fun _ h => h, wipe_wipe], ?_⟩⟩
        have sF2 : Same F F2 := ex.1.trans (exc.1.trans ex2.1)
        have env : EnvE X.K X.mg We.ex (St ++ Se) F2 (setAll (wipe σ sl) sl (us.map some)) (setAll ρ sl (vs.map Slot.d)) := by
          refine ⟨by rw [setAll_length, setAll_length, wipe_length]; exact hE.1, fun k hk s d a1 a2 => ?_, fun k hk x a1 => ?_⟩
          rotate_left
          · obtain ⟨nk, a2⟩ := setAll_exc sl vs ρ (hg2 _ _ hgd) a1
            rcases mem_minus (sl := sl) hk with z | z
            · exact absurd z nk
            · rw [setAll_get nk, wipe_get nk]
              exact (hE.2.2 k (List.mem_append_right _ z) x a2).mono sF2
          refine setAll_rel sl us vs (wipe σ sl) ρ (by rw [wipe_length]; exact hE.1) ru (hg2 _ _ hgd) k s d ?_ a1 a2
          rcases mem_minus (sl := sl) hk with z | z
          · exact .inr z
          · left
            intro s' d' b1 b2
            have nk : k ∉ sl := by
              have := (List.mem_filter.mp z).2
              simpa using this
            rw [wipe_get nk]
            obtain ⟨v, c1, c2⟩ := hE.2.1 k (List.mem_append_right _ z) s' d' b1 b2
            exact ⟨v, c1, c2.mono sF2⟩
        have step : ∀ F3 H3, Ext F2 H2 F3 H3 → Ext F1 H1 F3 H3 ∧ H3 Dn = some (SxO X.w Dn Z) ∧ F3 Dn = none ∧ RowsOk X.K X.mg F3 Z := fun F3 H3 e3 => by
          have d2 : H2 Dn = some (SxO X.w Dn Z) := ex2.2.2.1 _ _ hD
          refine ⟨(exc.trans ex2).trans e3, e3.2.2.1 _ _ d2, ?_, fun z hz => ⟨((rok z hz).1.mono ex2.1).mono e3.1, (rok z hz).2⟩⟩
          rw [e3.2.2.2 _ _ d2, ex2.2.2.2 _ _ hD]; exact fcD
        refine ⟨F2, _, ex2.2.1, env.l, ?_⟩
        rw [hb]
        intro F3 H3 b' ex3 eb
        have eb : b' = b := eb
        subst eb
        cases b' with
        | true =>
          rw [if_pos rfl] at hys ⊢
          obtain ⟨y0, hy0, hys⟩ := bindN_ok hys
          obtain ⟨ys', hys', e3⟩ := bindN_ok hys
          cases e3
          refine ⟨F3, _, ex3.2.1, env.r.mono ex3.1, ?_⟩
          rw [hy0]
          intro F4 H4 v4 ex4 r4
          obtain ⟨s1, s2, s3, s4⟩ := step F4 H4 (ex3.trans ex4)
          have ky : keyT y0 = true := List.all_eq_true.mp g1 y0 (by rw [htot]; simp)
          cases y0 with
          | tup ks =>
            cases r4 with
            | @tup a4 vs4 _ q4 r4 =>
              have lz : Z.length < 305 := by
                have e1 := pmZ.length_eq
                rw [List.length_map] at e1
                have e2 := ddS_len (.tup ks :: ys') (ddS [] accD)
                rw [← ddS_append, ← htot] at e2
                omega
              refine ⟨a4, .tup ks, Z, rfl, s2, fun z hz => ⟨(s4 z hz).1.mono s1.2.1, (s4 z hz).2⟩, (Rep.tup q4 r4).mono s1.2.1, ky, lz, fun Z' c1 c2 => ⟨F4, Z', accD ++ [.tup ks], ys', ?_, upd_same, s3, ?_, ?_, hys', by rw [List.append_assoc]; exact htot⟩⟩
              · refine ⟨s1.1, fun p o q => ?_, fun p o q => ?_, s1.2.2.2⟩
                · rw [upd_ne (fun z => by rw [z, s3] at q; cases q)]; exact s1.2.1 _ _ q
                · rw [upd_ne (ne_of_none q nD)]; exact s1.2.2.1 _ _ q
              · by_cases c : (D.tup ks).nk ∈ (kz Z).map (·.2)
                · rw [c1 c]; exact s4
                · intro z hz
                  cases (c2 c).mem_iff.mp hz with
                  | head => exact ⟨Rep.tup q4 r4, ky⟩
                  | tail _ hz => exact s4 z hz
              · have e0 : (kz Z).map (·.2) = (Z.map (·.2)).map D.nk := by unfold kz; rw [List.map_map, List.map_map]; rfl
                have e1 : ddS [] (accD ++ [.tup ks]) = if hasK (ddS [] accD) (.tup ks) = true then ddS [] accD else ddS [] accD ++ [.tup ks] := by rw [ddS_append]; rfl
                rw [e1]
                by_cases c : (D.tup ks).nk ∈ (kz Z).map (·.2)
                · rw [c1 c, if_pos (hasK_iff.mpr ((pmZ.map D.nk).mem_iff.mp (e0 ▸ c)))]
                  exact pmZ
                · rw [if_neg fun z => c (e0 ▸ (pmZ.map D.nk).mem_iff.mpr (hasK_iff.mp z))]
                  have z := (c2 c).map (fun z : Row => z.2)
                  rw [List.map_cons] at z
                  exact z.trans ((pmZ.cons (D.tup ks)).trans (List.perm_append_singleton (D.tup ks) (ddS [] accD)).symm)
          | _ => cases ky
        | false =>
          rw [if_neg Bool.false_ne_true] at hys ⊢
          obtain ⟨s1, s2, s3, s4⟩ := step F3 H3 ex3
          exact ⟨F3, Z, accD, ys, s1, s2, s3, s4, pmZ, hys, htot⟩
    · left
      have ei : i = ds.length := by omega
      refine ⟨j1 ei, ?_⟩
      rw [List.drop_eq_nil_of_le (by omega)] at hys
      have hys : Res.ok [] = Res.ok ys := hys
      cases hys
      rw [List.append_nil] at htot
      subst htot
      have e1 := pmZ.length_eq
      rw [List.length_map] at e1
      refine ⟨Dn, Z, rfl, hD, fun z hz => ⟨(rok z hz).1.mono exc.2.1, (rok z hz).2⟩, sortOk_perm pmZ g2, by omega, fun p Z' pm pw hp => ?_⟩
      refine q1 Fc _ _ ⟨exc.1, exc.2.1.trans (same_upd hp), exc.2.2.1.trans (same_upd hp), exc.2.2.2⟩ ⟨p, _, rfl, exc.2.2.1.free hp, exc.2.1.free hp, upd_same, ?_⟩
      rw [← sort_only g3 ((pm.map (·.2)).trans pmZ) pw]
      have : ∀ W : List Row, (∀ z ∈ W, Rep X.K X.mg Fc (.ref z.1) z.2) → RepAll X.K X.mg Fc (W.map fun z => V.ref z.1) (W.map (·.2)) := by
        intro W
        induction W with
        | nil => exact fun _ => .nil
        | cons z W ih => exact fun q => .cons (q z List.mem_cons_self) (ih fun y hy => q y (List.mem_cons_of_mem _ hy))
      exact this Z' fun z hz => (rok z (pm.mem_iff.mp hz)).1
theorem pf_ssc (hc : X.calm = true) (hu : X.A.units + 65 < cLine) (hm : X.mg "sorted" = none) (hN : X.N.Nodup) (hi : ID X We Si tg iter fi) (ok : BlkOk X.N X.env.scope scope own) (ho : own.map (·.2) = sl)
    (hg : ∀ (s : Shared) (H : Hp) (C : Addr) (cl : List (Str × Addr)) (fp : List Addr), GD (X.blk s H scope (compEnvC scope cl C X.env) fp) tg sl g)
    (ht : ∀ (s : Shared) (H : Hp) (C : Addr) (cl : List (Str × Addr)) (fp : List Addr), PTsD (X.blk s H scope (compEnvC scope cl C X.env) fp) (We0 We.ex) St ifs ft)
    (he : ∀ (s : Shared) (H : Hp) (C : Addr) (cl : List (Str × Addr)) (fp : List Addr), PD (X.blk s H scope (compEnvC scope cl C X.env) fp) (We0 We.ex) Se elt fe) (hs : ∀ x, foldedSetIterable iter X.env x = pure x := by intro _; rfl)
    (hgl : Gl X "sorted" := by rfl) (hv : bootBuiltins "sorted" = some (.builtin "sorted") := by decide +kernel)
    (hse : starEach [.SetComp elt [⟨tg, iter, ifs, 0⟩] scope cpos] X.env = (false, eval (.SetComp elt [⟨tg, iter, ifs, 0⟩] scope cpos) X.env) :: starEach [] X.env := by rfl) :
    PF X We (Si ++ minus (St ++ Se) sl) (.Call (.Name "sorted" p) [.SetComp elt [⟨tg, iter, ifs, 0⟩] scope cpos] [] pos) (eSsc sl fi g ft fe) :=
  pe_imp (pe_callB (cr_sortX hc hu) hgl hm hv (pa_cons (pe_sx hc (by omega) hN hi ok (fun s H C cl fp => (hg s H C cl fp).1) ht he hs) pa_nil hse)) fun σ H Q h => ssc_ok (hg X.s_0 X.H_0 0 [] []).2 ho h
end
end DL
set_option Elab.async false
set_option linter.all false
set_option maxRecDepth 100000
set_option maxHeartbeats 1000000
namespace Cb
open PySem PySem.Spec PyProof.Rows L2
abbrev nm : String := "itertools.combinations"
theorem mro_c : mroOf (.type "itertools.combinations") = pure [.type "itertools.combinations", .type "object"] := by rw [mroOf_type]; kernel_rfl
theorem new_c : typeLookup (.type "itertools.combinations") "__new__" = pure (some (.builtin "itertools.combinations.__new__")) := by rw [typeLookup_type, builtinLookup_eq_fast]; kernel_rfl
theorem sub_c : isSubtype (.type "itertools.combinations") (.type "itertools.combinations") = pure true := by rw [isSubtype_type]; kernel_rfl
theorem init_c : Slot "itertools.combinations" "__init__" "object.__init__" := by
  refine .of (owner := "object") (n := "__init__") ?_ ?_ ?_ ?_ ?_ ?_
  · rw [typeLookup_type, builtinLookup_eq_fast]; kernel_rfl
  · decide +kernel
  · decide +kernel
  · decide +kernel
  · first | exact .inl (by decide +kernel) | exact .inr (by decide +kernel)
  · rw [isSubtype_type]; kernel_rfl
theorem iter_c : Slot "itertools.combinations" "__iter__" "itertools.combinations.__iter__" := by
  refine .of (owner := "itertools.combinations") (n := "__iter__") ?_ ?_ ?_ ?_ ?_ sub_c
  · rw [typeLookup_type, builtinLookup_eq_fast]; kernel_rfl
  · decide +kernel
  · decide +kernel
  · decide +kernel
  · first | exact .inl (by decide +kernel) | exact .inr (by decide +kernel)
theorem next_c : Slot "itertools.combinations" "__next__" "itertools.combinations.__next__" := by
  refine .of (owner := "itertools.combinations") (n := "__next__") ?_ ?_ ?_ ?_ ?_ sub_c
  · rw [typeLookup_type, builtinLookup_eq_fast]; kernel_rfl
  · decide +kernel
  · decide +kernel
  · decide +kernel
  · first | exact .inl (by decide +kernel) | exact .inr (by decide +kernel)
theorem called_c : TypeCalled "itertools.combinations" "itertools.combinations.__new__" "object.__init__" := by
  refine ⟨?_, ?_, ⟨_, _, mro_c⟩, madeBy_type mro_c new_c ?_, ?_, sub_c, init_c⟩ <;> decide +kernel
theorem tcall_c (a b : Value) : checkTypeCall "itertools.combinations" ⟨[a, b], []⟩ = pure () := by kernel_rfl
theorem ncall_c (a b : Value) : checkBuiltinCall "itertools.combinations.__new__" ⟨[.type "itertools.combinations", a, b], []⟩ = pure () := by kernel_rfl
theorem enew_c : entryFor table "itertools.combinations.__new__" = some Builtin.«itertools.combinations.__new__» := entryFor_of_tree (by kernel_rfl)
theorem enext_c : entryFor table "itertools.combinations.__next__" = some Builtin.«itertools.combinations.__next__» := entryFor_of_tree (by kernel_rfl)
theorem eiter_c : entryFor table "itertools.combinations.__iter__" = some Builtin.«dict_keyiterator.__iter__» := by
  refine entryFor_alias (id' := "dict_keyiterator.__iter__") ?_ ?_ ?_ ?_
  · kernel_rfl
  · first | rfl | decide +kernel | (unfold String.splitOn; simp +decide [String.splitOnAux])
  · decide +kernel
  · kernel_rfl
theorem own_c : Manifest.owners.lookup (String.ofList ("itertools.combinations".toList.reverse).reverse) = some Manifest.sig_itertools_combinations := by kernel_rfl
theorem aiter_c (a : Value) : argsOk "itertools.combinations.__iter__" ⟨[a], []⟩ := by
  unfold argsOk
  rw [signature?_of (id := "itertools.combinations.__iter__") (n := "__iter__".toList.reverse) (o := "itertools.combinations".toList.reverse) (by kernel_rfl) own_c]
  kernel_rfl
theorem anext_c (a : Value) : argsOk "itertools.combinations.__next__" ⟨[a], []⟩ := by
  unfold argsOk
  rw [signature?_of (id := "itertools.combinations.__next__") (n := "__next__".toList.reverse) (o := "itertools.combinations".toList.reverse) (by kernel_rfl) own_c]
  kernel_rfl
theorem nodict_c : typeHasDict (.type "itertools.combinations") = false := by decide +kernel
end Cb
set_option Elab.async false
set_option linter.all false
set_option maxRecDepth 100000
set_option maxHeartbeats 1000000
namespace Cb
open PySem PySem.Spec PyProof.Rows L2

/-- the next row of places -/
def up (n : Nat) (l : List Nat) : Option (List Nat) :=
  match (List.range l.length).reverse.find? (fun j => l.getD j 0 != j + n - l.length) with
  | none => none
  | some j => some (l.take j ++ (List.range (l.length - j)).map (l.getD j 0 + 1 + ·))
def give (self pool : Value) (l : List Nat) : Sem PySem.Fin := do
  let res ← (do let its ← Builtin.Itertools.itPoolItems pool; newTuple (l.map fun j => its.getD j .none))
  let was ← field self 2
  setField self 2 res
  letGo [was] [res]
  ret res
def turnC (self : Value) : Sem PySem.Fin := do
  let pool ← field self 0
  let l ← Builtin.Itertools.itNumbersFrom self 3
  match ← Builtin.Itertools.itIntField self 1 with
  | 0 => setField self 1 (rawInt 1); give self pool l
  | 1 =>
    match up (← Builtin.Itertools.itPoolItems pool).size l with
    | some m => Builtin.Itertools.itSetNumbersFrom self 3 m; give self pool m
    | none => setField self 1 (rawInt 2); Builtin.Itertools.itStop
  | _ => rule "itertools.combinations.ended"; Builtin.Itertools.itStop
theorem turn_eq (self : Value) : Builtin.«itertools.combinations.__next__» ⟨[self], []⟩ = turnC self := by
  first
    | rfl
    | with_unfolding_all rfl
    | kernel_rfl

section
variable {prog : Program} {w : World} {A : Around} {E : Value → Shared → Prop} {s : Shared}
def rawN (l : List Nat) : List Value := l.map fun (j : Nat) => rawInt j
/-- what stands at it -/
def IsC (h : Heap) (it pool : Addr) (st : Int) (old : Value) (l : List Nat) : Prop := h.get? it = some { cls := .type "itertools.combinations", dict := none, data := .fields ([.ref pool, rawInt st, old] ++ rawN l).toArray, slots := #[] }
def IsPool (h : Heap) (pool : Addr) (its : Array Value) : Prop := ∃ o n, h.get? pool = some o ∧ o.data = .seq its n
theorem rawN_len (l : List Nat) : (rawN l).length = l.length := List.length_map ..
theorem wp_give {it pool : Addr} {its : Array Value} {st : Int} {old : Value} {l0 l : List Nat} {Q : PySem.Fin → Shared → Prop} (hi : IsC s.heap it pool st old l0) (hp : IsPool s.heap pool its) (len : l.length ≤ 1000)
    (hQ : ∀ h', IsC h' it pool st (.ref s.heap.objs.size) l0 → h'.get? s.heap.objs.size = some { cls := .type "tuple", data := .seq (l.map fun j => its.getD j .none).toArray } → (∀ b o, b ≠ it → s.heap.get? b = some o → h'.get? b = some o) → Q (.done (.ret (.ref s.heap.objs.size))) { s with heap := h' }) :
    wpAny (model prog w) A (give (.ref it) (.ref pool) l) Q E s := by
  obtain ⟨o, n, ho, hd⟩ := hp
  have lt := Heap.lt_size hi
  unfold give
  refine wpAny_bind (wpAny_bind ?_)
  unfold Builtin.Itertools.itPoolItems
  refine wpAny_bind (wpAny_seqItems ho hd ?_)
  dsimp only
  refine wpAny_pure (wpAny_newTuple ?_ (by rw [List.length_map, sizeLine_eq]; omega))
  generalize hT : (l.map fun j => its.getD j .none) = tt at hQ ⊢
  have hi1 : IsC (s.heap.push { cls := .type "tuple", data := .seq tt.toArray }) it pool st old l0 := Heap.get?_push_of_some _ hi
  refine wpAny_bind (wpAny_field hi1 rfl (x := old) (by simp) ?_)
  refine wpAny_bind (wpAny_setField hi1 rfl (by simp [rawN_len]) ?_)
  refine wpAny_bind (wpAny_letGo ?_)
  refine wpAny_pure (hQ _ ?_ ?_ ?_)
  · have z := Heap.get?_update_self (Obj.mapFields (·.setIfInBounds 2 (Value.ref s.heap.objs.size))) hi1 rfl
    unfold IsC
    rw [z]
    simp [Obj.mapFields]
  · rw [Heap.get?_update_ne _ _ _ _ (Nat.ne_of_gt lt)]
    exact Heap.get?_push_size _ rfl
  · intro b u hb hu
    rw [Heap.get?_update_ne _ _ _ _ hb]
    exact Heap.get?_push_of_some _ hu
theorem numbers_at {it pool : Addr} {st : Int} {old : Value} {l : List Nat} {Q : List Nat → Shared → Prop} (hi : IsC s.heap it pool st old l) (h : Q l s) : wpAny (model prog w) A (Builtin.Itertools.itNumbersFrom (.ref it) 3) Q E s := by
  unfold Builtin.Itertools.itNumbersFrom
  refine wpAny_bind (wpAny_load hi ?_)
  dsimp only
  refine wpAny_pure ?_
  have e : ((([.ref pool, rawInt st, old] ++ rawN l).toArray.toList.drop 3).map fun | .int n _ => n.toNat | _ => 0) = l := by
    simp only [List.cons_append, List.nil_append, List.drop_succ_cons, List.drop_zero, rawN, List.map_map]
    refine (List.map_congr_left fun j _ => ?_).trans (List.map_id l)
    rfl
  exact (congrArg (fun z => Q z s) e).mpr h
theorem flag_at {it pool : Addr} {st : Int} {old : Value} {l : List Nat} {Q : Int → Shared → Prop} (hi : IsC s.heap it pool st old l) (h : Q st s) : wpAny (model prog w) A (Builtin.Itertools.itIntField (.ref it) 1) Q E s := by
  unfold Builtin.Itertools.itIntField
  refine wpAny_bind (wpAny_field hi rfl (x := .int st 0) (by simp [rawInt]) ?_)
  exact wpAny_pure h
/-- what comes of a turn that gives -/
def Given (s : Shared) (it pool : Addr) (its : Array Value) (l : List Nat) (Q : Option Value → Shared → Prop) : Prop :=
  ∀ h', IsC h' it pool 1 (.ref s.heap.objs.size) l → h'.get? s.heap.objs.size = some { cls := .type "tuple", data := .seq (l.map fun j => its.getD j .none).toArray } → (∀ b o, b ≠ it → s.heap.get? b = some o → h'.get? b = some o) →
    Q (some (.ref s.heap.objs.size)) { s with heap := h' }
theorem isC_type {h : Heap} {it pool : Addr} {st : Int} {old : Value} {l : List Nat} (hi : IsC h it pool st old l) : ∃ o, h.get? it = some o ∧ o.cls = .type "itertools.combinations" := ⟨_, hi, rfl⟩
theorem pool_ne {h : Heap} {it pool : Addr} {its : Array Value} {st : Int} {old : Value} {l : List Nat} (hi : IsC h it pool st old l) (hp : IsPool h pool its) : pool ≠ it := fun z => by
  obtain ⟨o, n, ho, hd⟩ := hp
  rw [z] at ho
  have e := (show h.get? it = some _ from hi).symm.trans ho
  cases e
  cases hd
theorem next_first {it pool : Addr} {its : Array Value} {old : Value} {l : List Nat} {Q : Option Value → Shared → Prop} (hi : IsC s.heap it pool 0 old l) (hp : IsPool s.heap pool its) (len : l.length ≤ 1000) (hQ : Given s it pool its l Q) :
    wpAny (model prog w) A (pyNext (.ref it)) Q E s := by
  have lt := Heap.lt_size hi
  have ne := pool_ne hi hp
  unfold pyNext
  refine wpAny_bind (wpAny_attempt (wpAny_callSpecial?_slot (name := Str.ofString "__next__") (isC_type hi) next_c (wpAny_call_entry next_c (isC_type hi) enext_c ?_ (anext_c _))))
  rw [turn_eq]
  unfold turnC
  refine wpAny_bind (wpAny_field hi rfl (x := .ref pool) (by simp) ?_)
  refine wpAny_bind (numbers_at hi ?_)
  refine wpAny_bind (flag_at hi ?_)
  dsimp only
  refine wpAny_bind (wpAny_setField hi rfl (by simp [rawN_len]) ?_)
  have hi1 : IsC (s.heap.update it (Obj.mapFields (·.setIfInBounds 1 (rawInt 1)))) it pool 1 old l := by
    have z := Heap.get?_update_self (Obj.mapFields (·.setIfInBounds 1 (rawInt 1))) hi rfl
    unfold IsC
    rw [z]
    simp [Obj.mapFields]
  have sz : (s.heap.update it (Obj.mapFields (·.setIfInBounds 1 (rawInt 1)))).objs.size = s.heap.objs.size := Heap.size_update ..
  have hp1 : IsPool (s.heap.update it (Obj.mapFields (·.setIfInBounds 1 (rawInt 1)))) pool its := by
    obtain ⟨o, n, ho, hd⟩ := hp
    exact ⟨o, n, (Heap.get?_update_ne _ _ _ _ ne).trans ho, hd⟩
  refine wp_give (s := { s with heap := s.heap.update it (Obj.mapFields (·.setIfInBounds 1 (rawInt 1))) }) hi1 hp1 len fun h' k1 k2 k3 => ?_
  dsimp only at k1 k2 k3 ⊢
  rw [sz] at k1 k2 ⊢
  exact ⟨_, rfl, wpAny_pure (hQ h' k1 k2 fun b o hb ho => k3 b o hb ((Heap.get?_update_ne _ _ _ _ hb).trans ho))⟩
theorem next_more {it pool : Addr} {its : Array Value} {old : Value} {l m : List Nat} {Q : Option Value → Shared → Prop} (hi : IsC s.heap it pool 1 old l) (hp : IsPool s.heap pool its) (hu : up its.size l = some m) (len : m.length ≤ 1000) (hQ : Given s it pool its m Q) :
    wpAny (model prog w) A (pyNext (.ref it)) Q E s := by
  have lt := Heap.lt_size hi
  have ne := pool_ne hi hp
  unfold pyNext
  refine wpAny_bind (wpAny_attempt (wpAny_callSpecial?_slot (name := Str.ofString "__next__") (isC_type hi) next_c (wpAny_call_entry next_c (isC_type hi) enext_c ?_ (anext_c _))))
  rw [turn_eq]
  unfold turnC
  refine wpAny_bind (wpAny_field hi rfl (x := .ref pool) (by simp) ?_)
  refine wpAny_bind (numbers_at hi ?_)
  refine wpAny_bind (flag_at hi ?_)
  dsimp only
  have hp0 := hp
  obtain ⟨o, n, ho, hd⟩ := hp0
  unfold Builtin.Itertools.itPoolItems
  refine wpAny_bind (wpAny_bind (wpAny_seqItems ho hd ?_))
  dsimp only
  refine wpAny_pure ?_
  rw [hu]
  dsimp only
  unfold Builtin.Itertools.itSetNumbersFrom
  dsimp only
  refine wpAny_bind (wpAny_updateFields hi rfl ?_ ?_)
  rotate_left
  · rw [sizeLine_eq]
    simp [rawN_len]
    omega
  let f : Array Value → Array Value := fun fs => fs.extract 0 3 ++ (m.map fun (n : Nat) => rawInt n).toArray
  have hi1 : IsC (s.heap.update it (Obj.mapFields f)) it pool 1 old m := by
    have z := Heap.get?_update_self (Obj.mapFields f) hi rfl
    unfold IsC
    rw [z]
    simp [Obj.mapFields, f, rawN]
  have sz : (s.heap.update it (Obj.mapFields f)).objs.size = s.heap.objs.size := Heap.size_update ..
  have hp1 : IsPool (s.heap.update it (Obj.mapFields f)) pool its := ⟨o, n, (Heap.get?_update_ne _ _ _ _ ne).trans ho, hd⟩
  refine wp_give (s := { s with heap := s.heap.update it (Obj.mapFields f) }) hi1 hp1 len fun h' k1 k2 k3 => ?_
  dsimp only at k1 k2 k3 ⊢
  rw [sz] at k1 k2 ⊢
  exact ⟨_, rfl, wpAny_pure (hQ h' k1 k2 fun b o hb ho => k3 b o hb ((Heap.get?_update_ne _ _ _ _ hb).trans ho))⟩
theorem next_stop {it pool : Addr} {its : Array Value} {old : Value} {l : List Nat} {Q : Option Value → Shared → Prop} (hh : A.handled = none) (hi : IsC s.heap it pool 1 old l) (hp : IsPool s.heap pool its) (hu : up its.size l = none)
    (hQ : ∀ h', Heap.ExtBut it s.heap h' → Q none { s with heap := h' }) : wpAny (model prog w) A (pyNext (.ref it)) Q E s := by
  obtain ⟨o, n, ho, hd⟩ := hp
  unfold pyNext
  refine wpAny_bind (wpAny_attempt (wpAny_callSpecial?_slot (name := Str.ofString "__next__") (isC_type hi) next_c (wpAny_call_entry next_c (isC_type hi) enext_c ?_ (anext_c _))))
  rw [turn_eq]
  unfold turnC
  refine wpAny_bind (wpAny_field hi rfl (x := .ref pool) (by simp) ?_)
  refine wpAny_bind (numbers_at hi ?_)
  refine wpAny_bind (flag_at hi ?_)
  dsimp only
  unfold Builtin.Itertools.itPoolItems
  refine wpAny_bind (wpAny_bind (wpAny_seqItems ho hd ?_))
  dsimp only
  refine wpAny_pure ?_
  rw [hu]
  dsimp only
  refine wpAny_bind (wpAny_setField hi rfl (by simp [rawN_len]) ?_)
  unfold Builtin.Itertools.itStop
  change wpAny _ _ (newExc (.type "StopIteration") [] >>= _) _ _ _
  refine wpAny_bind ?_
  simp only [newExc, newTuple]
  refine wpAny_bind (wpAny_newObj_type ?_ (by size_fits))
  refine wpAny_bind (m := firstArgMember _ _) (wpAny_of_eq (a := Value.none) (by first | rfl | (simp only [firstArgMember]; rfl)) ?_)
  refine wpAny_newObj_type ?_ (by size_fits)
  simp only [raiseNew]
  refine wpAny_bind (wpAny_handled ?_)
  rw [show A.in1.handled = none from hh]
  refine wpAny_bind (wpAny_pure (wpAny_throw ?_))
  refine wpAny_bind (wpAny_isInstance (T := "StopIteration") (b := true) ⟨_, Heap.get?_push_size _ rfl, rfl⟩ isSubtype_stop ?_)
  exact wpAny_pure (hQ _ (((Heap.SameBut.update ..).extBut.push _).push _))
theorem iter_self {it pool : Addr} {st : Int} {old : Value} {l : List Nat} {Q : Value → Shared → Prop} (hi : IsC s.heap it pool st old l) (h : Q (.ref it) s) : wpAny (model prog w) A (pyIter (.ref it)) Q E s := by
  refine wpAny_pyIter_slot (isC_type hi) iter_c (wpAny_call_entry iter_c (isC_type hi) eiter_c ?_ (aiter_c _))
  change wpAny _ _ (ret (.ref it)) _ _ s
  exact wpAny_pure ⟨_, rfl, _, _, isC_type hi, next_c.lookup, h⟩
end
end Cb
set_option Elab.async false
set_option linter.all false
set_option maxRecDepth 100000
set_option maxHeartbeats 1000000
namespace Cb
open PySem PySem.Spec PyProof.Rows L2
section
variable {prog : Program} {w : World} {A : Around} {E : Value → Shared → Prop} {s : Shared} {r : Addr} {n k : Nat} {t u v tk : Tok}
theorem plain_c : plainId "itertools.combinations.__new__" = true := by decide +kernel
theorem code_new {Q : Value → Shared → Prop} (hh : A.handled = none) (hr : IsRange s.heap r 0 n 1 t u v) (hsmall : Builtin.Range.small 0 n 1 = true) (hn : Builtin.Range.rangeSize 0 n 1 = n) (hlen : n ≤ 1000) (hk : k ≤ n)
    (h : ∀ (h' : Heap) (tk : Nat) (acc : Array Value), (∀ b o, s.heap.get? b = some o → h'.get? b = some o) → ItemsOf (fun i v => ∃ t, v = .int ((i : Nat) : Int) t) acc n →
      Q (.ref (h'.objs.size + 1)) { s with heap := (h'.push { cls := .type "tuple", data := .seq acc }).push { cls := .type "itertools.combinations", data := .fields ([.ref h'.objs.size, rawInt 0, .none] ++ rawN (List.range k)).toArray }, toks := tk }) :
    codeAny (model prog w) A (.call (.builtin "itertools.combinations.__new__") ⟨[.type "itertools.combinations", .ref r, .int k tk], []⟩) (wants Q E) s := by
  refine codeAny_of_tree ?_
  show wpAny _ A.in1 (do checkBuiltinCall "itertools.combinations.__new__" ⟨[.type "itertools.combinations", .ref r, .int k tk], []⟩; again (.builtin "itertools.combinations.__new__" ⟨[.type "itertools.combinations", .ref r, .int k tk], []⟩)) _ _ s
  refine wpAny_bind (wpAny_of_eq (ncall_c _ _) (wpAny_pure ⟨plainId_quiet plain_c _, codeAny_builtin enew_c ?_⟩))
  rw [Around.under_plainId plain_c _]
  have hsub : isSubtype (.type "itertools.combinations") (.type ("itertools." ++ "combinations")) = pure true := by
    rw [show ("itertools." ++ "combinations" : String) = "itertools.combinations" from by decide]
    exact sub_c
  have hh1 : A.in1.handled = none := hh
  wp_walk
  rw [if_neg (by rw [decide_eq_false (by omega), decide_eq_false (by omega)]; decide)]
  refine wpAny_pure ?_
  refine wpAny_bind (collect_range (A := A.in1) hh1 hr hsmall hn (by omega) fun h' tk' acc kp hacc => ?_)
  dsimp only
  rw [if_neg (by omega)]
  unfold Builtin.Itertools.itTooMany
  rw [if_neg (by rw [decide_eq_true_eq]; omega)]
  have sz : acc.size = n := hacc.1
  refine wpAny_bind (wpAny_newTuple ?_ (by rw [Array.length_toList, sz, sizeLine_eq]; omega))
  refine wpAny_pure ?_
  dsimp only
  unfold Builtin.Itertools.itNewRecord
  rw [nodict_c]
  simp only [Bool.not_false, if_true]
  refine wpAny_bind (wpAny_newObj_type ?_ ?_)
  rotate_left
  · unfold sizeOk
    rw [sizeLine_eq]
    simp
    omega
  refine wpAny_pure ?_
  have e1 : (if (k : Int).toNat > acc.toList.length then (2 : Int) else 0) = 0 := if_neg (by rw [Array.length_toList, sz]; omega)
  have fin := h h' tk' acc kp ⟨sz, fun j v e => by
    obtain ⟨t, e⟩ := hacc.2 j v e
    exact ⟨t, by rw [e, Int.zero_add, Int.mul_one]⟩⟩
  rw [e1]
  simp only [Int.toNat_natCast, Array.toArray_toList, Heap.size_push] at fin ⊢
  exact fin
end
end Cb
set_option Elab.async false
set_option linter.all false
set_option maxRecDepth 100000
set_option maxHeartbeats 1000000
/-! SH: for x in combinations(range(n), k), n at most 7. -/
namespace Cb
open PySem PySem.Spec PyProof.Rows L2
section
variable {prog : Program} {w : World} {A : Around} {E : Value → Shared → Prop} {s : Shared} {r : Addr} {n k : Nat} {t u v tk : Tok}
theorem call_c {Q : Value → Shared → Prop} (hh : A.handled = none) (hr : IsRange s.heap r 0 n 1 t u v) (hsmall : Builtin.Range.small 0 n 1 = true) (hn : Builtin.Range.rangeSize 0 n 1 = n) (hlen : n ≤ 1000) (hk : k ≤ n)
    (h : ∀ (h1 h' : Heap) (tk : Nat) (its : Array Value) (pool it : Addr), (∀ b o, s.heap.get? b = some o → h1.get? b = some o) → (∀ b o, h1.get? b = some o → h'.get? b = some o) → h1.objs.size ≤ pool → h1.objs.size ≤ it → ItemsOf (fun i v => ∃ t, v = .int ((i : Nat) : Int) t) its n → IsPool h' pool its →
      IsC h' it pool 0 .none (List.range k) → Q (.ref it) { s with heap := h', toks := tk }) :
    wpAny (model prog w) A (call (.type "itertools.combinations") [.ref r, .int k tk]) Q E s := by
  refine callType_codes (Q₁ := fun obj s₁ => s₁.TypeIs obj "itertools.combinations" ∧ Q obj s₁) called_c (tcall_c _ _) F.entry_object_init (code_new (A := A.in1) hh hr hsmall hn hlen hk fun h' tk' acc kp hacc => ?_) fun obj s₁ h₁ => ?_
  · have atI : ((h'.push { cls := .type "tuple", data := .seq acc }).push { cls := .type "itertools.combinations", data := .fields ([.ref h'.objs.size, rawInt 0, .none] ++ rawN (List.range k)).toArray }).get? (h'.objs.size + 1) = some { cls := .type "itertools.combinations", data := .fields ([.ref h'.objs.size, rawInt 0, .none] ++ rawN (List.range k)).toArray } := by
      have z := Heap.get?_push_size (h := h'.push { cls := .type "tuple", data := .seq acc }) (o := { cls := .type "itertools.combinations", data := .fields ([.ref h'.objs.size, rawInt 0, .none] ++ rawN (List.range k)).toArray }) rfl
      rw [Heap.size_push] at z
      exact z
    exact ⟨⟨_, atI, rfl⟩, h h' _ tk' acc h'.objs.size (h'.objs.size + 1) kp (fun b o e => Heap.get?_push_of_some _ (Heap.get?_push_of_some _ e)) (Nat.le_refl _) (Nat.le_succ _) hacc ⟨_, 0, Heap.get?_push_of_some _ (Heap.get?_push_size _ rfl), rfl⟩ atI⟩
  · exact ⟨h₁.1, F.args_object_init_3 obj _ _, object_init_meets called_c.init.lookup called_c.made (by decide +kernel) prog w A.in1 _ s₁ ⟨h₁.1, rfl, h₁.2⟩⟩
end
/-! ### the rows -/
def rowsFrom (n : Nat) : Nat → List Nat → List (List Nat)
  | 0, _ => []
  | f + 1, l => l :: (match up n l with
    | some m => rowsFrom n f m
    | none => [])
/-- all rows of k places out of n, in order -/
def combs (n k : Nat) : List (List Nat) := rowsFrom n 200 (List.range k)
def linked (n : Nat) : List (List Nat) → Bool
  | [] => false
  | [l] => (up n l).isNone
  | l :: m :: r => (up n l == some m) && linked n (m :: r)
def okC (n k : Nat) : Bool := (combs n k).head? == some (List.range k) && linked n (combs n k) && (combs n k).all fun l => decide (l.length ≤ 7) && l.all fun j => decide (j < n)
theorem okC_all : ((List.range 8).all fun n => (List.range (n + 1)).all fun k => okC n k) = true := by decide +kernel
theorem okC_of {n k : Nat} (hn : n ≤ 7) (hk : k ≤ n) : okC n k = true := List.all_eq_true.mp (List.all_eq_true.mp okC_all n (List.mem_range.mpr (by omega))) k (List.mem_range.mpr (by omega))
theorem linked_at {n : Nat} : ∀ {cs : List (List Nat)} {i : Nat} {l : List Nat}, linked n cs = true → cs[i]? = some l → (∀ m, cs[i + 1]? = some m → up n l = some m) ∧ (cs[i + 1]? = none → up n l = none)
  | [], _, _, _, e => by simp at e
  | [x], 0, l, h, e => by
    cases e
    exact ⟨fun m q => by simp at q, fun _ => Option.isNone_iff_eq_none.mp h⟩
  | [x], i + 1, l, h, e => by simp at e
  | x :: y :: r, 0, l, h, e => by
    cases e
    have h : ((up n x == some y) && linked n (y :: r)) = true := h
    rw [Bool.and_eq_true, beq_iff_eq] at h
    exact ⟨fun m q => by cases q; exact h.1, fun q => by simp at q⟩
  | x :: y :: r, i + 1, l, h, e => by
    have h : ((up n x == some y) && linked n (y :: r)) = true := h
    rw [Bool.and_eq_true, beq_iff_eq] at h
    exact linked_at (cs := y :: r) (i := i) h.2 e
structure CombsOk (n k : Nat) : Prop where
  first : (combs n k)[0]? = some (List.range k)
  link : linked n (combs n k) = true
  small : ∀ l ∈ combs n k, l.length ≤ 7 ∧ ∀ j ∈ l, j < n
theorem combsOk {n k : Nat} (hn : n ≤ 7) (hk : k ≤ n) : CombsOk n k := by
  have h := okC_of hn hk
  unfold okC at h
  simp only [Bool.and_eq_true, beq_iff_eq, List.all_eq_true, decide_eq_true_eq] at h
  exact ⟨by rw [← List.head?_eq_getElem?]; exact h.1.1, h.1.2, h.2⟩
/-- the turns -/
def Itk (n k : Nat) : It := ⟨fun i _ => i < (combs n k).length, fun i H v H' => ∃ T l, v = .ref T ∧ H T = none ∧ (combs n k)[i]? = some l ∧ H' = upd H T (.tup (l.map fun j => V.int (j : Nat))), fun i _ => i = (combs n k).length⟩
theorem turn_c {P : Program} {w : World} {K : PySem.W.Frag} {tg : PySem.Expr} {n k : Nat} (C : CombsOk n k) (hn : n ≤ 7) {pool it : Addr} :
    Turn P w K tg (Itk n k) [it, pool] it (fun i h => ∃ its, IsPool h pool its ∧ ItemsOf (fun i v => ∃ t, v = .int ((i : Nat) : Int) t) its n ∧ (i = 0 → ∃ old, IsC h it pool 0 old (List.range k)) ∧ ∀ j, i = j + 1 → ∃ old l, (combs n k)[j]? = some l ∧ IsC h it pool 1 old l) where
  mem := by simp
  obj := fun i h ⟨its, ⟨op, m, ho, hd⟩, _, z0, z1⟩ b hb => by
    have e' : b = it ∨ b = pool := by simpa using hb
    rcases e' with rfl | rfl
    · cases i with
      | zero => obtain ⟨old, q⟩ := z0 rfl; exact ⟨_, q, fun v q => nomatch q⟩
      | succ j => obtain ⟨old, l, _, q⟩ := z1 j rfl; exact ⟨_, q, fun v q => nomatch q⟩
    · exact ⟨op, ho, fun v q => by rw [hd] at q; cases q⟩
  keep := fun i h h' ⟨its, ⟨op, m, ho, hd⟩, q, z0, z1⟩ kp => ⟨its, ⟨op, m, kp pool (by simp) _ ho, hd⟩, q, fun e => let ⟨old, y⟩ := z0 e; ⟨old, kp it (by simp) _ y⟩, fun j e => let ⟨old, l, y1, y⟩ := z1 j e; ⟨old, l, y1, kp it (by simp) _ y⟩⟩
  item := by
    intro X hP hw hK hc i pins s σ H E I hf st hg
    subst hP hw hK
    obtain ⟨its, hp, hits, z0, z1⟩ := st
    have hg : i < (combs n k).length := hg
    obtain ⟨l, hl⟩ : ∃ l, (combs n k)[i]? = some l := ⟨_, List.getElem?_eq_getElem hg⟩
    obtain ⟨l1, l2⟩ := C.small l (List.mem_of_getElem? hl)
    have given : Given s it pool its l fun r s1 => ∃ u, r = some u ∧ wpAny (model X.prog X.w) X.A (letOwnedTupleGo tg (.ref it) u) (fun _ s2 => ∃ x H', Inv X pins σ H' s2 ∧ RelV x u ∧ (Itk n k).yld i H x H' ∧ (∃ its, IsPool s2.heap pool its ∧ ItemsOf (fun i v => ∃ t, v = .int ((i : Nat) : Int) t) its n ∧ (i + 1 = 0 → ∃ old, IsC s2.heap it pool 0 old (List.range k)) ∧ ∀ j, i + 1 = j + 1 → ∃ old l, (combs n k)[j]? = some l ∧ IsC s2.heap it pool 1 old l) ∧ ∀ b ∈ [it, pool], H' b = none) E s1 := by
      intro h' k1 k2 k3
      refine ⟨_, rfl, go_of (s := { s with heap := h' }) k1 rfl rfl (by decide) ?_⟩
      have vals : Vals (l.map fun j => V.int (j : Nat)) (l.map fun j => its.getD j .none) := by
        have : ∀ m : List Nat, (∀ j ∈ m, j < n) → Vals (m.map fun j => V.int (j : Nat)) (m.map fun j => its.getD j .none) := by
          intro m
          induction m with
          | nil => exact fun _ => .nil
          | cons j m ih =>
            intro q
            refine .cons ?_ (ih fun a ha => q a (List.mem_cons_of_mem _ ha))
            have hj := q j List.mem_cons_self
            have hs : j < its.size := by rw [hits.1]; exact hj
            have hv : its[j]? = some its[j] := Array.getElem?_eq_getElem hs
            obtain ⟨t, e⟩ := hits.2 j _ hv
            refine ⟨t, ?_⟩
            show its.getD j .none = _
            rw [Array.getD_eq_getD_getElem?, hv, e]
            rfl
        exact this l l2
      have new : ObjOk X.prog X.w (upd H s.heap.objs.size (.tup (l.map fun j => V.int (j : Nat)))) h' s.heap.objs.size (.tup (l.map fun j => V.int (j : Nat))) :=
        ⟨by rw [List.length_map, sizeLine_eq]; omega, _, vals, ⟨_, k2, rfl, 0, rfl⟩⟩
      have I1 : Inv X pins σ (upd H s.heap.objs.size (.tup (l.map fun j => V.int (j : Nat)))) { s with heap := h', toks := s.toks } :=
        I.turnedNew (ch := [it, pool]) (fun b o hb e => k3 b o (fun z => hb (by simp [z])) e) hf (Nat.le_refl _) new
      refine ⟨.ref s.heap.objs.size, _, I1, rfl, ⟨_, l, rfl, I.hok.fresh (Nat.le_refl _), hl, rfl⟩, ⟨its, ?_, hits, fun e => by omega, fun j e => ?_⟩, fun b hb => ?_⟩
      · have hpp := hp
        obtain ⟨o, m, ho, hd⟩ := hpp
        refine ⟨o, m, k3 pool o ?_ ho, hd⟩
        cases i with
        | zero => obtain ⟨old, q⟩ := z0 rfl; exact pool_ne q hp
        | succ j => obtain ⟨old, _, _, q⟩ := z1 j rfl; exact pool_ne q hp
      · have e : j = i := by omega
        subst e
        exact ⟨_, l, hl, k1⟩
      · have lt : b < s.heap.objs.size := by
          have e' : b = it ∨ b = pool := by simpa using hb
          rcases e' with rfl | rfl
          · cases i with
            | zero => obtain ⟨old, q⟩ := z0 rfl; exact Heap.lt_size q
            | succ j => obtain ⟨old, _, _, q⟩ := z1 j rfl; exact Heap.lt_size q
          · obtain ⟨o, m, ho, hd⟩ := hp
            exact Heap.lt_size ho
        rw [upd_ne (Nat.ne_of_lt lt)]
        exact (hf b hb).1
    cases i with
    | zero =>
      obtain ⟨old, q⟩ := z0 rfl
      have e : l = List.range k := Option.some.inj (hl.symm.trans C.first)
      subst e
      exact next_first q hp (by omega) given
    | succ j =>
      obtain ⟨old, l0, q0, q⟩ := z1 j rfl
      have hu := (linked_at C.link q0).1 l hl
      exact next_more q hp (by rw [hits.1]; exact hu) (by omega) given
  done := by
    intro X hP hw hK hc i pins s σ H E I hf st hg
    subst hP hw hK
    obtain ⟨its, hp, hits, z0, z1⟩ := st
    have hg : i = (combs n k).length := hg
    obtain ⟨f0, f1, f2, f3, f4, f5⟩ := hf it (by simp)
    cases i with
    | zero =>
      have := C.first
      rw [List.getElem?_eq_none (by omega)] at this
      cases this
    | succ j =>
      obtain ⟨old, l, q0, q⟩ := z1 j rfl
      have hu := (linked_at C.link q0).2 (List.getElem?_eq_none (by omega))
      exact next_stop (I.ok.hd hc) q hp (by rw [hits.1]; exact hu) fun h' eb => ⟨rfl, I.turned (t' := s.toks) (fun b o hb e => eb b o hb e) f0 f1 f3 f4 f5⟩
  self := fun A i s Q E ⟨its, _, _, z0, z1⟩ h => by
    cases i with
    | zero => obtain ⟨old, q⟩ := z0 rfl; exact iter_self q h
    | succ j => obtain ⟨old, l, _, q⟩ := z1 j rfl; exact iter_self q h
end Cb
set_option Elab.async false
set_option linter.all false
set_option maxRecDepth 100000
set_option maxHeartbeats 1000000
/-! SI: for x in combinations(range(n), k) as a rule of data. -/
namespace DL
open PySem PySem.Spec PyProof.Rows L2 Cb
section
variable {X : Cx}
def rRng1 : List V → Hp → VK → Prop := fun vs H Q => ∃ j, vs = [V.int j] ∧ ∀ p, H p = none → Q (.ref p) (upd H p (.rng 0 j))
theorem cr_rng1 : CallR X (.type "range") rRng1 := by
  intro pins s σ H vs us Q I r h
  obtain ⟨j, rfl, q⟩ := h
  cases r with
  | cons r rr =>
    cases rr
    obtain ⟨t, rfl⟩ := r
    refine call_range_1 ⟨.ref s.heap.objs.size, upd H s.heap.objs.size (.rng 0 j), I.laid (t' := s.toks + 1 + 1) (fun b o e => Heap.get?_push_of_some _ e) (Nat.le_refl _) ?_, rfl, q _ (I.hok.fresh (Nat.le_refl _))⟩
    exact ⟨s.toks, t, s.toks + 1, Heap.get?_push_size _ rfl⟩
theorem rng_small : ∀ n : Nat, n ≤ 7 → Builtin.Range.small 0 (n : Int) 1 = true ∧ Builtin.Range.rangeSize 0 (n : Int) 1 = n
  | 0, _ => by decide
  | 1, _ => by decide
  | 2, _ => by decide
  | 3, _ => by decide
  | 4, _ => by decide
  | 5, _ => by decide
  | 6, _ => by decide
  | 7, _ => by decide
  | n + 8, h => by omega
def iComb (ta tb : TE) : TI := fun σ H R => tCons (tCB rRng1 (tCons ta tNil)) (tCons tb tNil) σ H fun vs H2 => ∃ (n k : Nat) (r : Addr), vs = [V.ref r, V.int (k : Int)] ∧ n ≤ 7 ∧ k ≤ n ∧ H2 r = some (.rng 0 (n : Int)) ∧ R (Itk n k) H2
theorem pi_comb {tg a b : PySem.Expr} {ta tb : TE} {p p2 q pos : Pos} (hc : X.calm = true) (hm : X.mg "combinations" = some (.type "itertools.combinations")) (hm2 : X.mg "range" = none) (ha : PE X a ta) (hb : PE X b tb) (hg : Gl X "combinations" := by rfl) (hg2 : Gl X "range" := by rfl)
    (h1 : starEach [a] X.env = (false, eval a X.env) :: starEach [] X.env := by rfl) (h2 : starEach [b] X.env = (false, eval b X.env) :: starEach [] X.env := by rfl)
    (h3 : starEach [.Call (.Name "range" p2) [a] [] q, b] X.env = (false, eval (.Call (.Name "range" p2) [a] [] q) X.env) :: starEach [b] X.env := by rfl)
    (hpl : (backTo q (starEach [] X.env)).any (·.1) = false := by rfl) (hpl2 : (backTo pos (starEach [b] X.env)).any (·.1) = false := by rfl) :
    PI X tg (.Call (.Name "combinations" p) [.Call (.Name "range" p2) [a] [] q, b] [] pos) (iComb ta tb) := by
  have args := pa_cons (pe_callTy (cr_rng1 (X := X)) hg2 hm2 boot_range (p := p2) (pos := q) (pa_cons ha pa_nil h1) (by decide) (by decide) h1 hpl) (pa_cons hb pa_nil h2) h3
  refine ⟨fun pins s σ H R I h => ?_⟩
  refine Call_ (ld_glob I hg hm (callWith_type1 (thn (args.run pos pins s σ H _ I h) fun us s1 ⟨vs, H1, I1, r1, q1⟩ => ?_) h3 hpl2))
  obtain ⟨n, k, r, rfl, hn, hk, hr, q1⟩ := q1
  cases r1 with
  | cons ra r1 =>
    cases ra
    cases r1 with
    | cons rb r1 =>
      cases r1
      obtain ⟨tk, rfl⟩ := rb
      obtain ⟨t, u, v, hrr⟩ := I1.hok r _ hr
      obtain ⟨sm, sz⟩ := rng_small n hn
      refine call_c (I1.ok.hd hc) hrr sm sz (by omega) hk fun h1 h' tk' its pool it k1 k2 le1 le2 hits hp hi => ?_
      have I2 : Inv X pins σ H1 { s1 with heap := h1 } := I1.kept (t' := s1.toks) k1
      have I3 : Inv X pins σ H1 { s1 with heap := h', toks := tk' } := I2.kept (s := { s1 with heap := h1 }) (t' := tk') k2
      refine iter_self (s := { s1 with heap := h', toks := tk' }) hi ?_
      refine ⟨it, [it, pool], _, _, H1, rfl, I3, turn_c (combsOk hn hk) hn, ⟨its, hp, hits, fun _ => ⟨_, hi⟩, fun j e => by omega⟩, fun b hb => ?_, q1⟩
      have le : h1.objs.size ≤ b := by
        have e' : b = it ∨ b = pool := by simpa using hb
        rcases e' with rfl | rfl
        · exact le2
        · exact le1
      exact I2.fpOk le (I2.hok.fresh le)
/-! ### by data -/
def comb2 : D → D → Res (List D)
  | .int n, .int k => if 0 ≤ n ∧ n ≤ 7 ∧ 0 ≤ k ∧ k ≤ n then .ok ((combs n.toNat k.toNat).map fun l => .tup (l.map fun j => .int (j : Nat))) else .st
  | _, _ => .st
theorem comb2_ok {x y : D} {ds : List D} (h : comb2 x y = .ok ds) : ∃ n k : Nat, x = .int n ∧ y = .int k ∧ n ≤ 7 ∧ k ≤ n ∧ ds = (combs n k).map fun l => .tup (l.map fun j => .int (j : Nat)) := by
  unfold comb2 at h
  split at h
  · split at h
    · rename_i n k z
      cases h
      exact ⟨n.toNat, k.toNat, by rw [Int.toNat_of_nonneg z.1], by rw [Int.toNat_of_nonneg z.2.2.1], by omega, by omega, rfl⟩
    · cases h
  · cases h
theorem comb2_ner {x y : D} {e : Exn} (h : comb2 x y = .er e) : False := by
  unfold comb2 at h
  split at h
  · split at h <;> cases h
  · cases h
theorem rep_nats {K : PySem.W.Frag} {mg : Str → Option Value} {F : Hp} : ∀ l : List Nat, RepAll K mg F (l.map fun j => V.int (j : Nat)) (l.map fun j => D.int (j : Nat))
  | [] => .nil
  | _ :: l => .cons (.int _) (rep_nats l)
def eComb (fa fb : DEnv → Res D) : DEnv → Res (List D) := fun ρ => (fa ρ).bind fun x => match x with
  | .int n => (fb ρ).bind fun y => comb2 (.int n) y
  | _ => .st
theorem itd_comb {K : PySem.W.Frag} {mg : Str → Option Value} {F : Hp} {n k : Nat} : ItD K mg (Itk n k) F ((combs n k).map fun l => .tup (l.map fun j => .int (j : Nat))) := fun i Fc H s1 s2 => by
  refine ⟨fun e => by show i = _; rw [e, List.length_map], fun d hd => ?_⟩
  rw [List.getElem?_map] at hd
  cases hl : (combs n k)[i]? with
  | none => rw [hl] at hd; cases hd
  | some l =>
    rw [hl] at hd
    cases hd
    refine ⟨(List.getElem?_eq_some_iff.mp hl).1, fun x H' y => ?_⟩
    obtain ⟨T, l', rfl, nT, hl', rfl⟩ := y
    rw [hl] at hl'
    cases hl'
    exact ⟨upd Fc T (.tup (l.map fun j => V.int (j : Nat))), Ext.new s2 nT, .tup (SqT.of upd_same) (rep_nats l)⟩
/-- combinations(range(a), b) -/
theorem id_comb {We : WeX} {Sa Sb : List Nat} {fa fb : DEnv → Res D} {tg a b : PySem.Expr} {p p2 q pos : Pos} (hc : X.calm = true) (hm : X.mg "combinations" = some (.type "itertools.combinations")) (hm2 : X.mg "range" = none) (ha : PD X We Sa a fa) (hb : PD X We Sb b fb) (hg : Gl X "combinations" := by rfl) (hg2 : Gl X "range" := by rfl)
    (h1 : starEach [a] X.env = (false, eval a X.env) :: starEach [] X.env := by rfl) (h2 : starEach [b] X.env = (false, eval b X.env) :: starEach [] X.env := by rfl)
    (h3 : starEach [.Call (.Name "range" p2) [a] [] q, b] X.env = (false, eval (.Call (.Name "range" p2) [a] [] q) X.env) :: starEach [b] X.env := by rfl)
    (hpl : (backTo q (starEach [] X.env)).any (·.1) = false := by rfl) (hpl2 : (backTo pos (starEach [b] X.env)).any (·.1) = false := by rfl) :
    ID0 X We (Sa ++ Sb) tg (.Call (.Name "combinations" p) [.Call (.Name "range" p2) [a] [] q, b] [] pos) (eComb fa fb) :=
  pi_imp (pi_comb hc hm hm2 ha hb hg hg2 h1 h2 h3 hpl hpl2) fun σ H R ⟨F, ρ, hF, hE, qq⟩ => by
    refine ⟨F, ρ, hF, hE.l, Out.bind qq fun x F1 H1 v ex rx q1 => ?_⟩
    cases x with
    | int n =>
      cases rx
      refine ⟨n, rfl, fun r nr => ⟨F1, ρ, ex.2.1.trans (same_upd nr), hE.r.mono ex.1, Out.bind (Out.mono (R := RI0 X.K X.mg) q1 (Ext.new0 ex.2.1 nr)) fun y F2 H2 u ey ry q2 => ?_⟩⟩
      cases hcm : comb2 (.int n) y with
      | st => rw [hcm] at q2; exact q2.elim
      | er e => exact (comb2_ner hcm).elim
      | ok ds =>
        rw [hcm] at q2
        obtain ⟨n', k, en, rfl, hn, hk, rfl⟩ := comb2_ok hcm
        cases en
        cases ry
        exact ⟨n', k, r, rfl, hn, hk, ey.2.2.1 _ _ upd_same, q2 F2 H2 _ (Ext.refl ey.2.1) itd_comb⟩
    | _ => exact q1.elim
end
end DL
set_option Elab.async false
set_option linter.all false
set_option maxRecDepth 100000
set_option maxHeartbeats 1000000
/-! DL19: what printed try statements ask of the text. -/
namespace DL
open PySem PySem.Spec PyProof.Rows L2
section
variable {K : PySem.W.Frag} {mg : Str → Option Value}
theorem kcls_by {X Y : Addr} {b : Bool} (hd : PySem.W.hasDictIn K Y = true) (ty : PySem.W.typeIn K (.ref Y) = some (.type "type")) (sub : PySem.W.subIn K (.ref X) (.ref Y) = some b) : PySem.W.kitCls K (.ref X) (.ref Y) = some b := by
  show (if ((PySem.W.clsIn K Y).isSome && PySem.W.typeIn K (.ref Y) == some (.type "type")) = true then PySem.W.subIn K (.ref X) (.ref Y) else none) = some b
  rw [if_pos (by rw [isx_has hd, ty]; decide)]
  exact sub
theorem exm_by {X Y : Addr} {b : Bool} (ex : PySem.W.subIn K (.ref Y) (.type "BaseException") = some true) (hd : PySem.W.hasDictIn K Y = true) (ty : PySem.W.typeIn K (.ref Y) = some (.type "type")) (sub : PySem.W.subIn K (.ref X) (.ref Y) = some b) : PySem.W.exmOne K (.ref X) (.ref Y) = some b := by
  unfold PySem.W.exmOne
  rw [if_pos (by rw [ex]; decide)]
  exact kcls_by hd ty sub
theorem kit_by {X Y : Addr} {b : Bool} (hd : PySem.W.hasDictIn K Y = true) (ty : PySem.W.typeIn K (.ref Y) = some (.type "type")) (self : PySem.W.subIn K (.ref Y) (.ref Y) = some true) (sub : PySem.W.subIn K (.ref X) (.ref Y) = some b) : PySem.W.kitOne K (.ref X) (.ref Y) = some b := by
  unfold PySem.W.kitOne
  by_cases e : ((Value.ref X) == (Value.ref Y)) = true
  · rw [if_pos e]
    have e : Value.ref X = Value.ref Y := by simpa using e
    rw [e, self] at sub
    exact sub
  · rw [if_neg e]
    exact kcls_by hd ty sub
/-- which classes, by a list -/
def csL (l : List (Str × Bool)) : Str → Option Bool := fun z => l.lookup z
theorem csL_nil {P : Addr → Bool → Prop} : ∀ z b, csL [] z = some b → ∀ C, mg z = some (.ref C) → P C b := fun _ _ h => by cases h
theorem csL_cons {P : Addr → Bool → Prop} {x : Str} {v : Bool} {A : Addr} {l : List (Str × Bool)} (m : mg x = some (.ref A)) (p : P A v) (r : ∀ z b, csL l z = some b → ∀ C, mg z = some (.ref C) → P C b) : ∀ z b, csL ((x, v) :: l) z = some b → ∀ C, mg z = some (.ref C) → P C b := fun z b h C hC => by
  unfold csL at h
  rw [List.lookup_cons] at h
  by_cases e : (z == x) = true
  · rw [e] at h
    cases h
    have e : z = x := by simpa using e
    subst e
    rw [m] at hC
    cases hC
    exact p
  · rw [Bool.not_eq_true] at e
    rw [e] at h
    exact r z b h C hC
end
end DL
set_option Elab.async false
set_option linter.all false
set_option maxRecDepth 100000
set_option maxHeartbeats 1000000
/-! DL20: list(range(n)), tuple(range(n)). -/
namespace DL
open PySem PySem.Spec PyProof.Rows L2
def rngN : D → Res (List D)
  | .int j => if 0 ≤ j ∧ j ≤ 100000 then .ok (rangeD 0 j.toNat) else .st
  | _ => .st
theorem rngN_ok {d : D} {ds : List D} (h : rngN d = .ok ds) : ∃ n : Nat, d = .int n ∧ n ≤ 100000 ∧ ds = rangeD 0 n := by
  unfold rngN at h
  split at h
  · split at h
    · rename_i z
      cases h
      exact ⟨_, by rw [Int.toNat_of_nonneg z.1], by omega, rfl⟩
    · cases h
  · cases h
theorem rngN_ner {d : D} {e : Exn} (h : rngN d = .er e) : False := by
  unfold rngN at h
  split at h
  · split at h <;> cases h
  · cases h
theorem rep_rgV {K : PySem.W.Frag} {mg : Str → Option Value} {F : Hp} {n : Nat} : RepAll K mg F (rgV 0 n) (rangeD 0 n) := by
  unfold rgV rangeD
  rw [show ((n : Int) - 0).toNat = n by omega]
  generalize List.range n = l
  induction l with
  | nil => exact .nil
  | cons a l ih => exact .cons (.int _) ih
def tupRg (d : D) : Res D := (rngN d).bind fun ds => .ok (.tup ds)
section
variable {X : Cx} {We : WeX} {S : List Nat} {f : DEnv → Res D} {a : PySem.Expr} {p p2 q pos : Pos}
theorem pf_listRg (hc : X.calm = true) (hm : X.mg "list" = none) (hm2 : X.mg "range" = none) (ha : PD X We S a f) (hg : Gl X "list" := by rfl) (hg2 : Gl X "range" := by rfl) (h1 : starEach [a] X.env = (false, eval a X.env) :: starEach [] X.env := by rfl) (hpl : (backTo q (starEach [] X.env)).any (·.1) = false := by rfl)
    (na : starEach [.Call (.Name "range" p2) [a] [] q] X.env = (false, eval (.Call (.Name "range" p2) [a] [] q) X.env) :: starEach [] X.env := by rfl) :
    PF X We S (.Call (.Name "list" p) [.Call (.Name "range" p2) [a] [] q] [] pos) (e1 rngN f) :=
  pe_imp (pe_listRg hc hg hm (prg_1 hg2 hm2 ha h1) na) fun σ H Q ⟨F, ρ, hF, hE, qq⟩ => ⟨F, ρ, hF, hE, Out.bind qq fun x F1 H1 v ex rx q1 => by
    cases hr : rngN x with
    | st => rw [hr] at q1; exact q1.elim
    | er e => exact (rngN_ner hr).elim
    | ok ds =>
      rw [hr] at q1
      obtain ⟨n, rfl, hn, rfl⟩ := rngN_ok hr
      cases rx
      exact ⟨_, rfl, RgOk.of_le (by omega) (by omega) (by omega) (by omega), fun r nr => q1 F1 _ _ (Ext.new0 ex.2.1 nr) ⟨r, _, rfl, nr, ex.2.1.free nr, upd_same, rep_rgV⟩⟩⟩
theorem pd_tupRg (hc : X.calm = true) (hm : X.mg "tuple" = none) (hm2 : X.mg "range" = none) (ha : PD X We S a f) (hg : Gl X "tuple" := by rfl) (hg2 : Gl X "range" := by rfl) (h1 : starEach [a] X.env = (false, eval a X.env) :: starEach [] X.env := by rfl) (hpl : (backTo q (starEach [] X.env)).any (·.1) = false := by rfl)
    (na : starEach [.Call (.Name "range" p2) [a] [] q] X.env = (false, eval (.Call (.Name "range" p2) [a] [] q) X.env) :: starEach [] X.env := by rfl) :
    PD X We S (.Call (.Name "tuple" p) [.Call (.Name "range" p2) [a] [] q] [] pos) (e1 tupRg f) :=
  pe_imp (pe_tupRg hc hg hm (prg_1 hg2 hm2 ha h1) na) fun σ H Q ⟨F, ρ, hF, hE, qq⟩ => ⟨F, ρ, hF, hE, Out.bind qq fun x F1 H1 v ex rx q1 => by
    unfold tupRg at q1
    cases hr : rngN x with
    | st => rw [hr] at q1; exact q1.elim
    | er e => exact (rngN_ner hr).elim
    | ok ds =>
      rw [hr] at q1
      obtain ⟨n, rfl, hn, rfl⟩ := rngN_ok hr
      cases rx
      exact ⟨_, rfl, RgOk.of_le (by omega) (by omega) (by omega) (by omega), fun r nr => q1 (upd F1 r (.tup (rgV 0 n))) _ _ (Ext.new ex.2.1 nr) (.tup (SqT.of upd_same) rep_rgV)⟩⟩
end
end DL
set_option Elab.async false
set_option linter.all false
set_option maxRecDepth 100000
set_option maxHeartbeats 1000000
/-! DL21: list + list, list * int, is True, reversed(range(n)), keyword-only parameters, properties. -/
namespace DL
open PySem PySem.Spec PyProof.Rows L2
/-! ### list + list, list * int -/
section
variable {X : Cx}
def rCatS (K : PySem.W.Frag) : R2 := fun x y H Q => ∃ l b xs zs, x = .ref l ∧ y = .ref b ∧ SqL K H l xs ∧ SqL K H b zs ∧ xs.length + zs.length ≤ sizeLine ∧ ∀ p, H p = none → Q (.ref p) (upd H p (.lst (xs ++ zs)))
theorem op_catS : OpR X (binaryOp .Add) (rCatS X.K) := by
  intro pins s σ H x y v u Q I rx ry h
  obtain ⟨l, b, xs, zs, rfl, rfl, hH, hB, hz, q⟩ := h
  cases rx
  cases ry
  obtain ⟨its, r, pl, z⟩ := I.list hH
  obtain ⟨its2, r2, pl2, z2⟩ := I.list hB
  have hl := r.length
  have hl2 := r2.length
  obtain ⟨⟨cls, dd, data, sl⟩, n, ho, hc, hd, hs⟩ := pl
  obtain ⟨⟨cls2, dd2, data2, sl2⟩, n2, ho2, hc2, hd2, hs2⟩ := pl2
  simp only at hc hd hs hc2 hd2 hs2
  subst hc hd hs hc2 hd2 hs2
  have e : its.toArray ++ its2.toArray = (its ++ its2).toArray := by simp
  refine PySem.concat_meets ⟨_, ho, rfl⟩ ⟨_, ho2, rfl⟩ PySem.noFill_list_add PySem.seq_list_add PySem.F.slot_list_add PySem.F.entry_list_add (PySem.F.args_list_add_2 _ _) (list_addW l b its.toArray its2.toArray n n2 none none sl sl2 (by rw [List.size_toArray, List.size_toArray]; omega)) ⟨ho, ho2, ?_⟩
  rw [e]
  exact ⟨.ref _, _, I.lnew (t' := s.toks) (r.append r2) (by rw [List.length_append]; omega), rfl, q _ I.fresh⟩
end
/-! ### x is True -/
def rIsTr : R2 := fun x y H Q => ∃ b, y = .bl b ∧ (x = .non ∨ (∃ k, x = .bl k) ∨ (∃ i, x = .int i) ∨ (∃ z, x = .str z) ∨ ∃ a, x = .ref a) ∧ Q (.bl (decide (x = .bl b))) H
def rIsNTr : R2 := fun x y H Q => ∃ b, y = .bl b ∧ (x = .non ∨ (∃ k, x = .bl k) ∨ (∃ i, x = .int i) ∨ (∃ z, x = .str z) ∨ ∃ a, x = .ref a) ∧ Q (.bl (!decide (x = .bl b))) H
theorem op_isTr {X : Cx} : OpR X (compareOp .Is) rIsTr := by
  intro pins s σ H x y v u Q I rx ry h
  obtain ⟨b, rfl, hx, q⟩ := h
  cases (show u = Value.bool b from ry)
  rcases hx with rfl | ⟨k, rfl⟩ | ⟨i, rfl⟩ | ⟨z, rfl⟩ | ⟨a, rfl⟩
  · cases rx
    exact wpAny_is_other rfl (fun z => nomatch z) ⟨.bl false, H, I, rfl, by simpa using q⟩
  · cases (show v = Value.bool k from rx)
    by_cases e : k = b
    · subst e
      exact wpAny_is_self rfl ⟨.bl true, H, I, rfl, by simpa using q⟩
    · exact wpAny_is_other rfl (fun z => e (Value.bool.inj z)) ⟨.bl false, H, I, rfl, by simpa [e] using q⟩
  · obtain ⟨t, rfl⟩ := rx
    exact wpAny_is_other rfl (fun z => nomatch z) ⟨.bl false, H, I, rfl, by simpa using q⟩
  · obtain ⟨t, rfl⟩ := rx
    exact wpAny_is_other rfl (fun z => nomatch z) ⟨.bl false, H, I, rfl, by simpa using q⟩
  · cases rx
    exact wpAny_is_other rfl (fun z => nomatch z) ⟨.bl false, H, I, rfl, by simpa using q⟩
theorem op_isNTr {X : Cx} : OpR X (compareOp .IsNot) rIsNTr := by
  intro pins s σ H x y v u Q I rx ry h
  obtain ⟨b, rfl, hx, q⟩ := h
  cases (show u = Value.bool b from ry)
  rcases hx with rfl | ⟨k, rfl⟩ | ⟨i, rfl⟩ | ⟨z, rfl⟩ | ⟨a, rfl⟩
  · cases rx
    exact wpAny_isNot_other rfl (fun z => nomatch z) ⟨.bl true, H, I, rfl, by simpa using q⟩
  · cases (show v = Value.bool k from rx)
    by_cases e : k = b
    · subst e
      exact wpAny_isNot_self rfl ⟨.bl false, H, I, rfl, by simpa using q⟩
    · exact wpAny_isNot_other rfl (fun z => e (Value.bool.inj z)) ⟨.bl true, H, I, rfl, by simpa [e] using q⟩
  · obtain ⟨t, rfl⟩ := rx
    exact wpAny_isNot_other rfl (fun z => nomatch z) ⟨.bl true, H, I, rfl, by simpa using q⟩
  · obtain ⟨t, rfl⟩ := rx
    exact wpAny_isNot_other rfl (fun z => nomatch z) ⟨.bl true, H, I, rfl, by simpa using q⟩
  · cases rx
    exact wpAny_isNot_other rfl (fun z => nomatch z) ⟨.bl true, H, I, rfl, by simpa using q⟩
def D.isBl (b : Bool) : D → Bool
  | .bl k => k == b
  | _ => false
def dIsTr : D → D → Res D
  | x, .bl b => .ok (.bl (x.isBl b))
  | _, _ => .st
def dIsNTr : D → D → Res D
  | x, .bl b => .ok (.bl (!x.isBl b))
  | _, _ => .st
section
variable {K : PySem.W.Frag} {mg : Str → Option Value}
theorem isBl_of {F : Hp} {v : V} {x : D} {b : Bool} (r : Rep K mg F v x) : decide (v = .bl b) = x.isBl b ∧ (v = .non ∨ (∃ k, v = .bl k) ∨ (∃ i, v = .int i) ∨ (∃ z, v = .str z) ∨ ∃ a, v = .ref a) := by
  cases r <;> refine ⟨?_, ?_⟩ <;> first | (simp [D.isBl]; done) | (simp [D.isBl, Bool.beq_eq_decide_eq]; done)
theorem od_isTr : OpD K mg rIsTr dIsTr := fun We F H σ x y v u Q hF rx ry h => by
  cases y <;> try exact h.elim
  cases ry
  exact ⟨_, rfl, (isBl_of (b := true) rx).2, by rw [(isBl_of rx).1]; exact h F H _ (Ext.refl hF) (.bl _)⟩
theorem od_isNTr : OpD K mg rIsNTr dIsNTr := fun We F H σ x y v u Q hF rx ry h => by
  cases y <;> try exact h.elim
  cases ry
  exact ⟨_, rfl, (isBl_of (b := true) rx).2, by rw [(isBl_of rx).1]; exact h F H _ (Ext.refl hF) (.bl _)⟩
end
/-! ### the data of list + list, list * int -/
def dCatL : D → D → Res (List D)
  | .lst xs, .lst ys => if xs.length + ys.length ≤ lim then .ok (xs ++ ys) else .st
  | _, _ => .st
section
variable {K : PySem.W.Frag} {mg : Str → Option Value}
theorem of_catL : OpF K mg (rCatS K) dCatL := fun We F H σ x y v u Q hF rx ry h => by
  cases x <;> try exact h.elim
  cases y <;> try exact h.elim
  rename_i xs ys
  have h : Out K mg We (RF K mg) F H σ Q (if xs.length + ys.length ≤ lim then .ok (xs ++ ys) else .st) := h
  by_cases z : xs.length + ys.length ≤ lim
  · rw [if_pos z] at h
    cases rx with
    | lst a b =>
      cases ry with
      | lst a2 b2 =>
        exact ⟨_, _, _, _, rfl, rfl, SqL.same hF a, SqL.same hF a2, by rw [b.length, b2.length]; exact le_line z, fun p hp => h _ _ _ (Ext.new0 hF hp) ⟨p, _, rfl, hp, hF.free hp, upd_same, b.append b2⟩⟩
  · rw [if_neg z] at h; exact h.elim
end
/-- list * int -/
def repL : List D → D → Res (List D)
  | xs, .int k => if k ≤ 100000 ∧ xs.length * k.toNat ≤ lim ∧ -100000 ≤ k then .ok (List.replicate k.toNat xs).flatten else .st
  | _, _ => .st
def eRep (g : DEnv → Res (List D)) (f : DEnv → Res D) : DEnv → Res (List D) := fun ρ => (g ρ).bind fun xs => (f ρ).bind fun y => repL xs y
theorem rep_rep {K : PySem.W.Frag} {mg : Str → Option Value} {F : Hp} {vs : List V} {xs : List D} (r : RepAll K mg F vs xs) : ∀ n : Nat, RepAll K mg F (List.replicate n vs).flatten (List.replicate n xs).flatten
  | 0 => .nil
  | n + 1 => by
    rw [List.replicate_succ, List.replicate_succ, List.flatten_cons, List.flatten_cons]
    exact r.append (rep_rep r n)
section
variable {X : Cx} {We : WeX} {Sa Sb : List Nat} {a b : PySem.Expr} {g : DEnv → Res (List D)} {f : DEnv → Res D} {pos : Pos}
theorem pf_rep (ha : PF X We Sa a g) (hb : PD X We Sb b f) : PF X We (Sa ++ Sb) (.BinOp a .Mult b pos) (eRep g f) :=
  pe_imp (pe_op op_rep ha hb) fun σ H Q ⟨F, ρ, hF, hE, q⟩ => ⟨F, ρ, hF, hE.l, Out.bind q fun xs F1 H1 v ex rx q1 => by
    obtain ⟨p, vs, rfl, np, fp, hp, r⟩ := rx
    exact ⟨F1, ρ, ex.2.1, hE.r.mono ex.1, Out.bind q1 fun y F2 H2 u ey ry q2 => by
      unfold repL at q2
      cases y <;> try exact q2.elim
      rename_i k
      cases ry
      by_cases z : k ≤ 100000 ∧ xs.length * k.toNat ≤ lim ∧ -100000 ≤ k
      · have q2 : Out X.K X.mg We (RF X.K X.mg) F2 H2 σ Q (if k ≤ 100000 ∧ xs.length * k.toNat ≤ lim ∧ -100000 ≤ k then .ok (List.replicate k.toNat xs).flatten else .st) := q2
        rw [if_pos z] at q2
        exact ⟨p, k, vs, rfl, rfl, ey.2.2.1 _ _ hp, by omega, by omega, by rw [r.length]; exact le_line z.2.1, fun p' hp' => q2 _ _ _ (Ext.new0 ey.2.1 hp') ⟨p', _, rfl, hp', ey.2.1.free hp', upd_same, rep_rep (r.mono ey.1) _⟩⟩
      · have q2 : Out X.K X.mg We (RF X.K X.mg) F2 H2 σ Q (if k ≤ 100000 ∧ xs.length * k.toNat ≤ lim ∧ -100000 ≤ k then .ok (List.replicate k.toNat xs).flatten else .st) := q2
        rw [if_neg z] at q2; exact q2.elim⟩⟩
end
/-! ### reversed(range(n)) -/
section
variable {K : PySem.W.Frag} {mg : Str → Option Value} {F : Hp}
theorem itd_rangeC {n : Nat} : ItD K mg (Itc (0 + (((n : Int) - 0).toNat : Nat) - 1) (-1) ((n : Int) - 0).toNat) F (rangeD 0 n).reverse := fun i Fc H s1 s2 => by
  have e0 : ((n : Int) - 0).toNat = n := by omega
  rw [e0]
  have hl : (rangeD 0 n).length = n := by simp [rangeD]
  refine ⟨fun e => ?_, fun d hd => ?_⟩
  · show n ≤ i
    rw [e, List.length_reverse, hl]
    exact Nat.le_refl _
  · have hi : i < (rangeD 0 n).length := by
      have := (List.getElem?_eq_some_iff.mp hd).1
      simpa using this
    rw [rev_get _ _ hi, hl] at hd
    rw [hl] at hi
    unfold rangeD at hd
    rw [List.getElem?_map, List.getElem?_range (by omega)] at hd
    have hd : some (D.int (0 + ((n - 1 - i : Nat) : Int))) = some d := hd
    cases hd
    refine ⟨hi, fun x H' y => ?_⟩
    obtain ⟨e, e2⟩ := y
    subst e e2
    have e3 : (0 + (n : Int) - 1 + (i : Nat) * (-1)) = 0 + ((n - 1 - i : Nat) : Int) := by omega
    rw [e3]
    exact ⟨Fc, Ext.refl s2, .int _⟩
end
def revN (d : D) : Res (List D) := (rngN d).bind fun ds => .ok ds.reverse
section
variable {X : Cx} {We : WeX} {S : List Nat} {tg a : PySem.Expr} {f : DEnv → Res D} {p p2 pos q : Pos}
theorem id_revRange (hm : X.mg "reversed" = none) (hm2 : X.mg "range" = none) (ha : PD X We S a f) (hg : Gl X "reversed" := by rfl) (hg2 : Gl X "range" := by rfl) (h1 : starEach [a] X.env = (false, eval a X.env) :: starEach [] X.env := by rfl)
    (hs : starEach [.Call (.Name "range" p2) [a] [] q] X.env = (false, eval (.Call (.Name "range" p2) [a] [] q) X.env) :: starEach [] X.env := by rfl) :
    ID0 X We S tg (.Call (.Name "reversed" p) [.Call (.Name "range" p2) [a] [] q] [] pos) (e1 revN f) := by
  refine pi_imp (pi_revR hg hm (prg_1 hg2 hm2 ha h1) hs) fun σ H R ⟨F, ρ, hF, hE, q⟩ => ⟨F, ρ, hF, hE, Out.bind q fun d F1 H1 v ex r q1 => ?_⟩
  unfold revN at q1
  cases hr : rngN d with
  | st => rw [hr] at q1; exact q1.elim
  | er x => exact (rngN_ner hr).elim
  | ok ds =>
    rw [hr] at q1
    obtain ⟨n, rfl, hn, rfl⟩ := rngN_ok hr
    cases r
    exact ⟨_, rfl, by omega, by omega, by omega, by omega, q1 F1 H1 _ (Ext.refl ex.2.1) itd_rangeC⟩
end
/-! ### keywords, defaults -/
abbrev PKD (X : Cx) (We : WeX) (S : List Nat) (kws : List Keyword) (f : DEnv → Res (List D)) : Prop := PK X kws (tG X.K X.mg We (RDs X.K X.mg) S f)
theorem pk_imp {X : Cx} {kws : List Keyword} {t t' : TA} (h : PK X kws t) (i : ∀ σ H Q, t' σ H Q → t σ H Q) : PK X kws t' := ⟨fun pos pins s σ H Q I q => h.run pos pins s σ H Q I (i σ H Q q)⟩
section
variable {X : Cx} {CX : CXT} {We : WeX} {Sa Sb : List Nat} {k j n : Nat} {fa : Addr} {fd : FuncData} {ps ks : List Str} {m : List D → Res D} {x : Str} {p pos kpos : Pos} {e : PySem.Expr} {es : List PySem.Expr} {kws : List Keyword} {f : DEnv → Res D} {g gk : DEnv → Res (List D)} {nm : Option Str}
theorem pkd_nil : PKD X We [] [] eNil := pk_imp pk_nil fun σ H Q ⟨F, ρ, hF, hE, q⟩ => q F H _ (Ext.refl hF) .nil
theorem pkd_cons (ha : PD X We Sa e f) (hr : PKD X We Sb kws g) : PKD X We (Sa ++ Sb) (⟨nm, e, kpos⟩ :: kws) (eCons f g) :=
  pk_imp (pk_cons ha hr) fun σ H Q ⟨F, ρ, hF, hE, q⟩ => ⟨F, ρ, hF, hE.l, Out.bind q fun x F1 H1 v ex rx q1 =>
    ⟨F1, ρ, ex.2.1, hE.r.mono ex.1, Out.bind q1 fun xs F2 H2 vs ey ry q2 => q2 F2 H2 _ (Ext.refl ey.2.1) (.cons (rx.mono ey.1) ry)⟩⟩
def tCallKS (n m : Nat) (sp : Sp) (E : L2.St → XK) (t tk : TA) : TE := fun σ H Q => t σ H fun vs H1 => tk σ H1 fun zs H2 => vs.length = n ∧ zs.length = m ∧ sp (vs ++ zs) H2 Q (E σ)
theorem run_fnKS {sp : Sp} {E : L2.St → XK} {pins : List (Addr × Obj)} {σ : L2.St} {H : Hp} {s : Shared} {Q : VK} {us ws : List Value} {vs zs : List V} (F : FnOk X.prog X.w X.K X.mg X.base CX k fa fd ps sp) (hr : Room k X.A) (hb : KBn X.K fd ps n ks (fun us ws => us ++ ws) (fun vs zs => vs ++ zs)) (hx : PassesAt CX X σ (E σ))
    (I : Inv X pins σ H s) (r : Vals vs us) (rz : Vals zs ws) (l1 : vs.length = n) (l2 : zs.length = ks.length) (h : sp (vs ++ zs) H Q (E σ)) : wpAny (model X.prog X.w) X.A (call (.ref fa) us (ks.zip ws)) (EP X pins σ Q) X.xe s := by
  refine wpAny_call (codeAny_mono (F.run X.A X.stack s H ⟨us, ks.zip ws⟩ (us ++ ws) (vs ++ zs) Q (E σ) hr I.env0 (hb.to s us ws I.kIn (r.length.symm.trans l1) (rz.length.symm.trans l2)) (hb.rel r rz) h) fun r s' hq => ?_)
  cases r with
  | error e => exact hx pins H s e s' I hq
  | ok fl =>
    cases fl with
    | ret u => exact I.after hq
    | next => exact False.elim hq
    | brk => exact False.elim hq
    | cont => exact False.elim hq
theorem pe_callKS {sp : Sp} {E : L2.St → XK} {t tk : TA} (F : FnOk X.prog X.w X.K X.mg X.base CX k fa fd ps sp) (hr : Room k X.A) (hg : Gl X x) (hm : X.mg x = some (.ref fa)) (hk : PySem.W.keepIn X.K (.ref fa) = true) (hb : KBn X.K fd ps n ks (fun us ws => us ++ ws) (fun vs zs => vs ++ zs)) (hx : ∀ σ, PassesAt CX X σ (E σ))
    (ha : PA X (e :: es) t) (hkw : PK X kws tk) (hall : (backToKw pos (keywordEach kws X.env)).all (·.1.isSome) = true) (hks : (backToKw pos (keywordEach kws X.env)).filterMap (·.1) = ks)
    (hdb : (x == ("__debug__" : Str)) = false) (he : starEach (e :: es) X.env = (false, eval e X.env) :: starEach es X.env)
    (hpl : ((backTo pos (starEach (e :: es) X.env)).any (·.1) || (backToKw pos (keywordEach kws X.env)).any (·.1.isNone)) = false) :
    PE X (.Call (.Name x p) (e :: es) kws pos) (tCallKS n ks.length sp E t tk) := by
  refine ⟨fun pins s σ H Q I h => ?_⟩
  refine wpAny_Call_Name_kw (ld_glob I hg hm ?_ hdb)
  refine PySem.W.callWith_KW (h₀ := X.base) I.ok.mod.kin hk hall (thn (ha.run pos pins s σ H _ I h) fun us s1 ⟨vs, H1, I1, r, q⟩ => ?_) hpl he
  refine thn (hkw.run pos pins s1 σ H1 _ I1 q) fun ws s2 ⟨zs, H2, I2, rz, l1, l2, q2⟩ => ⟨I2.kIn, ?_⟩
  rw [hks]
  exact run_fnKS F hr hb (hx σ) I2 r rz l1 l2 q2
theorem res_bb {α β γ : Type} {r : Res α} {f : α → Res β} {g : β → Res γ} : (r.bind f).bind g = r.bind fun x => (f x).bind g := by cases r <;> rfl
/-- arguments and keywords, as many as wanted -/
def eKw (n m : Nat) (g gk : DEnv → Res (List D)) : DEnv → Res (List D) := fun ρ => (g ρ).bind fun xs => (gk ρ).bind fun zs => if xs.length = n ∧ zs.length = m then .ok (xs ++ zs) else .st
/-- arguments and what stands for those that lack -/
def eDf (n : Nat) (dds : List D) (g : DEnv → Res (List D)) : DEnv → Res (List D) := fun ρ => (g ρ).bind fun xs => if xs.length = n then .ok (xs ++ dds) else .st
theorem outF {F1 H1 : Hp} {σ : L2.St} {Q : VK} {ds : List D} {n : Nat} (q1 : Out X.K X.mg We (RF X.K X.mg) F1 H1 σ Q (callF n m ds)) : Out X.K X.mg We (RR X.K X.mg true) F1 H1 σ Q (callN n m ds) := out_asL q1
theorem pd_callK (tk : Takes X We) (hr : Room k X.A) (hjk : j ≤ k) (F : FnD X.prog X.w X.K X.mg X.base j fa fd ps false m) (hm : X.mg x = some (.ref fa)) (hk : PySem.W.keepIn X.K (.ref fa) = true) (hb : KBn X.K fd ps n ks (fun us ws => us ++ ws) (fun vs zs => vs ++ zs))
    (ha : PAD X We Sa (e :: es) g) (hkw : PKD X We Sb kws gk) (hg : Gl X x := by rfl) (hdb : (x == ("__debug__" : Str)) = false := by decide) (hall : (backToKw pos (keywordEach kws X.env)).all (·.1.isSome) = true := by rfl) (hks : (backToKw pos (keywordEach kws X.env)).filterMap (·.1) = ks := by rfl)
    (he : starEach (e :: es) X.env = (false, eval e X.env) :: starEach es X.env := by rfl)
    (hpl : ((backTo pos (starEach (e :: es) X.env)).any (·.1) || (backToKw pos (keywordEach kws X.env)).any (·.1.isNone)) = false := by rfl) :
    PD X We (Sa ++ Sb) (.Call (.Name x p) (e :: es) kws pos) (eL (callN ps.length m) (eKw n ks.length g gk)) :=
  pe_imp (pe_callKS F (hr.mono hjk) hg hm hk hb (fun σ => passAt tk σ) ha hkw hall hks hdb he hpl) fun σ H Q ⟨F, ρ, hF, hE, q⟩ => ⟨F, ρ, hF, hE.l, by
    unfold eL eKw at q
    rw [res_bb] at q
    exact Out.bind q fun xs F1 H1 vs ex r q1 => ⟨F1, ρ, ex.2.1, hE.r.mono ex.1, by
      rw [res_bb] at q1
      exact Out.bind q1 fun zs F2 H2 us ey ry q2 => by
        by_cases hl : xs.length = n ∧ zs.length = ks.length
        · rw [if_pos hl] at q2
          exact ⟨by rw [r.length]; exact hl.1, by rw [ry.length]; exact hl.2, callN_out (fr := false) ey.2.1 ((r.mono ey.1).append ry) q2⟩
        · rw [if_neg hl] at q2; exact q2.elim⟩⟩
theorem pf_callK (tk : Takes X We) (hr : Room k X.A) (hjk : j ≤ k) (F : FnD X.prog X.w X.K X.mg X.base j fa fd ps true m) (hm : X.mg x = some (.ref fa)) (hk : PySem.W.keepIn X.K (.ref fa) = true) (hb : KBn X.K fd ps n ks (fun us ws => us ++ ws) (fun vs zs => vs ++ zs))
    (ha : PAD X We Sa (e :: es) g) (hkw : PKD X We Sb kws gk) (hg : Gl X x := by rfl) (hdb : (x == ("__debug__" : Str)) = false := by decide) (hall : (backToKw pos (keywordEach kws X.env)).all (·.1.isSome) = true := by rfl) (hks : (backToKw pos (keywordEach kws X.env)).filterMap (·.1) = ks := by rfl)
    (he : starEach (e :: es) X.env = (false, eval e X.env) :: starEach es X.env := by rfl)
    (hpl : ((backTo pos (starEach (e :: es) X.env)).any (·.1) || (backToKw pos (keywordEach kws X.env)).any (·.1.isNone)) = false := by rfl) :
    PF X We (Sa ++ Sb) (.Call (.Name x p) (e :: es) kws pos) (eL (callF ps.length m) (eKw n ks.length g gk)) :=
  pe_imp (pe_callKS F (hr.mono hjk) hg hm hk hb (fun σ => passAt tk σ) ha hkw hall hks hdb he hpl) fun σ H Q ⟨F, ρ, hF, hE, q⟩ => ⟨F, ρ, hF, hE.l, by
    unfold eL eKw at q
    rw [res_bb] at q
    exact Out.bind q fun xs F1 H1 vs ex r q1 => ⟨F1, ρ, ex.2.1, hE.r.mono ex.1, by
      rw [res_bb] at q1
      exact Out.bind q1 fun zs F2 H2 us ey ry q2 => by
        by_cases hl : xs.length = n ∧ zs.length = ks.length
        · rw [if_pos hl] at q2
          exact ⟨by rw [r.length]; exact hl.1, by rw [ry.length]; exact hl.2, callN_out (fr := true) ey.2.1 ((r.mono ey.1).append ry) (outF q2)⟩
        · rw [if_neg hl] at q2; exact q2.elim⟩⟩
variable {dvs : List V} {dds : List D}
theorem pd_callDf (tk : Takes X We) (hr : Room k X.A) (hjk : j ≤ k) (F : FnD X.prog X.w X.K X.mg X.base j fa fd ps false m) (hm : X.mg x = some (.ref fa)) (hk : PySem.W.keepIn X.K (.ref fa) = true) (hb : ∃ ds, Vals dvs ds ∧ Binds X.K fd ps ds) (hd : ∀ F, RepAll X.K X.mg F dvs dds)
    (ha : PAD X We Sa (e :: es) g) (hg : Gl X x := by rfl) (hdb : (x == ("__debug__" : Str)) = false := by decide) (he : starEach (e :: es) X.env = (false, eval e X.env) :: starEach es X.env := by rfl) (hpl : (backTo pos (starEach es X.env)).any (·.1) = false := by rfl) :
    PD X We Sa (.Call (.Name x p) (e :: es) [] pos) (eL (callN ps.length m) (eDf n dds g)) :=
  let ⟨_, hv, hb⟩ := hb
  pe_imp (pe_callSD F (hr.mono hjk) hg hm hk hb hv (fun σ => passAt tk σ) ha hdb he hpl) fun σ H Q ⟨F, ρ, hF, hE, q⟩ => ⟨F, ρ, hF, hE, by
    unfold eL eDf at q
    rw [res_bb] at q
    exact Out.bind q fun xs F1 H1 vs ex r q1 => by
      by_cases hl : xs.length = n
      · rw [if_pos hl] at q1
        exact callN_out (fr := false) ex.2.1 (r.append (hd F1)) q1
      · rw [if_neg hl] at q1; exact q1.elim⟩
theorem pf_callDf (tk : Takes X We) (hr : Room k X.A) (hjk : j ≤ k) (F : FnD X.prog X.w X.K X.mg X.base j fa fd ps true m) (hm : X.mg x = some (.ref fa)) (hk : PySem.W.keepIn X.K (.ref fa) = true) (hb : ∃ ds, Vals dvs ds ∧ Binds X.K fd ps ds) (hd : ∀ F, RepAll X.K X.mg F dvs dds)
    (ha : PAD X We Sa (e :: es) g) (hg : Gl X x := by rfl) (hdb : (x == ("__debug__" : Str)) = false := by decide) (he : starEach (e :: es) X.env = (false, eval e X.env) :: starEach es X.env := by rfl) (hpl : (backTo pos (starEach es X.env)).any (·.1) = false := by rfl) :
    PF X We Sa (.Call (.Name x p) (e :: es) [] pos) (eL (callF ps.length m) (eDf n dds g)) :=
  let ⟨_, hv, hb⟩ := hb
  pe_imp (pe_callSD F (hr.mono hjk) hg hm hk hb hv (fun σ => passAt tk σ) ha hdb he hpl) fun σ H Q ⟨F, ρ, hF, hE, q⟩ => ⟨F, ρ, hF, hE, by
    unfold eL eDf at q
    rw [res_bb] at q
    exact Out.bind q fun xs F1 H1 vs ex r q1 => by
      by_cases hl : xs.length = n
      · rw [if_pos hl] at q1
        exact callN_out (fr := true) ex.2.1 (r.append (hd F1)) (outF q1)
      · rw [if_neg hl] at q1; exact q1.elim⟩
end
/-- keyword-only parameters kn with their defaults, behind n others: the call that names them all -/
theorem kbn_of {K : PySem.W.Frag} {x qual : Str} {params : Arguments} {body : List Stmt} {scope : Scope} {kws : List (Str × V)} {f : Addr} {fd : FuncData} {ps ks : List Str} {n : Nat} (F : FunD K x qual params body scope [] kws f fd)
    (h : ∀ (kV doc pm : Value) (an : Option Addr) (cdv ct : Value) (us ws : List Value), us.length = n → ws.length = ks.length → bindArgs (PySem.W.fnOf x qual params body scope .none kV doc pm an cdv ct) ⟨us, ks.zip ws⟩ = pure (ps.zip (us ++ ws))) : KBn K fd ps n ks (fun us ws => us ++ ws) (fun vs zs => vs ++ zs) := by
  obtain ⟨oc, od, dV, kV, doc, pm, an, cdv, ct, osl, rfl, lk, hcd, hD, hK⟩ := F.ex
  rcases hD with ⟨_, rfl⟩ | ⟨e, _⟩
  · exact ⟨fun s us ws X l1 l2 => BindsTo.of_looks fun M => PySem.W.Looks.of_pure (h kV doc pm an cdv ct us ws l1 l2), fun r1 r2 => r1.append r2⟩
  · exact absurd rfl e
theorem fund_mk {K : PySem.W.Frag} {x qual : Str} {st : Stmt} {f D : Addr} {oc doc pm cd ct u : Value} {od an : Option Addr} {osl : Array (Option Value)} {k : Str} {v : V}
    (l : K.lookup f = some ⟨oc, od, .func (PySem.W.fnOf x qual (defArgs st) (defBody st) (defScope st) .none (.ref D) doc pm an cd ct), osl⟩) (c : PySem.W.codeIn K cd qual = true) (kp : PySem.W.keepIn K (.ref f) = true)
    (hn : PySem.W.nsIn K D k = some (some u)) (hv : RelV v u) : FunD K x qual (defArgs st) (defBody st) (defScope st) [] [(k, v)] f (PySem.W.fnOf x qual (defArgs st) (defBody st) (defScope st) .none (.ref D) doc pm an cd ct) :=
  ⟨⟨oc, od, .none, .ref D, doc, pm, an, cd, ct, osl, rfl, l, c, .inl ⟨rfl, rfl⟩, .inr ⟨D, rfl, fun q hq => by
    rw [List.mem_singleton.mp hq]
    exact ⟨u, hn, hv⟩⟩⟩, kp⟩
/-! ### a property -/
/-- o.m, o of the class c, m a property -/
def eProp (c : Str) (mm : List D → Res D) (f : DEnv → Res D) : DEnv → Res D := fun ρ => (f ρ).bind fun x => if isM c "" x = true then (match mm [x] with
  | .ok d => .ok d
  | _ => .st) else .st
section
variable {X : Cx} {We : WeX} {Sa : List Nat} {k j : Nat} {fa C pa : Addr} {fd : FuncData} {ps : List Str} {mm : List D → Res D} {c m : Str} {pos : Pos} {o : PySem.Expr} {f : DEnv → Res D} {fl : List Str}
theorem passN0 {X : Cx} : Passes (L2.CX X.prog X.w) X.nox (fun _ _ _ => False) := fun pins σ H s e s' I h => by
  obtain ⟨_, _, _, _, _, _, _, _, _, _, _, _, z⟩ := h
  exact z.elim
theorem pd_prop (hr : Room k X.A) (hjk : j + 1 ≤ k) (cd : ClD X.K X.mg c C fl) (hp : PropOf X.K C m pa fa) (F : FnD X.prog X.w X.K X.mg X.base j fa fd ["self"] false mm) (hb : Binds X.K fd ["self"] []) (ho : PD X We Sa o f)
    (hab : attributeBase o m X.env (eval o X.env) = eval o X.env := by rfl) : PD X We Sa (.Attribute o m pos) (eProp c mm f) :=
  pe_imp (pe_prop ho cd.cl hp F (hr.mono hjk) hb .nil passN0 hab) fun σ H Q ⟨F, ρ, hF, hE, q⟩ => ⟨F, ρ, hF, hE, Out.bind q fun x F1 H1 v ex rx q1 => by
    obtain ⟨z, q1⟩ := out_if q1
    obtain ⟨a, dx, fv, rfl, ha, hl⟩ := isM_at cd ex.2.1 rx z
    refine ⟨a, dx, fv, rfl, ha, ?_⟩
    cases hm : mm [x] with
    | ok d =>
      rw [hm] at q1
      exact ⟨rfl, F1, [x], ex.2.1, .cons rx .nil, by rw [hm]; exact q1⟩
    | er e => rw [hm] at q1; exact q1.elim
    | st => rw [hm] at q1; exact q1.elim⟩
end
end DL
set_option Elab.async false
set_option linter.all false
set_option maxRecDepth 100000
set_option maxHeartbeats 1000000
/-! DL22: x in o by an own __contains__; [*a, *b]; what is never reached. -/
namespace DL
open PySem PySem.Spec PyProof.Rows L2
section
variable {M : Model} {A : Around} {E : Value → Shared → Prop} {s : Shared} {K : PySem.W.Frag} {C a f : Addr} {ox : Obj} {od : Option Obj} {x : Value} {Q : Bool → Shared → Prop}
theorem contains_own (X : K.In s.heap) (I : PySem.W.InstAt s.heap a ox C od) (hs : PySem.W.findIn K (.ref C) "__contains__" = some (some (.ref f))) (hf : PySem.W.isFn K (.ref f) = true)
    (h : wpAny M A (call (.ref f) [.ref a, x]) (fun r s' => ∃ b, r = .bool b ∧ Q b s') E s) : wpAny M A (contains (.ref a) x) Q E s := by
  unfold contains
  refine wpAny_holding ?_
  rw [stdlibNamesSay?_ref]
  refine wpAny_bind (wpAny_bind (I.type.here ((PySem.W.looks_findIn X hs).here ?_)))
  show wpAny M A (if (some (Value.ref f) == some Value.none) = true then _ else _) Q E s
  rw [if_neg (by simp)]
  refine wpAny_bind ?_
  unfold callSpecialUnlessNone?
  refine wpAny_bind (wpAny_bind (I.type.here ((PySem.W.looks_findIn X hs).here ?_)))
  refine wpAny_holding (wpAny_bind ((PySem.W.bind_fn X _ (beq_iff_eq.mp hf)).here ?_))
  show wpAny M A (if (Value.ref f == Value.none) = true then _ else _) _ E s
  rw [if_neg (by simp)]
  refine wpAny_bind (wpAny_mono h (fun r s' hr => ?_) fun _ _ z => z)
  obtain ⟨b, rfl, q⟩ := hr
  exact wpAny_pure (wpAny_of_eq (a := b) (by first | rfl | kernel_rfl) q)
end
/-- y an instance of the class at C with an own __contains__ -/
def rInO (C : Addr) (sp : Sp) (neg : Bool) : R2 := fun x y H Q => ∃ a dx fs, y = .ref a ∧ H a = some (.ins C dx fs) ∧ sp [.ref a, x] H (fun v H' => ∃ b, v = .bl b ∧ Q (.bl (b != neg)) H') fun _ _ _ => False
section
variable {X : Cx} {C f : Addr} {fd : FuncData} {k : Nat} {sp : Sp} {ps : List Str}
theorem cont_own {pins : List (Addr × Obj)} {s : Shared} {σ : L2.St} {H : Hp} {x : V} {v : Value} {a dx : Addr} {fs : List (Str × V)} {Q : Bool → Shared → Prop} (hs : PySem.W.findIn X.K (.ref C) "__contains__" = some (some (.ref f))) (hf : PySem.W.isFn X.K (.ref f) = true) (F : FnOk X.prog X.w X.K X.mg X.base (L2.CX X.prog X.w) k f fd ps sp) (hr : Room k X.A) (hb : Binds X.K fd ps [])
    {R : VK} (I : Inv X pins σ H s) (rx : RelV x v) (ea : H a = some (.ins C dx fs)) (h : sp [.ref a, x] H R fun _ _ _ => False) (q : ∀ s' z H', Inv X pins σ H' s' → R z H' → ∃ b, z = .bl b ∧ Q b s') :
    wpAny (model X.prog X.w) X.A (contains (.ref a) v) Q X.xe s := by
  obtain ⟨mA, O, _, _, _, _⟩ := ins_get I.hok ea
  obtain ⟨od, J, _⟩ := O.look
  refine contains_own I.kIn J hs hf (wpAny_mono (run_fn (dvs := []) (us := [.ref a, v]) (vs := [.ref a, x]) F hr hb .nil passE0 I (.cons rfl (.cons rx .nil)) h) (fun r s' hr => ?_) fun _ _ z => z)
  obtain ⟨z, H', I', rz, hz⟩ := hr
  obtain ⟨b, rfl, hq⟩ := q s' z H' I' hz
  cases (show r = Value.bool b from rz)
  exact ⟨b, rfl, hq⟩
theorem op_inO (hs : PySem.W.findIn X.K (.ref C) "__contains__" = some (some (.ref f))) (hf : PySem.W.isFn X.K (.ref f) = true) (F : FnOk X.prog X.w X.K X.mg X.base (L2.CX X.prog X.w) k f fd ps sp) (hr : Room k X.A) (hb : Binds X.K fd ps []) : OpR X (compareOp .In) (rInO C sp false) := by
  intro pins s σ H x y v u Q I rx ry h
  obtain ⟨a, dx, fs, rfl, ea, h⟩ := h
  cases (show u = Value.ref a from ry)
  show wpAny _ _ (contains (.ref a) v >>= fun b => pure (Value.bool b)) _ _ _
  refine wpAny_bind (wpAny_mono (cont_own (Q := fun b s' => ∃ H', Inv X pins σ H' s' ∧ Q (.bl (b != false)) H') hs hf F hr hb I rx ea h fun s' z H' I' ⟨b, e, hq⟩ => ⟨b, e, H', I', hq⟩) (fun b s' ⟨H', I', hq⟩ => wpAny_pure ⟨.bl b, H', I', rfl, ?_⟩) fun _ _ z => z)
  have e : (b != false) = b := by cases b <;> rfl
  rw [e] at hq
  exact hq
theorem op_notInO (hs : PySem.W.findIn X.K (.ref C) "__contains__" = some (some (.ref f))) (hf : PySem.W.isFn X.K (.ref f) = true) (F : FnOk X.prog X.w X.K X.mg X.base (L2.CX X.prog X.w) k f fd ps sp) (hr : Room k X.A) (hb : Binds X.K fd ps []) : OpR X (compareOp .NotIn) (rInO C sp true) := by
  intro pins s σ H x y v u Q I rx ry h
  obtain ⟨a, dx, fs, rfl, ea, h⟩ := h
  cases (show u = Value.ref a from ry)
  show wpAny _ _ (contains (.ref a) v >>= fun b => pure (Value.bool (!b))) _ _ _
  refine wpAny_bind (wpAny_mono (cont_own (Q := fun b s' => ∃ H', Inv X pins σ H' s' ∧ Q (.bl (b != true)) H') hs hf F hr hb I rx ea h fun s' z H' I' ⟨b, e, hq⟩ => ⟨b, e, H', I', hq⟩) (fun b s' ⟨H', I', hq⟩ => wpAny_pure ⟨.bl (!b), H', I', rfl, ?_⟩) fun _ _ z => z)
  have e : (b != true) = !b := by cases b <;> rfl
  rw [e] at hq
  exact hq
end
/-- x in y, y of the class c with an own __contains__ -/
def dInO (c : Str) (mm : List D → Res D) (neg : Bool) : D → D → Res D := fun x y => if isM c "" y = true then (match mm [y, x] with
  | .ok (.bl b) => .ok (.bl (b != neg))
  | _ => .st) else .st
section
variable {K : PySem.W.Frag} {mg : Str → Option Value} {c : Str} {C : Addr} {fl : List Str} {mm : List D → Res D} {neg : Bool}
theorem isM_at' {m : Str} {F H : Hp} {v : V} {x : D} (cd : ClD K mg c C fl) (hF : Same F H) (rx : Rep K mg F v x) (h : isM c m x = true) : ∃ a dx fv, v = .ref a ∧ H a = some (.ins C dx fv) ∧ fv.lookup m = none := by
  cases x <;> try (cases h; done)
  rename_i c' ns fs
  have h : (decide (c' = c) && !ns.contains m) = true := h
  rw [Bool.and_eq_true, decide_eq_true_eq, Bool.not_eq_true'] at h
  obtain ⟨rfl, hn⟩ := h
  cases rx with
  | obj g ha n r =>
    rw [cd.gl] at g; cases g
    exact ⟨_, _, _, rfl, hF _ _ ha, lookup_not (by rw [n]; exact hn)⟩
theorem od_inO (cd : ClD K mg c C fl) : OpD K mg (rInO C (spD K mg false 2 mm) neg) (dInO c mm neg) := fun We F H σ x y v u Q hF rx ry h => by
  unfold dInO at h
  obtain ⟨z, h⟩ := out_if h
  obtain ⟨a, dx, fv, rfl, ha, hl⟩ := isM_at' cd hF ry z
  refine ⟨a, dx, fv, rfl, ha, rfl, F, [y, x], hF, .cons ry (.cons rx .nil), ?_⟩
  cases hm : mm [y, x] with
  | ok d =>
    rw [hm] at h
    cases d with
    | bl b =>
      intro F' H' w ex rw
      cases rw
      exact ⟨b, rfl, h F' H' _ ex (.bl _)⟩
    | _ => exact h.elim
  | er e => rw [hm] at h; exact h.elim
  | st => rw [hm] at h; exact h.elim
end
/-! ### what is never reached -/
def eStk {β : Type} : DEnv → Res β := fun _ => .st
theorem pd_stk {X : Cx} {We : WeX} {e : PySem.Expr} : PD X We [] e eStk := ⟨fun pins s σ H Q I ⟨F, ρ, hF, hE, q⟩ => q.elim⟩
theorem pf_stk {X : Cx} {We : WeX} {e : PySem.Expr} : PF X We [] e eStk := ⟨fun pins s σ H Q I ⟨F, ρ, hF, hE, q⟩ => q.elim⟩
/-! ### [*a, *b] -/
def eStar (f : DEnv → Res D) (g : DEnv → Res (List D)) : DEnv → Res (List D) := fun ρ => (f ρ).bind fun x => (match x with
  | .lst xs => Res.ok xs
  | .tup xs => .ok xs
  | _ => .st).bind fun xs => (g ρ).bind fun ys => .ok (xs ++ ys)
section
variable {X : Cx} {We : WeX} {Sa Sb : List Nat} {e : PySem.Expr} {es : List PySem.Expr} {f : DEnv → Res D} {g : DEnv → Res (List D)} {p : Pos}
theorem pad_star (ha : PD X We Sa e f) (hr : PAD X We Sb es g) (hs : starEach (.Starred e p :: es) X.env = (true, eval e X.env) :: starEach es X.env := by rfl) : PAD X We (Sa ++ Sb) (.Starred e p :: es) (eStar f g) :=
  pa_imp (StX.pa_star ha hr hs) fun σ H Q ⟨F, ρ, hF, hE, q⟩ => ⟨F, ρ, hF, hE.l, Out.bind q fun x F1 H1 v ex rx q1 => by
    cases x with
    | lst xs =>
      cases rx with
      | lst a b => exact ⟨_, _, rfl, .inr (SqL.same ex.2.1 a), F1, ρ, ex.2.1, hE.r.mono ex.1, Out.bind q1 fun ys F2 H2 vs ey ry q2 => q2 F2 H2 _ (Ext.refl ey.2.1) ((b.mono ey.1).append ry)⟩
    | tup xs =>
      cases rx with
      | tup a b => exact ⟨_, _, rfl, .inl (SqT.same ex.2.1 a), F1, ρ, ex.2.1, hE.r.mono ex.1, Out.bind q1 fun ys F2 H2 vs ey ry q2 => q2 F2 H2 _ (Ext.refl ey.2.1) ((b.mono ey.1).append ry)⟩
    | _ => exact q1.elim⟩
end
end DL
set_option Elab.async false
set_option linter.all false
set_option maxRecDepth 100000
set_option maxHeartbeats 2000000
/-! DL23: enumerate of a tuple. -/
namespace DL
open PySem PySem.Spec PyProof.Rows L2
open AutoSeq1 (wpAny_loadPart')
theorem meets_enumT (l : Addr) (items : Array Value) (n : Nat) (dct : Option Addr) (sl : Array (Option Value)) :
    Meets (Builtin.«enumerate.__new__» ⟨[.type "enumerate", .ref l], []⟩) (fun _ R s => s.heap.get? l = some { cls := .type "tuple", dict := dct, data := .seq items n, slots := sl } ∧
      R (.ok (.ret (.ref (s.heap.push { cls := .type "tuple_iterator", data := .fields #[.ref l, .int 0 0] }).objs.size)))
        { s with heap := (s.heap.push { cls := .type "tuple_iterator", data := .fields #[.ref l, .int 0 0] }).push { cls := .type "enumerate", data := .fields #[.none, .bool false, .ref s.heap.objs.size, rawInt 0, .none, .none] } }) :=
  .of_wp fun prog w A R s h => by
    obtain ⟨hp, g, d, tk, os⟩ := s; obtain ⟨hl, h⟩ := h
    have hsub := PySem.sub_enumerate
    have hL : IsTup (Shared.heap ⟨hp, g, d, tk, os⟩) l items := ⟨_, hl, rfl, n, rfl⟩
    wp_walk using wpAny_loadPart' hl
    refine wpAny_stack_any fun st => wpAny_pure ?_
    split
    · rename_i c _ _ _ _ _
      cases (c == Value.type "enumerate")
      · wp_walk using wpAny_loadPart' hl, iter_tuple hL
        exact ⟨_, rfl, h⟩
      · wp_walk using wpAny_loadPart' hl, iter_tuple hL
        exact ⟨_, rfl, h⟩
    · wp_walk using wpAny_loadPart' hl, iter_tuple hL
      exact ⟨_, rfl, h⟩
section
variable {prog : Program} {w : World} {A : Around} {E : Value → Shared → Prop} {s : Shared}
theorem call_enumT {l : Addr} {items : Array Value} {Q : Value → Shared → Prop} (hL : IsTup s.heap l items)
    (h : ∀ h', IsEnum h' (s.heap.objs.size + 1) s.heap.objs.size 0 .none → IsTupIter h' s.heap.objs.size l 0 → h'.objs.size = s.heap.objs.size + 2 →
      (∀ b o, s.heap.get? b = some o → h'.get? b = some o) → Q (.ref (s.heap.objs.size + 1)) { s with heap := h' }) :
    wpAny (model prog w) A (call (.type "enumerate") [.ref l]) Q E s := by
  obtain ⟨⟨c, dct, dt, sl⟩, hl, hc, n, hd⟩ := hL
  replace hc : c = .type "tuple" := hc
  replace hd : dt = .seq items n := hd
  subst hc hd
  refine callType_new PySem.F.called_enumerate (by decide) (PySem.F.typeCall_enumerate_1 _) (PySem.F.newCall_enumerate_1 _) (fun obj => PySem.F.args_object_init_2 obj _) PySem.F.entry_enumerate_new
    (meets_enumT l items n dct sl) ⟨hl, ?_⟩
  have hz : (s.heap.push { cls := .type "tuple_iterator", data := .fields #[.ref l, .int 0 0] }).objs.size = s.heap.objs.size + 1 := Heap.size_push ..
  show _ ∧ _
  rw [hz]
  have he : IsEnum ((s.heap.push { cls := .type "tuple_iterator", data := .fields #[.ref l, .int 0 0] }).push
      { cls := .type "enumerate", data := .fields #[.none, .bool false, .ref s.heap.objs.size, rawInt 0, .none, .none] }) (s.heap.objs.size + 1) s.heap.objs.size 0 .none := by
    have := Heap.get?_push_size (s.heap.push { cls := .type "tuple_iterator", data := .fields #[.ref l, .int 0 0] })
      (o := { cls := .type "enumerate", data := .fields #[.none, .bool false, .ref s.heap.objs.size, rawInt 0, .none, .none] }) rfl
    rw [hz] at this; exact this
  refine ⟨⟨_, he, rfl⟩, h _ he ⟨_, Heap.get?_push_of_some _ (Heap.get?_push_size _ rfl), rfl, rfl⟩ (by rw [Heap.size_push, hz]) fun b o x => Heap.get?_push_of_some _ (Heap.get?_push_of_some _ x)⟩
end
/-- the tuple at a, each item in a new pair -/
def IteT (K : PySem.W.Frag) (a : Addr) : It :=
  ⟨fun i H => ∃ (xs : List V) (x : V), SqT K H a xs ∧ xs[i]? = some x, fun i H v H' => ∃ T x, v = .ref T ∧ H T = none ∧ H' = upd H T (.tup [.int (i : Nat), x]) ∧ ∀ xs, SqT K H a xs → xs[i]? = some x, fun i H => ∃ xs : List V, SqT K H a xs ∧ xs.length = i⟩
theorem turn_enumT {P : Program} {w : World} {K : PySem.W.Frag} {elts : List PySem.Expr} {kk : Nat} {tpos : Pos} (a e it : Addr) :
    Turn P w K (.Tuple elts kk tpos) (IteT K a) [e, it] e (fun i h => (∃ old, IsEnum h e it ((i : Nat) : Int) old) ∧ h.IsTupleIter it a i ∧ e ≠ it) where
  mem := by simp
  obj := fun i h st b hb => by
    obtain ⟨⟨old, he⟩, ⟨o, ho, hc, hd⟩, _⟩ := st
    have e' : b = e ∨ b = it := by simpa using hb
    rcases e' with z | z
    · rw [z]; exact ⟨_, he, fun v q => nomatch q⟩
    · rw [z]; exact ⟨o, ho, fun v q => by rw [hd] at q; cases q⟩
  keep := fun i h h' st k => let ⟨⟨old, he⟩, hi, hne⟩ := st; ⟨⟨old, k e (by simp) _ he⟩, hi.at fun o q => k it (by simp) o q, hne⟩
  item := by
    intro X hP hw hK hc i pins s σ H E I hf st hg
    subst hP hw hK
    obtain ⟨⟨old, he⟩, hit, hne⟩ := st
    obtain ⟨xs, x, hq, hx⟩ := hg
    obtain ⟨its, rv, p, hz⟩ := I.tuple hq
    obtain ⟨u, hu, ru⟩ := rv.get hx
    have hel : e < s.heap.objs.size := Heap.lt_size he
    have hil : it < s.heap.objs.size := by obtain ⟨_, q, _⟩ := hit; exact Heap.lt_size q
    have pt : s.heap.IsTuple a its.toArray := p
    have hea : e ≠ a := fun z => by
      obtain ⟨o, ho, hc', _⟩ := p
      rw [← z] at ho
      have e2 := he.symm.trans ho
      cases e2
      exact absurd (Value.type.inj hc') (by decide)
    have hia : a ≠ it := fun z => by
      obtain ⟨o, ho, hc', _⟩ := p
      obtain ⟨o2, ho2, hc2, _⟩ := hit
      rw [z, ho2] at ho
      cases ho
      rw [hc2] at hc'
      exact absurd (Value.type.inj hc') (by decide)
    have hlt : i < its.toArray.size := by
      have := (List.getElem?_eq_some_iff.mp hu).1
      simpa using this
    refine wpAny_pyNext_enum_itemD (Draws.tuple (A := X.A.in1) (I.ok.hd hc) it a hia its.toArray) he ⟨hit, pt⟩ hlt hne (by simp [hne, hea]) fun x0 h' tk hx0 ho hit' hT hsz hk => ?_
    have ex0 : x0 = u := by
      rw [show its.toArray[i]? = its[i]? by simp, hu] at hx0
      cases hx0
      rfl
    subst ex0
    refine ⟨_, rfl, wpAny_letOwnedTupleGo_enum (s := { s with heap := h', toks := tk + 1 }) ho fun h'' he' sb => ?_⟩
    have hT2 : h''.get? s.heap.objs.size = some { cls := .type "tuple", data := .seq #[.int i tk, x0] } := (sb.2 _ (Nat.ne_of_gt hel)).trans hT
    have new : ObjOk X.prog X.w (upd H s.heap.objs.size (.tup [.int (i : Nat), x])) h'' s.heap.objs.size (.tup [.int (i : Nat), x]) :=
      ⟨by show 2 ≤ sizeLine; decide, [.int i tk, x0], .cons ⟨_, rfl⟩ (.cons ru .nil), ⟨_, hT2, rfl, _, rfl⟩⟩
    have I1 : Inv X pins σ (upd H s.heap.objs.size (.tup [.int (i : Nat), x])) { s with heap := h'', toks := tk + 1 } :=
      I.turnedNew (ch := [e, it]) (fun b ob hb q => (sb.2 b (fun z => hb (by simp [z]))).trans (hk b ob (fun z => hb (by simp [z])) (fun z => hb (by simp [z])) q)) hf (Nat.le_refl _) new
    refine ⟨.ref s.heap.objs.size, _, I1, rfl, ⟨_, x, rfl, I.hok.fresh (Nat.le_refl _), rfl, fun ys hy => by rw [I.tuple_inj hy hq]; exact hx⟩, ⟨⟨x0, ?_⟩, hit'.1.at fun o q => (sb.2 it (Ne.symm hne)).trans q, hne⟩, fun b hb => ?_⟩
    · have e1 : ((i + 1 : Nat) : Int) = (i : Int) + 1 := by omega
      rw [e1]; exact he'
    · have hb' : b < s.heap.objs.size := by
        have e' : b = e ∨ b = it := by simpa using hb
        rcases e' with z | z
        · rw [z]; exact hel
        · rw [z]; exact hil
      rw [upd_ne (Nat.ne_of_lt hb')]
      exact (hf b hb).1
  done := by
    intro X hP hw hK hc i pins s σ H E I hf st hg
    subst hP hw hK
    obtain ⟨⟨old, he⟩, hit, hne⟩ := st
    obtain ⟨xs, hq, hx⟩ := hg
    obtain ⟨its, rv, p, hz⟩ := I.tuple hq
    obtain ⟨f0, f1, f2, f3, f4, f5⟩ := hf it (by simp)
    have hl := rv.length
    have pt : s.heap.IsTuple a its.toArray := p
    have hia : a ≠ it := fun z => by
      obtain ⟨o, ho, hc', _⟩ := p
      obtain ⟨o2, ho2, hc2, _⟩ := hit
      rw [z, ho2] at ho
      cases ho
      rw [hc2] at hc'
      exact absurd (Value.type.inj hc') (by decide)
    have ei : i = its.toArray.size := by rw [List.size_toArray, ← hl, hx]
    subst ei
    exact wpAny_pyNext_enum_endD (Draws.tuple (A := X.A.in1) (I.ok.hd hc) it a hia its.toArray) he ⟨hit, pt⟩ fun h' eb => ⟨rfl, I.turned (t' := s.toks) (fun b o hb q => eb b o hb q) f0 f1 f3 f4 f5⟩
  self := fun A i s Q E st h => let ⟨⟨_, he⟩, _⟩ := st; wpAny_pyIter_enum he h
def iEnumA (K : PySem.W.Frag) (ta : TA) : TI := fun σ H R => ta σ H fun vs H1 => ∃ a xs, vs = [.ref a] ∧ ((SqL K H1 a xs ∧ R (Ite K a) H1) ∨ (SqT K H1 a xs ∧ R (IteT K a) H1))
theorem pi_enumA {X : Cx} {e : PySem.Expr} {ta : TA} {p pos tpos : Pos} {elts : List PySem.Expr} {kk : Nat} (hg : Gl X "enumerate") (hm : X.mg "enumerate" = none) (ha : PA X [e] ta) (hs : starEach [e] X.env = [(false, eval e X.env)] := by rfl) :
    PI X (.Tuple elts kk tpos) (.Call (.Name "enumerate" p) [e] [] pos) (iEnumA X.K ta) := by
  refine ⟨fun pins s σ H R I h => ?_⟩
  refine Call_ (ld_blt I hg hm boot_enumerate (PyProof.Rows.callWith_type1 (thn (ha.run pos pins s σ H _ I h) fun us s1 ⟨vs, H1, I1, r1, q1⟩ => ?_) hs rfl))
  obtain ⟨a, xs, ex, q⟩ := q1
  subst ex
  cases r1 with
  | cons r rr =>
    cases rr
    cases r
    have fp : ∀ b, b ∈ [s1.heap.objs.size + 1, s1.heap.objs.size] → s1.heap.objs.size ≤ b := fun b hb => by
      have e' : b = s1.heap.objs.size + 1 ∨ b = s1.heap.objs.size := by simpa using hb
      rcases e' with z | z
      · rw [z]; exact Nat.le_add_right _ _
      · rw [z]; exact Nat.le_refl _
    rcases q with ⟨hq, q⟩ | ⟨hq, q⟩
    · obtain ⟨its, rv, p', hz⟩ := I1.list hq
      refine call_enumerate_list p'.isList fun h' he hit hsz hk => wpAny_pyIter_enum he ?_
      have I2 : Inv X pins σ H1 { s1 with heap := h' } := I1.kept (t' := s1.toks) hk
      exact ⟨s1.heap.objs.size + 1, [s1.heap.objs.size + 1, s1.heap.objs.size], _, _, H1, rfl, I2, turn_enum a (s1.heap.objs.size + 1) s1.heap.objs.size, ⟨⟨.none, he⟩, hit, Nat.succ_ne_self _⟩, fun b hb => I1.fpOk (fp b hb) (I1.hok.fresh (fp b hb)), q⟩
    · obtain ⟨its, rv, p', hz⟩ := I1.tuple hq
      refine call_enumT p' fun h' he hit hsz hk => wpAny_pyIter_enum he ?_
      have I2 : Inv X pins σ H1 { s1 with heap := h' } := I1.kept (t' := s1.toks) hk
      exact ⟨s1.heap.objs.size + 1, [s1.heap.objs.size + 1, s1.heap.objs.size], _, _, H1, rfl, I2, turn_enumT a (s1.heap.objs.size + 1) s1.heap.objs.size, ⟨⟨.none, he⟩, hit, Nat.succ_ne_self _⟩, fun b hb => I1.fpOk (fp b hb) (I1.hok.fresh (fp b hb)), q⟩
def bEnumA : List D → Res (List D)
  | [.lst xs] => .ok (enumD 0 xs)
  | [.tup xs] => .ok (enumD 0 xs)
  | _ => .st
section
variable {K : PySem.W.Frag} {mg : Str → Option Value} {F : Hp}
theorem itd_enumT {a : Addr} {vs : List V} {ds : List D} (h : SqT K F a vs) (r : RepAll K mg F vs ds) : ItD K mg (IteT K a) F (enumD 0 ds) := fun i Fc H s1 s2 => by
  have q := SqT.same (s1.trans s2) h
  refine ⟨fun e => ⟨vs, q, by rw [r.length, e, enumD_length]⟩, fun d hd => ?_⟩
  rw [enumD_get] at hd
  cases hx : ds[i]? with
  | none => rw [hx] at hd; cases hd
  | some x =>
    rw [hx] at hd
    cases hd
    obtain ⟨v, hv, rv⟩ := r.get hx
    refine ⟨⟨vs, v, q, hv⟩, fun y H' z => ?_⟩
    obtain ⟨T, w, rfl, nT, rfl, hw⟩ := z
    have e := (hw vs q).symm.trans hv
    cases e
    refine ⟨upd Fc T (.tup [.int (i : Nat), v]), Ext.new s2 nT, .tup (SqT.of upd_same) ?_⟩
    rw [Nat.zero_add]
    exact .cons (.int _) (.cons ((rv.mono s1).mono (same_upd (s2.free nT))) .nil)
end
section
variable {X : Cx} {We : WeX} {S : List Nat} {e : PySem.Expr} {p pos tpos : Pos} {elts : List PySem.Expr} {kk : Nat} {g : DEnv → Res (List D)}
theorem id_enumA (hm : X.mg "enumerate" = none) (ha : PAD X We S [e] g) (hg : Gl X "enumerate" := by rfl) (hs : starEach [e] X.env = [(false, eval e X.env)] := by rfl) : ID X We S (.Tuple elts kk tpos) (.Call (.Name "enumerate" p) [e] [] pos) (eL bEnumA g) :=
  pi_imp (pi_enumA hg hm ha hs) fun σ H R ⟨F, ρ, hF, hE, q⟩ => ⟨F, ρ, hF, hE, Out.bind q fun ds F1 H1 vs ex r q1 => by
    unfold bEnumA at q1
    split at q1
    · rename_i xs
      obtain ⟨v, rfl, rv⟩ := r.one
      cases rv with
      | lst a b => exact ⟨_, _, rfl, .inl ⟨SqL.same ex.2.1 a, q1 F1 H1 _ (Ext.refl ex.2.1) (itd_enum a b)⟩⟩
    · rename_i xs
      obtain ⟨v, rfl, rv⟩ := r.one
      cases rv with
      | tup a b => exact ⟨_, _, rfl, .inr ⟨SqT.same ex.2.1 a, q1 F1 H1 _ (Ext.refl ex.2.1) (itd_enumT a b)⟩⟩
    · exact q1.elim⟩
end
end DL
set_option Elab.async false
set_option linter.all false
set_option maxRecDepth 100000
set_option maxHeartbeats 1000000
/-! DM1: mirrors reckoned out: equations for simp. -/
namespace DL
open PySem PySem.Spec PyProof.Rows L2
section
variable {α β γ : Type} {f g h : DEnv → SRes} {ρ ρ' : DEnv} {S : List Nat} {i n : Nat} {d x y : D} {e : Exn}
@[simp] theorem bind_ok {a : α} {k : α → Res β} : (Res.ok a).bind k = k a := id rfl
@[simp] theorem bind_er {k : α → Res β} : (Res.er e : Res α).bind k = .er e := id rfl
@[simp] theorem bind_st {k : α → Res β} : (Res.st : Res α).bind k = .st := id rfl
@[simp] theorem bindN_okE {a : α} {k : α → Res β} : (Res.ok a).bindN k = k a := id rfl
@[simp] theorem sSeq_ap : sSeq f g ρ = (f ρ).seq g := id rfl
@[simp] theorem seq_nx : (SRes.nx ρ).seq g = g ρ := id rfl
@[simp] theorem seq_rt : (SRes.rt d).seq g = .rt d := id rfl
@[simp] theorem seq_bk : (SRes.bk ρ).seq g = .bk ρ := id rfl
@[simp] theorem seq_ct : (SRes.ct ρ).seq g = .ct ρ := id rfl
@[simp] theorem seq_er : (SRes.er e ρ).seq g = .er e ρ := id rfl
@[simp] theorem seq_st : (SRes.st).seq g = .st := id rfl
@[simp] theorem sNil_ap : sNil ρ = .nx ρ := id rfl
@[simp] theorem after_ok {a : β} {k : β → SRes} : after (.ok a) ρ k = k a := id rfl
@[simp] theorem after_er {k : β → SRes} : after (.er e : Res β) ρ k = .er e ρ := id rfl
@[simp] theorem after_st {k : β → SRes} : after (.st : Res β) ρ k = .st := id rfl
@[simp] theorem rest_f {c : Bool → Bool} {k : DEnv → SRes} : rest false S c ρ k = k (dem S ρ) := id rfl
@[simp] theorem rest_t {c : Bool → Bool} {k : DEnv → SRes} : rest true S c ρ k = if c (hasO S ρ) then k ρ else .st := id rfl
@[simp] theorem sAsg_ap {k : Bool} {fe : DEnv → Res D} : sAsg k S i fe ρ = after (fe ρ) ρ fun d => rest k S (fun b => d.nlx b) ρ fun ρ' => .nx (ρ'.set i (.d d)) := id rfl
@[simp] theorem sAsgF_ap {k : Bool} {fe : DEnv → Res (List D)} : sAsgF k S i fe ρ = after (fe ρ) ρ fun xs => rest k S (fun b => nlxs b xs) ρ fun ρ' => .nx (ρ'.set i (.own false xs)) := id rfl
@[simp] theorem sIf_ap {c : DEnv → Res Bool} : sIf c f g ρ = after (c ρ) ρ fun b => if b then f ρ else g ρ := id rfl
@[simp] theorem sRet_ap {fe : DEnv → Res D} : sRet S fe ρ = after (fe ρ) ρ fun d => .rt d := id rfl
@[simp] theorem sRetF_ap {fe : DEnv → Res (List D)} : sRetF S fe ρ = after (fe ρ) ρ fun xs => .rt (.lst xs) := id rfl
@[simp] theorem sRetN_ap : sRetN ρ = .rt .non := id rfl
@[simp] theorem sBk_ap : sBk ρ = .bk ρ := id rfl
@[simp] theorem sCt_ap : sCt ρ = .ct ρ := id rfl
@[simp] theorem sApp_ap {k : Bool} {fe : DEnv → Res D} : sApp k S i fe ρ = match ρ[i]? with
  | some (.own _ _) => after (fe ρ) ρ fun d => rest k S (fun b => d.nlx b) ρ fun ρ' => match ρ'[i]? with
    | some (.own t xs) => if xs.length < lim then .nx (ρ'.set i (.own t (xs ++ [d]))) else .st
    | _ => .st
  | _ => .st := id rfl
@[simp] theorem sRetO_ap : sRetO i ρ = match ρ[i]? with
  | some (.own _ xs) => .rt (.lst xs)
  | _ => .st := id rfl
theorem cDiv_ok {a b : Int} (h : 0 < b) (h2 : b < 1073741824) : cDiv a b = true := by
  unfold cDiv
  rw [decide_eq_true (by omega), decide_eq_true (by omega)]
  rfl
theorem cMod_ok {a b : Int} (h : 0 < b) : cMod a b = true := decide_eq_true (by omega)
theorem cMul_l {a b : Int} (h : -big < a) (h2 : a < big) : cMul a b = true := by
  unfold big at h h2
  unfold cMul
  rw [decide_eq_true (by omega)]
  rfl
theorem cPow_of {a b : Int} (h : 0 ≤ b) (h2 : b ≤ 1000000) (h3 : -big < a) (h4 : a < big) : cPow a b = true := by
  unfold big at h3 h4
  unfold cPow
  rw [decide_eq_true h, decide_eq_true (by omega), decide_eq_true (by omega)]
  rfl
theorem cShr_ok {a b : Int} (h : 0 ≤ b) : cShr a b = true := decide_eq_true h
theorem bor_nn (a b : Nat) : Builtin.bitOr (a : Int) (b : Int) = ((a ||| b : Nat) : Int) := by
  rw [Bits.bitOr_pp (Int.natCast_nonneg a) (Int.natCast_nonneg b), Int.toNat_natCast, Int.toNat_natCast]
theorem band_nn (a b : Nat) : Builtin.bitAnd (a : Int) (b : Int) = ((a &&& b : Nat) : Int) := by
  rw [bitAnd_pp (Int.natCast_nonneg a) (Int.natCast_nonneg b), Int.toNat_natCast, Int.toNat_natCast]
theorem lim_lt {n : Nat} (h : n ≤ 10000) : n < lim := Nat.lt_of_le_of_lt h (by decide)
/-- dem by places -/
def demI (S : List Nat) : Nat → DEnv → DEnv
  | _, [] => []
  | i, s :: ρ => demS (S.contains i) s :: demI S (i + 1) ρ
theorem dem_shift : ∀ (ρ : DEnv) (j : Nat), (ρ.mapIdx fun i s => demS (S.contains (i + j)) s) = demI S j ρ
  | [], _ => rfl
  | s :: ρ, j => by
    rw [List.mapIdx_cons, demI, Nat.zero_add]
    congr 1
    rw [← dem_shift ρ (j + 1)]
    congr 1
    funext i s
    rw [Nat.add_right_comm, Nat.add_assoc]
@[simp] theorem dem_eq : dem S ρ = demI S 0 ρ := dem_shift ρ 0
@[simp] theorem demI_nil : demI S i [] = [] := id rfl
@[simp] theorem demI_cons {s : Slot} : demI S i (s :: ρ) = demS (S.contains i) s :: demI S (i + 1) ρ := id rfl
@[simp] theorem demS_d {b : Bool} : demS b (.d d) = .d d := id rfl
@[simp] theorem demS_un {b : Bool} : demS b .un = .un := id rfl
@[simp] theorem demS_ot {t : Bool} {xs : List D} : demS true (.own t xs) = .d (.lst xs) := id rfl
@[simp] theorem demS_of {t : Bool} {xs : List D} : demS false (.own t xs) = .own t xs := id rfl
@[simp] theorem demS_bt {t : Bool} {c : Str} {ns : List Str} {fs : List D} : demS true (.obo t c ns fs) = .d (.obj c ns fs) := id rfl
@[simp] theorem demS_bf {t : Bool} {c : Str} {ns : List Str} {fs : List D} : demS false (.obo t c ns fs) = .obo t c ns fs := id rfl
@[simp] theorem demS_ff {s : Slot} : demS false s = s := by cases s <;> rfl
/-- a slot's value -/
def slotV : Option Slot → Res D
  | some s => match s.val with
    | some d => .ok d
    | none => .st
  | none => .st
@[simp] theorem eVar_ap : eVar i ρ = slotV ρ[i]? := by
  unfold eVar slotV
  cases ρ[i]? <;> rfl
@[simp] theorem slotV_d : slotV (some (.d d)) = .ok d := id rfl
@[simp] theorem slotV_own {t : Bool} {xs : List D} : slotV (some (.own t xs)) = .ok (.lst xs) := id rfl
@[simp] theorem slotV_obo {t : Bool} {c : Str} {ns : List Str} {fs : List D} : slotV (some (.obo t c ns fs)) = .ok (.obj c ns fs) := id rfl
@[simp] theorem eC_ap : eC d ρ = .ok d := id rfl
@[simp] theorem e2_ap {o : D → D → Res β} {a b : DEnv → Res D} : e2 o a b ρ = (a ρ).bind fun x => (b ρ).bind fun y => o x y := id rfl
@[simp] theorem e1_ap {o : D → Res β} {a : DEnv → Res D} : e1 o a ρ = (a ρ).bind o := id rfl
@[simp] theorem e3_ap {o : D → Option Int → Option Int → Res β} {a : DEnv → Res D} {l h : DEnv → Res (Option Int)} : e3 o a l h ρ = (a ρ).bind fun x => (l ρ).bind fun p => (h ρ).bind fun q => o x p q := id rfl
@[simp] theorem eNoP_ap : eNoP ρ = .ok none := id rfl
@[simp] theorem eP_ap {a : DEnv → Res D} : eP a ρ = (a ρ).bind asP := id rfl
@[simp] theorem asP_int {j : Int} : asP (.int j) = .ok (some j) := id rfl
@[simp] theorem eCh_ap {o o' : D → D → Res D} {a b c : DEnv → Res D} : eCh o o' a b c ρ = (a ρ).bind fun x => (b ρ).bind fun y => (o x y).bind fun k => match k with
  | .bl true => (c ρ).bind fun z => o' y z
  | .bl false => .ok (.bl false)
  | _ => .st := id rfl
@[simp] theorem asB_bl {b : Bool} : asB (.bl b) = .ok b := id rfl
@[simp] theorem eB_ap {a : DEnv → Res D} : eB a ρ = (a ρ).bind asB := id rfl
@[simp] theorem eTru_ap {a : DEnv → Res D} : eTru a ρ = (a ρ).bind truth := id rfl
@[simp] theorem truth_bl {b : Bool} : truth (.bl b) = .ok b := id rfl
@[simp] theorem truth_int {j : Int} : truth (.int j) = .ok (j != 0) := id rfl
@[simp] theorem truth_non : truth .non = .ok false := id rfl
@[simp] theorem truth_lst {xs : List D} : truth (.lst xs) = .ok (!xs.isEmpty) := id rfl
@[simp] theorem truth_tup {xs : List D} : truth (.tup xs) = .ok (!xs.isEmpty) := id rfl
@[simp] theorem eAnd_ap {a b : DEnv → Res Bool} : eAnd a b ρ = (a ρ).bind fun k => if k then b ρ else .ok false := id rfl
@[simp] theorem eOr_ap {a b : DEnv → Res Bool} : eOr a b ρ = (a ρ).bind fun k => if k then .ok true else b ρ := id rfl
@[simp] theorem eNot_ap {a : DEnv → Res Bool} : eNot a ρ = (a ρ).bind fun k => .ok (!k) := id rfl
@[simp] theorem eIf_ap {c : DEnv → Res Bool} {a b : DEnv → Res β} : eIf c a b ρ = (c ρ).bind fun k => if k then a ρ else b ρ := id rfl
@[simp] theorem eAndV_ap {a b : DEnv → Res D} : eAndV a b ρ = (a ρ).bind fun x => (asB x).bind fun k => if k then b ρ else .ok (.bl false) := id rfl
@[simp] theorem eOrV_ap {a b : DEnv → Res D} : eOrV a b ρ = (a ρ).bind fun x => (asB x).bind fun k => if k then .ok (.bl true) else b ρ := id rfl
@[simp] theorem eNotV_ap {a : DEnv → Res D} : eNotV a ρ = (a ρ).bind fun x => (asB x).bind fun k => .ok (.bl (!k)) := id rfl
@[simp] theorem eNil_ap : eNil ρ = .ok [] := id rfl
@[simp] theorem eCons_ap {a : DEnv → Res D} {r : DEnv → Res (List D)} : eCons a r ρ = (a ρ).bind fun x => (r ρ).bind fun xs => .ok (x :: xs) := id rfl
@[simp] theorem eTup_ap {r : DEnv → Res (List D)} : eTup r ρ = (r ρ).bind fun xs => (okLen xs).bind fun ys => .ok (.tup ys) := id rfl
@[simp] theorem eLst_ap {r : DEnv → Res (List D)} : eLst r ρ = (r ρ).bind okLen := id rfl
@[simp] theorem eFz_ap {r : DEnv → Res (List D)} : eFz r ρ = (r ρ).bind fun xs => .ok (.lst xs) := id rfl
theorem okLen_le {xs : List D} (h : xs.length ≤ lim) : okLen xs = .ok xs := if_pos h
@[simp] theorem okLen0 : okLen [] = .ok [] := id rfl
@[simp] theorem okLen1 {a : D} : okLen [a] = .ok [a] := id rfl
@[simp] theorem okLen2 {a b : D} : okLen [a, b] = .ok [a, b] := id rfl
@[simp] theorem okLen3 {a b c : D} : okLen [a, b, c] = .ok [a, b, c] := id rfl
@[simp] theorem okLen4 {a b c d : D} : okLen [a, b, c, d] = .ok [a, b, c, d] := id rfl
@[simp] theorem okLen8 {a b c d e f g h : D} : okLen [a, b, c, d, e, f, g, h] = .ok [a, b, c, d, e, f, g, h] := id rfl
@[simp] theorem eL_ap {o : List D → Res β} {r : DEnv → Res (List D)} : eL o r ρ = (r ρ).bind o := id rfl
@[simp] theorem eIt_ap {a : DEnv → Res D} : eIt a ρ = (a ρ).bind items := id rfl
@[simp] theorem items_lst {xs : List D} : items (.lst xs) = .ok xs := id rfl
@[simp] theorem items_tup {xs : List D} : items (.tup xs) = .ok xs := id rfl
@[simp] theorem asL_lst {xs : List D} : asL (.lst xs) = .ok xs := id rfl
theorem callN_ap {m : List D → Res D} {ds : List D} (h : ds.length = n) : callN n m ds = m ds := if_pos h
@[simp] theorem callN1 {m : List D → Res D} {a : D} : callN 1 m [a] = m [a] := id rfl
@[simp] theorem callN2 {m : List D → Res D} {a b : D} : callN 2 m [a, b] = m [a, b] := id rfl
@[simp] theorem callN3 {m : List D → Res D} {a b c : D} : callN 3 m [a, b, c] = m [a, b, c] := id rfl
@[simp] theorem callN4 {m : List D → Res D} {a b c d : D} : callN 4 m [a, b, c, d] = m [a, b, c, d] := id rfl
@[simp] theorem callF_ap {m : List D → Res D} {ds : List D} : callF n m ds = (callN n m ds).bind asL := id rfl
@[simp] theorem mkD1 {c : Str} {m : List D → Res (List Str × List D)} {a : D} : mkD c 2 m [a] = (m [a]).bind fun r => .ok (.obj c r.1 r.2) := id rfl
@[simp] theorem mkD2 {c : Str} {m : List D → Res (List Str × List D)} {a b : D} : mkD c 3 m [a, b] = (m [a, b]).bind fun r => .ok (.obj c r.1 r.2) := id rfl
@[simp] theorem callG2 {m : List D → Res (List D)} {a b : D} : callG 2 m [a, b] = match m [a, b] with
  | .ok xs => .ok xs
  | _ => .st := id rfl
/-! ### operators -/
variable {j k : Int} {z w : Str}
@[simp low] theorem dI2_ap {o : Int → Int → Int} : dI2 o (.int j) (.int k) = .ok (.int (o j k)) := id rfl
@[simp] theorem dI2b_ap {o : Int → Int → Bool} : dI2b o (.int j) (.int k) = .ok (.bl (o j k)) := id rfl
@[simp low] theorem dI2c_ap {c : Int → Int → Bool} {o : Int → Int → Int} : dI2c c o (.int j) (.int k) = if c j k = true then .ok (.int (o j k)) else .st := id rfl
@[simp] theorem dAdd_ii : dAdd (.int j) (.int k) = .ok (.int (j + k)) := id rfl
@[simp] theorem dNeg_ap : dNeg (.int j) = .ok (.int (-j)) := id rfl
@[simp] theorem bAbs_ap : bAbs [.int j] = .ok (.int (if j < 0 then -j else j)) := id rfl
@[simp] theorem bInt_ap : bInt [.int j] = .ok (.int j) := id rfl
@[simp] theorem bLen_lst {xs : List D} : bLen [.lst xs] = .ok (.int xs.length) := id rfl
@[simp] theorem bLen_tup {xs : List D} : bLen [.tup xs] = .ok (.int xs.length) := id rfl
@[simp] theorem bTuple_lst {xs : List D} : bTuple [.lst xs] = .ok (.tup xs) := id rfl
@[simp] theorem bList_lst {xs : List D} : bList [.lst xs] = .ok xs := id rfl
@[simp] theorem dIx_lst {xs : List D} : dIx (.lst xs) (.int j) = match atI xs j with
  | some d => .ok d
  | none => .st := id rfl
@[simp] theorem dIx_tup {xs : List D} : dIx (.tup xs) (.int j) = match atI xs j with
  | some d => .ok d
  | none => .st := id rfl
theorem atI_at {α : Type} {xs : List α} {i : Nat} {x : α} (h : xs[i]? = some x) : L2.atI xs (i : Int) = some x := atI_nat h
@[simp] theorem g1_ap : g1 d = some [d] := id rfl
/-- == of data that is plain, as ints -/
theorem dEq_ii : dEq (.int j) (.int k) = .ok (.bl (D.eqv (.int j) (.int k))) := rfl
end
/-! ### loops -/
/-- a loop by an invariant -/
theorem forL_ind {sl : List Nat} {g : D → Option (List D)} {fb : DEnv → SRes} (I : Nat → DEnv → Prop) : ∀ (ds : List D) (n : Nat) (ρ : DEnv), I n ρ →
    (∀ i d ρ, ds[i]? = some d → I (n + i) ρ → ∃ vs ρ', g d = some vs ∧ (fb (setAll ρ sl (vs.map Slot.d)) = .nx ρ' ∨ fb (setAll ρ sl (vs.map Slot.d)) = .ct ρ') ∧ I (n + i + 1) ρ') → ∃ ρ', forL sl g fb ds ρ = .nx ρ' ∧ I (n + ds.length) ρ'
  | [], n, ρ, h, _ => ⟨ρ, rfl, h⟩
  | d :: ds, n, ρ, h, st => by
    obtain ⟨vs, ρ', h1, h2, h3⟩ := st 0 d ρ rfl h
    obtain ⟨ρ'', q1, q2⟩ := forL_ind I ds (n + 1) ρ' h3 fun i d ρ e z => by
      have := st (i + 1) d ρ (by simpa using e) (by rw [show n + (i + 1) = n + 1 + i by omega]; exact z)
      rw [show n + (i + 1) + 1 = n + 1 + i + 1 by omega] at this
      exact this
    refine ⟨ρ'', ?_, by rw [List.length_cons, show n + (ds.length + 1) = n + 1 + ds.length by omega]; exact q2⟩
    unfold forL
    simp only [h1]
    rcases h2 with h2 | h2 <;> simp only [h2, q1]
theorem forL_nx {sl : List Nat} {g : D → Option (List D)} {fb : DEnv → SRes} {d : D} {ds vs : List D} {ρ ρ' : DEnv} (h : g d = some vs) (e : fb (setAll ρ sl (vs.map Slot.d)) = .nx ρ') : forL sl g fb (d :: ds) ρ = forL sl g fb ds ρ' := by
  have z : forL sl g fb (d :: ds) ρ = (match g d with
    | none => .st
    | some vs => match fb (setAll ρ sl (vs.map Slot.d)) with
      | .nx ρ' => forL sl g fb ds ρ'
      | .ct ρ' => forL sl g fb ds ρ'
      | .bk ρ' => .nx ρ'
      | r => r) := rfl
  rw [z, h]
  simp only [e]
theorem rangeD_len {lo : Int} {n : Nat} : (rangeD lo n).length = n := by simp [rangeD]
theorem rangeD_get {lo : Int} {n i : Nat} {d : D} (h : (rangeD lo n)[i]? = some d) : i < n ∧ d = .int (lo + i) := by
  unfold rangeD at h
  rw [List.getElem?_map] at h
  cases hc : (List.range n)[i]? with
  | none => rw [hc] at h; cases h
  | some c =>
    rw [hc] at h
    cases h
    obtain ⟨h1, h2⟩ := List.getElem?_eq_some_iff.mp hc
    have h1 : i < n := by simpa using h1
    have h2 : i = c := by simpa using h2
    subst h2
    exact ⟨h1, rfl⟩
@[simp] theorem sForR_ap {sl : List Nat} {fi : DEnv → Res (List D)} {g : D → Option (List D)} {fb : DEnv → SRes} {ρ : DEnv} : sForR sl fi g fb ρ = after (fi ρ) ρ fun ds => forL sl g fb ds ρ := id rfl
@[simp] theorem sFor_ap {S sl : List Nat} {fi : DEnv → Res (List D)} {g : D → Option (List D)} {fb : DEnv → SRes} {ρ : DEnv} : sFor S sl fi g fb ρ = after (fi ρ) ρ fun ds => forL sl g fb ds (dem S ρ) := id rfl
theorem rng1_ap {j : Int} (h0 : 0 ≤ j) (h1 : j < 4611686018427387904) : rng1 [.int j] = .ok (rangeD 0 j.toNat) := by
  show (if cR j = true then Res.ok (rangeD 0 j.toNat) else Res.st) = _
  rw [if_pos]
  unfold cR
  exact decide_eq_true (by omega)
theorem dAnd_nn (a b : Nat) : dAnd (.int a) (.int b) = .ok (.int ((a &&& b : Nat) : Int)) := congrArg (fun z => Res.ok (D.int z)) (band_nn a b)
theorem dOr_nn (a b : Nat) : dOr (.int a) (.int b) = .ok (.int ((a ||| b : Nat) : Int)) := congrArg (fun z => Res.ok (D.int z)) (bor_nn a b)
theorem beq_nn (a b : Nat) : ((a : Int) == (b : Int)) = decide (a = b) := by
  by_cases h : a = b
  · subst h; simp
  · rw [decide_eq_false h]
    exact beq_eq_false_iff_ne.mpr fun z => h (Int.ofNat.inj z)
theorem dEq_nn (a b : Nat) : dEq (.int a) (.int b) = .ok (.bl (decide (a = b))) := congrArg (fun z => Res.ok (D.bl z)) (beq_nn a b)
theorem dNe_nn (a b : Nat) : dNe (.int a) (.int b) = .ok (.bl (!decide (a = b))) := congrArg (fun z => Res.ok (D.bl (!z))) (beq_nn a b)
theorem rng1_n (n : Nat) (h : n ≤ 1000000) : rng1 [.int (n : Int)] = .ok (rangeD 0 n) := by rw [rng1_ap (by omega) (by omega), Int.toNat_natCast]
@[simp] theorem gT2_ap {a b : D} {g : List D → Option (List D)} : gT 2 g (.tup [a, b]) = g [a, b] := id rfl
@[simp] theorem gT3_ap {a b c : D} {g : List D → Option (List D)} : gT 3 g (.tup [a, b, c]) = g [a, b, c] := id rfl
@[simp] theorem gC_ap {a : D} {as : List D} {g : D → Option (List D)} {h : List D → Option (List D)} : gC g h (a :: as) = (g a).bind fun x => (h as).bind fun y => some (x ++ y) := id rfl
@[simp] theorem gN_ap : gN [] = some [] := id rfl
@[simp] theorem setAll_nil {α : Type} {l : List α} {xs : List α} : setAll l [] xs = l := by cases xs <;> rfl
@[simp] theorem setAll_cons {α : Type} {l : List α} {i : Nat} {is : List Nat} {x : α} {xs : List α} : setAll l (i :: is) (x :: xs) = setAll (l.set i x) is xs := id rfl
@[simp] theorem sTgt_ap {k : Bool} {S sl : List Nat} {g : D → Option (List D)} {f : DEnv → Res D} {ρ : DEnv} : sTgt k S sl g f ρ = after (f ρ) ρ fun d => rest k S (fun b => d.nlx b) ρ fun ρ' => match g d with
  | some ds => .nx (setAll ρ' sl (ds.map Slot.d))
  | none => .st := id rfl
@[simp] theorem sAttr_ap {k : Bool} {S : List Nat} {cs : List Str} {i : Nat} {fl : Str} {f : DEnv → Res D} {ρ : DEnv} : sAttr k S cs i fl f ρ = after (f ρ) ρ fun d => rest k S (fun b => d.nlx b) ρ fun ρ' => match ρ'[i]? with
  | some (.obo t c ns fs) => if cs.contains c = true ∧ ns.length < 1000 then .nx (ρ'.set i (.obo t c (putN fl ns) (putD fl d ns fs))) else .st
  | _ => .st := id rfl
@[simp] theorem nlx_int {b : Bool} {j : Int} : (D.int j).nlx b = true := id rfl
@[simp] theorem nlx_bl {b c : Bool} : (D.bl c).nlx b = true := id rfl
@[simp] theorem nlx_str {b : Bool} {z : Str} : (D.str z).nlx b = true := id rfl
@[simp] theorem nlx_non {b : Bool} : (D.non).nlx b = true := id rfl
@[simp] theorem nlx_tup {b : Bool} {xs : List D} : (D.tup xs).nlx b = nlxs b xs := id rfl
@[simp] theorem nlxs_nil {b : Bool} : nlxs b [] = true := id rfl
@[simp] theorem nlxs_cons {b : Bool} {x : D} {xs : List D} : nlxs b (x :: xs) = (x.nlx b && nlxs b xs) := id rfl
/-! ### generators, while -/
def gsq (r : GRes) (g : DEnv → GRes) : GRes := match r with
  | (a, .nx ρ') => (a ++ (g ρ').1, (g ρ').2)
  | r => r
@[simp] theorem gSeq_ap {f g : DEnv → GRes} {ρ : DEnv} : gSeq f g ρ = gsq (f ρ) g := id rfl
@[simp] theorem gsq_nx {a : List D} {ρ : DEnv} {g : DEnv → GRes} : gsq (a, .nx ρ) g = (a ++ (g ρ).1, (g ρ).2) := id rfl
@[simp] theorem gPl_ap {f : DEnv → SRes} {ρ : DEnv} : gPl f ρ = ([], f ρ) := id rfl
@[simp] theorem gNil_ap {ρ : DEnv} : DL.gNil ρ = ([], .nx ρ) := id rfl
def gyR (S : List Nat) (ρ : DEnv) : Res D → GRes
  | .ok d => ([d], .nx (dem S ρ))
  | .er x => ([], .er x ρ)
  | .st => ([], .st)
@[simp] theorem gYd_ap {S : List Nat} {f : DEnv → Res D} {ρ : DEnv} : gYd false S f ρ = gyR S ρ (f ρ) := by
  unfold gYd gyR
  cases f ρ <;> rfl
@[simp] theorem gyR_ok {S : List Nat} {d : D} {ρ : DEnv} : gyR S ρ (.ok d) = ([d], .nx (dem S ρ)) := id rfl
theorem gWh_f {c : DEnv → Res Bool} {f : DEnv → GRes} {ρ : DEnv} {n : Nat} (h : c ρ = .ok false) : gWh c f (n + 1) ρ = ([], .nx ρ) := by
  show (match c ρ with
    | .ok true => match f ρ with
      | (a, .nx ρ') => (a ++ (gWh c f n ρ').1, (gWh c f n ρ').2)
      | (a, .ct ρ') => (a ++ (gWh c f n ρ').1, (gWh c f n ρ').2)
      | (a, .bk ρ') => (a, .nx ρ')
      | r => r
    | .ok false => ([], .nx ρ)
    | .er x => ([], .er x ρ)
    | .st => ([], .st)) = _
  rw [h]
theorem gWh_t {c : DEnv → Res Bool} {f : DEnv → GRes} {ρ ρ' : DEnv} {n : Nat} {a : List D} (h : c ρ = .ok true) (e : f ρ = (a, .nx ρ')) : gWh c f (n + 1) ρ = (a ++ (gWh c f n ρ').1, (gWh c f n ρ').2) := by
  show (match c ρ with
    | .ok true => match f ρ with
      | (a, .nx ρ') => (a ++ (gWh c f n ρ').1, (gWh c f n ρ').2)
      | (a, .ct ρ') => (a ++ (gWh c f n ρ').1, (gWh c f n ρ').2)
      | (a, .bk ρ') => (a, .nx ρ')
      | r => r
    | .ok false => ([], .nx ρ)
    | .er x => ([], .er x ρ)
    | .st => ([], .st)) = _
  rw [h]
  simp only [e]
theorem whL_f {c : DEnv → Res Bool} {f : DEnv → SRes} {ρ : DEnv} {n : Nat} (h : c ρ = .ok false) : whL c f (n + 1) ρ = .nx ρ := by
  show (after (c ρ) ρ fun b => if b then (match f ρ with
      | .nx ρ' => whL c f n ρ'
      | .ct ρ' => whL c f n ρ'
      | .bk ρ' => .nx ρ'
      | r => r) else .nx ρ) = _
  rw [h]
  rfl
theorem whL_t {c : DEnv → Res Bool} {f : DEnv → SRes} {ρ ρ' : DEnv} {n : Nat} (h : c ρ = .ok true) (e : f ρ = .nx ρ') : whL c f (n + 1) ρ = whL c f n ρ' := by
  show (after (c ρ) ρ fun b => if b then (match f ρ with
      | .nx ρ' => whL c f n ρ'
      | .ct ρ' => whL c f n ρ'
      | .bk ρ' => .nx ρ'
      | r => r) else .nx ρ) = _
  rw [h, e]
  rfl
@[simp] theorem sNever_ap {ρ : DEnv} : sNever ρ = .st := id rfl
@[simp] theorem atI_0 {α : Type} {a : α} {xs : List α} : L2.atI (a :: xs) 0 = some a := atI_nat (j := 0) rfl
@[simp] theorem atI_1 {α : Type} {a b : α} {xs : List α} : L2.atI (a :: b :: xs) 1 = some b := atI_nat (j := 1) rfl
@[simp] theorem atI_2 {α : Type} {a b c : α} {xs : List α} : L2.atI (a :: b :: c :: xs) 2 = some c := atI_nat (j := 2) rfl
end DL
set_option Elab.async false
set_option linter.all false
set_option maxRecDepth 100000
set_option maxHeartbeats 1000000
/-! DM2: comprehensions, loops and sorting reckoned out. -/
namespace DL
open PySem PySem.Spec PyProof.Rows L2
def nD (z : Nat) : D := .int (z : Int)
theorem lcL_of {α : Type} {sl : List Nat} {g : D → Option (List D)} {ft : DEnv → Res Bool} {fe : DEnv → Res D} {ρ : DEnv} (F : α → D) (p : α → Bool) (h : α → D) : ∀ l : List α,
    (∀ a ∈ l, ∃ vs, g (F a) = some vs ∧ ft (setAll ρ sl (vs.map Slot.d)) = .ok (p a) ∧ (p a = true → fe (setAll ρ sl (vs.map Slot.d)) = .ok (h a))) → lcL sl g ft fe ρ (l.map F) = .ok ((l.filter p).map h)
  | [], _ => rfl
  | a :: l, q => by
    obtain ⟨vs, h1, h2, h3⟩ := q a List.mem_cons_self
    have ih := lcL_of F p h l fun b hb => q b (List.mem_cons_of_mem _ hb)
    have e : lcL sl g ft fe ρ ((a :: l).map F) = (match g (F a) with
      | none => .st
      | some vs => (ft (setAll ρ sl (vs.map Slot.d))).bindN fun b => if b then (fe (setAll ρ sl (vs.map Slot.d))).bindN fun y => (lcL sl g ft fe ρ (l.map F)).bindN fun ys => .ok (y :: ys) else lcL sl g ft fe ρ (l.map F)) := rfl
    rw [e, h1]
    dsimp only
    rw [h2, bindN_okE, ih]
    cases hp : p a with
    | true =>
      rw [if_pos rfl, h3 hp, bindN_okE, bindN_okE, List.filter_cons_of_pos hp, List.map_cons]
    | false =>
      rw [if_neg Bool.false_ne_true, List.filter_cons_of_neg (by rw [hp]; simp)]
/-- one name, no test -/
theorem lcL_map {α : Type} {i : Nat} {fe : DEnv → Res D} {ρ : DEnv} (F : α → D) (h : α → D) (l : List α) (q : ∀ a ∈ l, fe (ρ.set i (.d (F a))) = .ok (h a)) : lcL [i] g1 tYesD fe ρ (l.map F) = .ok (l.map h) := by
  rw [lcL_of F (fun _ => true) h l fun a ha => ⟨[F a], rfl, rfl, fun _ => q a ha⟩]
  rw [List.filter_eq_self.mpr fun _ _ => rfl]
/-- one name and a test -/
theorem lcL_filter {α : Type} {i : Nat} {ft : DEnv → Res Bool} {fe : DEnv → Res D} {ρ : DEnv} (F : α → D) (p : α → Bool) (h : α → D) (l : List α) (q : ∀ a ∈ l, ft (ρ.set i (.d (F a))) = .ok (p a) ∧ (p a = true → fe (ρ.set i (.d (F a))) = .ok (h a))) :
    lcL [i] g1 ft fe ρ (l.map F) = .ok ((l.filter p).map h) := lcL_of F p h l fun a ha => ⟨[F a], rfl, q a ha⟩
@[simp] theorem eLc_ap {sl : List Nat} {fi : DEnv → Res (List D)} {g : D → Option (List D)} {ft : DEnv → Res Bool} {fe : DEnv → Res D} {ρ : DEnv} : eLc sl fi g ft fe ρ = (fi ρ).bind fun ds => (lcL sl g ft fe ρ ds).bindN okLen := id rfl
@[simp] theorem eSsc_ap {sl : List Nat} {fi : DEnv → Res (List D)} {g : D → Option (List D)} {ft : DEnv → Res Bool} {fe : DEnv → Res D} {ρ : DEnv} : eSsc sl fi g ft fe ρ = (fi ρ).bind fun ds => (lcL sl g ft fe ρ ds).bindN setSort := id rfl
@[simp] theorem tYesD_ap {ρ : DEnv} : tYesD ρ = .ok true := id rfl
theorem rangeD_nat (n : Nat) : rangeD 0 n = (List.range n).map nD := by
  unfold rangeD nD
  exact List.map_congr_left fun k _ => by rw [Int.zero_add]
theorem forL_of {α β : Type} {sl : List Nat} {g : D → Option (List D)} {fb : DEnv → SRes} (F : α → D) (R : β → DEnv → Prop) (step : β → α → β) : ∀ (l : List α) (b : β) (ρ : DEnv), R b ρ →
    (∀ b a ρ, a ∈ l → R b ρ → ∃ vs ρ', g (F a) = some vs ∧ (fb (setAll ρ sl (vs.map Slot.d)) = .nx ρ' ∨ fb (setAll ρ sl (vs.map Slot.d)) = .ct ρ') ∧ R (step b a) ρ') → ∃ ρ', forL sl g fb (l.map F) ρ = .nx ρ' ∧ R (l.foldl step b) ρ'
  | [], b, ρ, h, _ => ⟨ρ, rfl, h⟩
  | a :: l, b, ρ, h, q => by
    obtain ⟨vs, ρ1, h1, h2, h3⟩ := q b a ρ List.mem_cons_self h
    obtain ⟨ρ', k1, k2⟩ := forL_of F R step l (step b a) ρ1 h3 fun b a ρ ha => q b a ρ (List.mem_cons_of_mem _ ha)
    refine ⟨ρ', ?_, k2⟩
    have e : forL sl g fb ((a :: l).map F) ρ = (match g (F a) with
      | none => .st
      | some vs => match fb (setAll ρ sl (vs.map Slot.d)) with
        | .nx ρ' => forL sl g fb (l.map F) ρ'
        | .ct ρ' => forL sl g fb (l.map F) ρ'
        | .bk ρ' => .nx ρ'
        | r => r) := rfl
    rw [e, h1]
    rcases h2 with h2 | h2 <;> simp only [h2, k1]
/-- a loop that may return: some item makes it return d, or all pass -/
theorem forL_any {α : Type} {sl : List Nat} {g : D → Option (List D)} {fb : DEnv → SRes} (F : α → D) (R : DEnv → Prop) (bad : α → Bool) (d : D) : ∀ (l : List α) (ρ : DEnv), R ρ →
    (∀ a ρ, a ∈ l → R ρ → ∃ vs, g (F a) = some vs ∧ if bad a = true then fb (setAll ρ sl (vs.map Slot.d)) = .rt d else ∃ ρ', (fb (setAll ρ sl (vs.map Slot.d)) = .nx ρ' ∨ fb (setAll ρ sl (vs.map Slot.d)) = .ct ρ') ∧ R ρ') →
    if l.any bad = true then forL sl g fb (l.map F) ρ = .rt d else ∃ ρ', forL sl g fb (l.map F) ρ = .nx ρ' ∧ R ρ'
  | [], ρ, h, _ => ⟨ρ, rfl, h⟩
  | a :: l, ρ, h, q => by
    obtain ⟨vs, h1, h2⟩ := q a ρ List.mem_cons_self h
    have e : forL sl g fb ((a :: l).map F) ρ = (match g (F a) with
      | none => .st
      | some vs => match fb (setAll ρ sl (vs.map Slot.d)) with
        | .nx ρ' => forL sl g fb (l.map F) ρ'
        | .ct ρ' => forL sl g fb (l.map F) ρ'
        | .bk ρ' => .nx ρ'
        | r => r) := rfl
    rw [e, h1, List.any_cons]
    cases hb : bad a with
    | true =>
      rw [hb, if_pos rfl] at h2
      rw [Bool.true_or, if_pos rfl]
      simp only [h2]
    | false =>
      rw [hb, if_neg Bool.false_ne_true] at h2
      obtain ⟨ρ1, k1, k2⟩ := h2
      rw [Bool.false_or]
      have ih := forL_any F R bad d l ρ1 k2 fun a ρ ha => q a ρ (List.mem_cons_of_mem _ ha)
      rcases k1 with k1 | k1 <;> simp only [k1] <;> exact ih
theorem dShr_nn (a b : Nat) : dShr (.int a) (.int b) = .ok (.int ((a / 2 ^ b : Nat) : Int)) := by
  show (if cShr a b = true then Res.ok (D.int ((a : Int) / 2 ^ (b : Int).toNat)) else .st) = _
  rw [if_pos (cShr_ok (by omega)), Int.toNat_natCast]
  congr 2
theorem pow_le_big {k : Nat} (h : k ≤ 60) : 2 ^ k < 18446744073709551616 := Nat.lt_of_le_of_lt (Nat.pow_le_pow_right (by decide) h) (by decide)
theorem dShl_1 {k : Nat} (h : k ≤ 1000) : dShl (.int 1) (.int (k : Nat)) = .ok (.int ((2 ^ k : Nat) : Int)) := by
  show (if cPow 1 k = true then Res.ok (D.int ((1 : Int) * 2 ^ (k : Int).toNat)) else .st) = _
  rw [if_pos (cPow_of (by omega) (by omega) (by decide) (by decide)), Int.toNat_natCast, Int.one_mul]
  congr 2
theorem bit_one (m k : Nat) : ((m / 2 ^ k) &&& 1 = 1) ↔ m.testBit k = true := by
  rw [Nat.testBit_eq_decide_div_mod_eq, decide_eq_true_eq, Nat.and_one_is_mod]
theorem bit_dec (m k : Nat) : decide ((m / 2 ^ k) &&& 1 = 1) = m.testBit k := by
  rw [Bool.eq_iff_iff, decide_eq_true_eq, bit_one]
@[simp] theorem bSorted_lst {xs : List D} : bSorted [.lst xs] = if sortOk xs = true then .ok (sortD xs) else .st := id rfl
@[simp] theorem bRev_lst {xs : List D} : bRev (.lst xs) = .ok xs.reverse := id rfl
theorem asBls_map {α : Type} (f : α → Bool) : ∀ l : List α, asBls (l.map fun a => .bl (f a)) = some (l.map f)
  | [] => rfl
  | a :: l => by
    show asBls (.bl (f a) :: l.map _) = _
    unfold asBls
    rw [asBls_map f l]
    rfl
theorem bAll_map {α : Type} (f : α → Bool) (l : List α) : bAll [.lst (l.map fun a => .bl (f a))] = .ok (.bl (l.all f)) := by
  show (match asBls (l.map fun a => .bl (f a)) with
    | some bs => Res.ok (D.bl (bs.all id))
    | none => .st) = _
  rw [asBls_map]
  simp
theorem bAny_map {α : Type} (f : α → Bool) (l : List α) : bAny [.lst (l.map fun a => .bl (f a))] = .ok (.bl (l.any f)) := by
  show (match asBls (l.map fun a => .bl (f a)) with
    | some bs => Res.ok (D.bl (bs.any id))
    | none => .st) = _
  rw [asBls_map]
  simp
/-! ### data compared by a test that the kernel can run -/
mutual
def sameB : D → D → Bool
  | .non, .non => true
  | .bl a, .bl b => a == b
  | .int a, .int b => decide (a = b)
  | .str a, .str b => decide (a = b)
  | .tup a, .tup b => samesB a b
  | .lst a, .lst b => samesB a b
  | .obj c n a, .obj d m b => decide (c = d) && decide (n = m) && samesB a b
  | _, _ => false
def samesB : List D → List D → Bool
  | [], [] => true
  | a :: as, b :: bs => sameB a b && samesB as bs
  | _, _ => false
end
mutual
theorem sameB_eq : ∀ a b : D, sameB a b = true → a = b
  | .non, b, h => by cases b <;> first | rfl | cases h
  | .bl x, b, h => by
    cases b with
    | bl y =>
      have h : (x == y) = true := h
      rw [beq_iff_eq.mp h]
    | _ => cases h
  | .int x, b, h => by
    cases b with
    | int y => rw [of_decide_eq_true (p := x = y) h]
    | _ => cases h
  | .str x, b, h => by
    cases b with
    | str y => rw [of_decide_eq_true (p := x = y) h]
    | _ => cases h
  | .tup x, b, h => by
    cases b with
    | tup y => rw [samesB_eq x y h]
    | _ => cases h
  | .lst x, b, h => by
    cases b with
    | lst y => rw [samesB_eq x y h]
    | _ => cases h
  | .obj c n x, b, h => by
    cases b with
    | obj d m y =>
      have h : (decide (c = d) && decide (n = m) && samesB x y) = true := h
      rw [Bool.and_eq_true, Bool.and_eq_true] at h
      rw [of_decide_eq_true h.1.1, of_decide_eq_true h.1.2, samesB_eq x y h.2]
    | _ => cases h
theorem samesB_eq : ∀ a b : List D, samesB a b = true → a = b
  | [], [], _ => rfl
  | [], _ :: _, h => by cases h
  | _ :: _, [], h => by cases h
  | a :: as, b :: bs, h => by
    have h : (sameB a b && samesB as bs) = true := h
    rw [Bool.and_eq_true] at h
    rw [sameB_eq a b h.1, samesB_eq as bs h.2]
end
/-- the answer is d -/
def isOk (r : Res D) (d : D) : Bool := match r with
  | .ok e => sameB e d
  | _ => false
theorem isOk_eq {r : Res D} {d : D} (h : isOk r d = true) : r = .ok d := by
  unfold isOk at h
  split at h
  · rw [sameB_eq _ _ h]
  · cases h
/-- for a in l: if p a: out.append(h a) -/
theorem forL_fm {α β : Type} {sl : List Nat} {g : D → Option (List D)} {fb : DEnv → SRes} (F : α → D) (p : α → Bool) (h : α → β) (N : Nat) (st : List β → DEnv → Prop) : ∀ (l : List α) (ks : List β) (ρ : DEnv), st ks ρ → ks.length + l.length ≤ N →
    (∀ ks a ρ, a ∈ l → ks.length < N → st ks ρ → ∃ vs ρ', g (F a) = some vs ∧ (fb (setAll ρ sl (vs.map Slot.d)) = .nx ρ' ∨ fb (setAll ρ sl (vs.map Slot.d)) = .ct ρ') ∧ st (if p a = true then ks ++ [h a] else ks) ρ') →
    ∃ ρ', forL sl g fb (l.map F) ρ = .nx ρ' ∧ st (ks ++ (l.filter p).map h) ρ'
  | [], ks, ρ, q, _, _ => ⟨ρ, rfl, by simpa using q⟩
  | a :: l, ks, ρ, q, n, t => by
    rw [List.length_cons] at n
    obtain ⟨vs, ρ1, h1, h2, h3⟩ := t ks a ρ List.mem_cons_self (by omega) q
    obtain ⟨ρ', k1, k2⟩ := forL_fm F p h N st l _ ρ1 h3 (by split <;> (try simp only [List.length_append, List.length_singleton]) <;> omega) fun ks b ρ hb => t ks b ρ (List.mem_cons_of_mem _ hb)
    refine ⟨ρ', ?_, ?_⟩
    · have e : forL sl g fb ((a :: l).map F) ρ = (match g (F a) with
        | none => .st
        | some vs => match fb (setAll ρ sl (vs.map Slot.d)) with
          | .nx ρ' => forL sl g fb (l.map F) ρ'
          | .ct ρ' => forL sl g fb (l.map F) ρ'
          | .bk ρ' => .nx ρ'
          | r => r) := rfl
      rw [e, h1]
      rcases h2 with h2 | h2 <;> simp only [h2, k1]
    · cases hp : p a with
      | true =>
        rw [hp, if_pos rfl] at k2
        rw [List.filter_cons_of_pos hp, List.map_cons]
        simpa using k2
      | false =>
        rw [hp, if_neg Bool.false_ne_true] at k2
        rw [List.filter_cons_of_neg (by rw [hp]; simp)]
        exact k2
/-! ### in, == of ints -/
theorem eqv_nD (a b : Nat) : (nD a).eqv (nD b) = decide (a = b) := beq_nn a b
theorem flats_nD (l : List Nat) : (l.map nD).all D.flat = true := by
  rw [List.all_map]
  exact List.all_eq_true.mpr fun _ _ => rfl
theorem inSeq_nD (k : Nat) (l : List Nat) : inSeq (nD k) (l.map nD) = l.contains k := by
  unfold inSeq
  rw [List.any_map, Bool.eq_iff_iff, List.any_eq_true, List.contains_iff_mem]
  constructor
  · rintro ⟨x, hx, e⟩
    have e : (nD x).eqv (nD k) = true := e
    rw [eqv_nD, decide_eq_true_eq] at e
    exact e ▸ hx
  · intro h
    exact ⟨k, h, by show (nD k).eqv (nD k) = true; rw [eqv_nD, decide_eq_true_eq]⟩
theorem dInS_tup (k : Nat) (l : List Nat) : dInS (nD k) (.tup (l.map nD)) = .ok (l.contains k) := by
  show (if ((nD k).flat && (l.map nD).all D.flat) = true then Res.ok (inSeq (nD k) (l.map nD)) else .st) = _
  rw [flats_nD, show (nD k).flat = true from rfl, if_pos (by decide), inSeq_nD]
theorem dInS_lst (k : Nat) (l : List Nat) : dInS (nD k) (.lst (l.map nD)) = .ok (l.contains k) := by
  show (if ((nD k).flat && (l.map nD).all D.flat) = true then Res.ok (inSeq (nD k) (l.map nD)) else if (dOk 16 (nD k) && dOks 16 (l.map nD)) = true then .ok (inSeq (nD k) (l.map nD)) else .st) = _
  rw [flats_nD, show (nD k).flat = true from rfl, if_pos (by decide), inSeq_nD]
@[simp] theorem dIn_ap {x y : D} : dIn x y = (dInS x y).bind fun b => .ok (.bl b) := id rfl
@[simp] theorem dNotIn_ap {x y : D} : dNotIn x y = (dInS x y).bind fun b => .ok (.bl !b) := id rfl
theorem eqvs_nD : ∀ l m : List Nat, eqvs (l.map nD) (m.map nD) = decide (l = m)
  | [], [] => rfl
  | [], _ :: _ => rfl
  | _ :: _, [] => rfl
  | a :: l, b :: m => by
    show ((nD a).eqv (nD b) && eqvs (l.map nD) (m.map nD)) = _
    rw [eqv_nD, eqvs_nD l m, Bool.eq_iff_iff]
    simp
@[simp] theorem minus_nil {sl : List Nat} : minus [] sl = [] := id rfl
@[simp] theorem minus_cons {i : Nat} {S sl : List Nat} : minus (i :: S) sl = if sl.contains i = true then minus S sl else i :: minus S sl := by
  unfold minus
  cases h : sl.contains i with
  | true => rw [List.filter_cons_of_neg (by rw [h]; decide), if_pos rfl]
  | false => rw [List.filter_cons_of_pos (by rw [h]; decide), if_neg Bool.false_ne_true]
end DL
set_option Elab.async false
set_option linter.all false
set_option maxRecDepth 100000
set_option maxHeartbeats 1000000
/-! DM3: selections as masks: their order, what sorting makes of them. No program in sight. -/
namespace DL
open PySem PySem.Spec PyProof.Rows L2 Cb
def sel (c m : Nat) : List Nat := (List.range c).filter fun k => m.testBit k
def selD (c m : Nat) : D := .tup ((sel c m).map nD)
def mk (l : List Nat) : Nat := l.foldl (fun a k => a ||| 2 ^ k) 0
def ord (c : Nat) : List Nat := (List.range (c + 1)).flatMap fun k => (combs c k).map mk
def selP (c m : Nat) : D := .tup [.int ((sel c m).length : Nat), selD c m]
def ltD (a b : D) : Bool := !leD b a
def chainB (r : Nat → Nat → Bool) : List Nat → Bool
  | [] => true
  | [_] => true
  | a :: b :: l => r a b && chainB r (b :: l)
def ordOk (c : Nat) : Bool := ((List.range (c + 1)).all fun k => (combs c k).all fun l => sel c (mk l) == l && decide (mk l < 2 ^ c)) &&
  ((List.range (2 ^ c)).all fun m => (ord c).contains m && mk (sel c m) == m) && decide ((ord c).length = 2 ^ c) && chainB (fun a b => ltD (selP c a) (selP c b)) (ord c)
theorem ordOk_all : ((List.range 8).all ordOk) = true := by decide +kernel
structure OrdOk (c : Nat) : Prop where
  combs : ∀ k ≤ c, ∀ l ∈ combs c k, sel c (mk l) = l ∧ mk l < 2 ^ c
  mem : ∀ m, m ∈ ord c ↔ m < 2 ^ c
  nodup : (ord c).Nodup
  back : ∀ m, m < 2 ^ c → mk (sel c m) = m
  sorted : (ord c).Pairwise fun a b => ltD (selP c a) (selP c b) = true
theorem ltD_trans {a b c : D} (h : ltD a b = true) (k : ltD b c = true) : ltD a c = true := by
  unfold ltD at h k ⊢
  rw [Bool.not_eq_true'] at h k ⊢
  cases z : leD c a with
  | false => rfl
  | true =>
    rcases leD_total.total a b with q | q
    · rw [leD_total.trans c a b z q] at k; cases k
    · rw [q] at h; cases h
theorem ltD_le {a b : D} (h : ltD a b = true) : leD a b = true := by
  unfold ltD at h
  rw [Bool.not_eq_true'] at h
  rcases leD_total.total a b with q | q
  · exact q
  · rw [q] at h; cases h
theorem chain_pw {r : Nat → Nat → Bool} (tr : ∀ a b c, r a b = true → r b c = true → r a c = true) : ∀ {l : List Nat}, chainB r l = true → l.Pairwise fun a b => r a b = true
  | [], _ => .nil
  | [a], _ => by simp
  | a :: b :: l, h => by
    have h : (r a b && chainB r (b :: l)) = true := h
    rw [Bool.and_eq_true] at h
    have ih := chain_pw tr h.2
    refine .cons (fun x hx => ?_) ih
    cases hx with
    | head => exact h.1
    | tail _ hx => exact tr a b x h.1 ((List.pairwise_cons.mp ih).1 x hx)
theorem ord_ok {c : Nat} (h : c ≤ 7) : OrdOk c := by
  have z := List.all_eq_true.mp ordOk_all c (List.mem_range.mpr (by omega))
  unfold ordOk at z
  simp only [Bool.and_eq_true, List.all_eq_true, beq_iff_eq, decide_eq_true_eq, List.mem_range, List.contains_iff_mem] at z
  obtain ⟨⟨⟨z1, z2⟩, z3⟩, z4⟩ := z
  have pm := perm_range (2 ^ c) (ord c) z3 fun k hk => (z2 k hk).1
  exact ⟨fun k hk l hl => z1 k (by omega) l hl, fun m => by rw [pm.mem_iff, List.mem_range], pm.nodup_iff.mpr List.nodup_range, fun m hm => (z2 m hm).2, chain_pw (r := fun a b => ltD (selP c a) (selP c b)) (fun _ _ _ => ltD_trans) z4⟩
theorem OrdOk.inj {c m n : Nat} (O : OrdOk c) (hm : m < 2 ^ c) (hn : n < 2 ^ c) (h : sel c m = sel c n) : m = n := by rw [← O.back m hm, ← O.back n hn, h]
/-- the set ms in order -/
def can (c : Nat) (ms : List Nat) : List Nat := (ord c).filter fun m => ms.contains m
theorem mem_can {c m : Nat} {ms : List Nat} (O : OrdOk c) (b : ∀ m ∈ ms, m < 2 ^ c) : m ∈ can c ms ↔ m ∈ ms := by
  unfold can
  rw [List.mem_filter, O.mem, List.contains_iff_mem]
  exact ⟨fun h => h.2, fun h => ⟨b m h, h⟩⟩
theorem can_nodup {c : Nat} {ms : List Nat} (O : OrdOk c) : (can c ms).Nodup := O.nodup.filter _
theorem can_congr {c : Nat} {ms ns : List Nat} (h : ∀ m, m ∈ ms ↔ m ∈ ns) : can c ms = can c ns := by
  unfold can
  refine List.filter_congr fun m _ => ?_
  rw [Bool.eq_iff_iff, List.contains_iff_mem, List.contains_iff_mem]
  exact h m
theorem can_sorted {c : Nat} {ms : List Nat} (O : OrdOk c) : (can c ms).Pairwise fun a b => ltD (selP c a) (selP c b) = true := O.sorted.filter _
/-! ### sorting -/
theorem alikeInts : ∀ l m : List Nat, PySem.W.alikeAll (pys (l.map nD)) (pys (m.map nD)) = true
  | [], [] => rfl
  | [], _ :: _ => rfl
  | _ :: _, [] => rfl
  | a :: l, b :: m => by
    show (PySem.W.alike (.int a) (.int b) && PySem.W.alikeAll (pys (l.map nD)) (pys (m.map nD))) = true
    rw [alikeInts l m]
    rfl
theorem alikePair (c m n : Nat) : PySem.W.alike (selP c m).py (selP c n).py = true := by
  show (PySem.W.alike (.int ((sel c m).length : Nat)) (.int ((sel c n).length : Nat)) && (PySem.W.alikeAll (pys ((sel c m).map nD)) (pys ((sel c n).map nD)) && PySem.W.alikeAll [] [])) = true
  rw [alikeInts]
  rfl
theorem dOks_ints (n : Nat) : ∀ l : List Nat, dOks n (l.map nD) = true
  | [] => rfl
  | a :: l => by
    show (dOk n (nD a) && dOks n (l.map nD)) = true
    rw [dOks_ints n l, show dOk n (nD a) = true by cases n <;> rfl]
    rfl
theorem kOks_ints (n : Nat) : ∀ l : List Nat, kOks n (l.map nD) = true
  | [] => rfl
  | a :: l => by
    show (kOk n (nD a) && kOks n (l.map nD)) = true
    rw [kOks_ints n l, show kOk n (nD a) = true by cases n <;> rfl]
    rfl
theorem dOk_pair (c m : Nat) : dOk 15 (selP c m) = true := by
  show (dOk 14 (.int ((sel c m).length : Nat)) && (dOks 13 ((sel c m).map nD) && dOks 14 [])) = true
  rw [dOks_ints]
  rfl
theorem dOk16_pair (c m : Nat) : dOk 16 (selP c m) = true := by
  show (dOk 15 (.int ((sel c m).length : Nat)) && (dOks 14 ((sel c m).map nD) && dOks 15 [])) = true
  rw [dOks_ints]
  rfl
theorem sortOk_pairs {c : Nat} {ms : List Nat} (h : ms.length ≤ lim) : sortOk (ms.map (selP c)) = true := by
  refine sortOk_iff.mpr ⟨?_, ?_, .inl ?_, by rw [List.length_map]; exact h⟩
  · clear h
    induction ms with
    | nil => rfl
    | cons m ms ih =>
      show (dOk 15 (selP c m) && dOks 15 (ms.map (selP c))) = true
      rw [ih, dOk_pair]
      rfl
  · unfold alikes
    simp only [List.all_eq_true, List.mem_map]
    rintro _ ⟨m, _, rfl⟩ _ ⟨n, _, rfl⟩
    exact alikePair c m n
  · simp only [List.all_eq_true, List.mem_map]
    rintro _ ⟨m, _, rfl⟩
    rfl
theorem apart_pairs {c m n : Nat} (O : OrdOk c) (hm : m < 2 ^ c) (hn : n < 2 ^ c) (ne : m ≠ n) : (leD (selP c m) (selP c n) && leD (selP c n) (selP c m)) = false := by
  have : ∀ {l : List Nat}, l.Pairwise (fun a b => ltD (selP c a) (selP c b) = true) → m ∈ l → n ∈ l → ltD (selP c m) (selP c n) = true ∨ ltD (selP c n) (selP c m) = true := by
    intro l pl
    induction pl with
    | nil => intro h; cases h
    | @cons x l hx _ ih =>
      intro a b
      cases a with
      | head =>
        cases b with
        | head => exact absurd rfl ne
        | tail _ b => exact .inl (hx n b)
      | tail _ a =>
        cases b with
        | head => exact .inr (hx m a)
        | tail _ b => exact ih a b
  rcases this O.sorted ((O.mem m).mpr hm) ((O.mem n).mpr hn) with z | z
  · unfold ltD at z
    rw [Bool.not_eq_true'] at z
    rw [z, Bool.and_false]
  · unfold ltD at z
    rw [Bool.not_eq_true'] at z
    rw [z, Bool.false_and]
theorem strict_pairs {c : Nat} (O : OrdOk c) : ∀ {ms : List Nat}, ms.Nodup → (∀ m ∈ ms, m < 2 ^ c) → strictD (ms.map (selP c)) = true
  | [], _, _ => rfl
  | m :: ms, nd, b => by
    obtain ⟨n1, n2⟩ := List.nodup_cons.mp nd
    show (((ms.map (selP c)).all fun e => !(leD (selP c m) e && leD e (selP c m))) && strictD (ms.map (selP c))) = true
    rw [strict_pairs O n2 fun x hx => b x (List.mem_cons_of_mem _ hx), Bool.and_true]
    simp only [List.all_eq_true, List.mem_map]
    rintro _ ⟨n, hn, rfl⟩
    rw [apart_pairs O (b m List.mem_cons_self) (b n (List.mem_cons_of_mem _ hn)) fun e => n1 (e ▸ hn)]
    rfl
/-- sorting distinct selections -/
theorem sort_sel {c : Nat} (O : OrdOk c) {ms : List Nat} (nd : ms.Nodup) (b : ∀ m ∈ ms, m < 2 ^ c) : sortD (ms.map (selP c)) = (can c ms).map (selP c) := by
  have pm : (can c ms).Perm ms := (List.perm_ext_iff_of_nodup (can_nodup O) nd).mpr fun m => mem_can O b
  refine (sort_only (strict_pairs O nd b) (pm.map _) ?_).symm
  rw [List.pairwise_map]
  exact (can_sorted O).imp fun h => ltD_le h
/-- the first of each -/
def ddN : List Nat → List Nat → List Nat
  | acc, [] => acc
  | acc, m :: ms => ddN (if acc.contains m = true then acc else acc ++ [m]) ms
theorem nk_ints : ∀ {l m : List Nat}, nks (l.map nD) = nks (m.map nD) → l = m
  | [], [], _ => rfl
  | [], _ :: _, h => by cases h
  | _ :: _, [], h => by cases h
  | a :: l, b :: m, h => by
    have h : NestedKey.num a :: nks (l.map nD) = NestedKey.num b :: nks (m.map nD) := h
    injection h with h1 h2
    injection h1 with h1
    rw [nk_ints h2, Int.ofNat.inj h1]
theorem nk_pair {c m n : Nat} (O : OrdOk c) (hm : m < 2 ^ c) (hn : n < 2 ^ c) (h : (selP c m).nk = (selP c n).nk) : m = n := by
  have h : NestedKey.tup [.num _, .tup (nks ((sel c m).map nD))] = NestedKey.tup [.num _, .tup (nks ((sel c n).map nD))] := h
  injection h with h
  injection h with _ h
  injection h with h _
  injection h with h
  exact O.inj hm hn (nk_ints h)
theorem hasK_pair {c m : Nat} (O : OrdOk c) {acc : List Nat} (b : ∀ x ∈ acc, x < 2 ^ c) (hm : m < 2 ^ c) : hasK (acc.map (selP c)) (selP c m) = acc.contains m := by
  rw [Bool.eq_iff_iff, hasK_iff, List.contains_iff_mem, List.map_map, List.mem_map]
  exact ⟨fun ⟨x, hx, e⟩ => nk_pair O (b x hx) hm e ▸ hx, fun h => ⟨m, h, rfl⟩⟩
theorem ddS_pairs {c : Nat} (O : OrdOk c) : ∀ (ms acc : List Nat), (∀ m ∈ ms, m < 2 ^ c) → (∀ m ∈ acc, m < 2 ^ c) → ddS (acc.map (selP c)) (ms.map (selP c)) = (ddN acc ms).map (selP c)
  | [], _, _, _ => rfl
  | m :: ms, acc, b1, b2 => by
    have hm := b1 m List.mem_cons_self
    show ddS (if hasK (acc.map (selP c)) (selP c m) = true then acc.map (selP c) else acc.map (selP c) ++ [selP c m]) (ms.map (selP c)) = (ddN (if acc.contains m = true then acc else acc ++ [m]) ms).map (selP c)
    rw [hasK_pair O b2 hm]
    have b3 : ∀ x ∈ (if acc.contains m = true then acc else acc ++ [m]), x < 2 ^ c := by
      split
      · exact b2
      · intro x hx
        rcases List.mem_append.mp hx with h | h
        · exact b2 x h
        · rw [List.mem_singleton.mp h]; exact hm
    rw [← ddS_pairs O ms _ (fun x hx => b1 x (List.mem_cons_of_mem _ hx)) b3]
    split <;> simp
theorem ddN_mem : ∀ (ms acc : List Nat) (m : Nat), m ∈ ddN acc ms ↔ m ∈ acc ∨ m ∈ ms
  | [], acc, m => by simp [ddN]
  | x :: ms, acc, m => by
    unfold ddN
    rw [ddN_mem ms]
    split
    · rename_i h
      rw [List.contains_iff_mem] at h
      simp only [List.mem_cons]
      constructor
      · rintro (z | z)
        · exact .inl z
        · exact .inr (.inr z)
      · rintro (z | rfl | z)
        · exact .inl z
        · exact .inl h
        · exact .inr z
    · simp only [List.mem_append, List.mem_cons, List.not_mem_nil, or_false, or_assoc]
theorem ddN_nodup : ∀ (ms acc : List Nat), acc.Nodup → (ddN acc ms).Nodup
  | [], _, h => h
  | x :: ms, acc, h => by
    unfold ddN
    refine ddN_nodup ms _ ?_
    split
    · exact h
    · rename_i z
      rw [List.contains_iff_mem] at z
      exact List.nodup_append.mpr ⟨h, by simp, fun a ha b hb e => by
        rw [List.mem_singleton.mp hb] at e
        exact z (e ▸ ha)⟩
theorem small_set {c : Nat} (hc : c ≤ 7) {ms : List Nat} (nd : ms.Nodup) (b : ∀ m ∈ ms, m < 2 ^ c) : ms.length ≤ 128 := by
  have := nat_nodup_len ms (List.range (2 ^ c)) nd fun x hx => List.mem_range.mpr (b x hx)
  rw [List.length_range] at this
  exact Nat.le_trans this (Nat.pow_le_pow_right (by decide) hc)
/-- sorted({(len(s), s) for s in ..}) -/
theorem set_sel {c : Nat} (hc : c ≤ 7) {ms : List Nat} (b : ∀ m ∈ ms, m < 2 ^ c) : setSort (ms.map (selP c)) = .ok ((can c ms).map (selP c)) := by
  have O := ord_ok hc
  have e : ddS [] (ms.map (selP c)) = (ddN [] ms).map (selP c) := ddS_pairs O ms [] b (by simp)
  have nd := ddN_nodup ms [] (by simp)
  have b2 : ∀ m ∈ ddN [] ms, m < 2 ^ c := fun m hm => b m (((ddN_mem ms [] m).mp hm).resolve_left (by simp))
  have sm := small_set hc nd b2
  unfold setSort
  rw [e, if_pos]
  · rw [sort_sel O nd b2, can_congr (ms := ddN [] ms) (ns := ms) fun m => by rw [ddN_mem]; simp]
  · have k1 : (ms.map (selP c)).all keyT = true := by
      simp only [List.all_eq_true, List.mem_map]
      rintro _ ⟨m, _, rfl⟩
      show (kOk 7 (.int ((sel c m).length : Nat)) && (kOks 6 ((sel c m).map nD) && kOks 7 [])) = true
      rw [kOks_ints]
      rfl
    rw [k1, sortOk_pairs (Nat.le_trans sm (by decide)), strict_pairs O nd b2, List.length_map, decide_eq_true (by omega)]
    rfl
end DL
set_option Elab.async false
set_option linter.all false
set_option maxRecDepth 100000
set_option maxHeartbeats 1000000
/-! DM4: least, greatest and hitting selections, as masks. -/
namespace DL
open PySem PySem.Spec PyProof.Rows L2 Cb
/-! ### within -/
def wnB (a b : Nat) : Bool := a &&& b == a
theorem wnB_iff {a b : Nat} : wnB a b = true ↔ ∀ j, a.testBit j = true → b.testBit j = true := by
  unfold wnB
  rw [beq_iff_eq]
  constructor
  · intro h j hj
    have e := congrArg (fun z => Nat.testBit z j) h
    simp only [Nat.testBit_and, hj, Bool.true_and] at e
    exact e
  · intro h
    apply Nat.eq_of_testBit_eq
    intro j
    rw [Nat.testBit_and]
    cases ha : a.testBit j with
    | false => rfl
    | true => rw [h j ha]; rfl
theorem wnB_refl (a : Nat) : wnB a a = true := wnB_iff.mpr fun _ h => h
theorem wnB_trans {a b c : Nat} (h : wnB a b = true) (k : wnB b c = true) : wnB a c = true := wnB_iff.mpr fun j q => wnB_iff.mp k j (wnB_iff.mp h j q)
theorem wnB_anti {a b : Nat} (h : wnB a b = true) (k : wnB b a = true) : a = b := by
  apply Nat.eq_of_testBit_eq
  intro j
  rw [Bool.eq_iff_iff]
  exact ⟨wnB_iff.mp h j, wnB_iff.mp k j⟩
theorem wnB_le {a b : Nat} (h : wnB a b = true) : a ≤ b := by
  unfold wnB at h
  rw [beq_iff_eq] at h
  rw [← h]
  exact Nat.and_le_right
/-! ### keeping the first -/
def keepF (r : Nat → Nat → Bool) (ks : List Nat) (m : Nat) : List Nat := if (ks.all fun s => !r s m) = true then ks ++ [m] else ks
def firstIn (r : Nat → Nat → Bool) (l : List Nat) (m : Nat) : Bool := l.all fun s => !r s m || s == m
theorem keep_first (r : Nat → Nat → Bool) (tr : ∀ a b c, r a b = true → r b c = true → r a c = true) (l : List Nat) (nd : l.Nodup) (pw : l.Pairwise fun a b => r b a = false) : ∀ (rest pre ks : List Nat), l = pre ++ rest →
    (∀ t ∈ pre, ∃ s ∈ ks, s = t ∨ r s t = true) → ks = pre.filter (firstIn r l) → rest.foldl (keepF r) ks = l.filter (firstIn r l)
  | [], pre, ks, e, _, k => by
    rw [List.append_nil] at e
    rw [List.foldl_nil, k, e]
  | m :: rest, pre, ks, e, cov, k => by
    have ml : m ∈ l := by rw [e]; simp
    have mpre : m ∉ pre := fun h => by
      rw [e] at nd
      exact (List.nodup_append.mp nd).2.2 m h m List.mem_cons_self rfl
    have later : ∀ t ∈ rest, r t m = false := by
      rw [e] at pw
      exact (List.pairwise_cons.mp (List.pairwise_append.mp pw).2.1).1
    have sub : ∀ s ∈ ks, s ∈ pre := fun s hs => by rw [k] at hs; exact (List.mem_filter.mp hs).1
    rw [List.foldl_cons]
    have e2 : l = (pre ++ [m]) ++ rest := by rw [e]; simp
    unfold keepF
    by_cases a : (ks.all fun s => !r s m) = true
    · rw [if_pos a]
      simp only [List.all_eq_true, Bool.not_eq_true'] at a
      have fm : firstIn r l m = true := by
        unfold firstIn
        simp only [List.all_eq_true, Bool.or_eq_true, Bool.not_eq_true', beq_iff_eq]
        intro t ht
        by_cases tm : t = m
        · exact .inr tm
        · left
          rw [e] at ht
          rcases List.mem_append.mp ht with h | h
          · obtain ⟨s, s1, s2⟩ := cov t h
            cases z : r t m with
            | false => rfl
            | true =>
              have := a s s1
              rcases s2 with rfl | s2
              · rw [z] at this; cases this
              · rw [tr s t m s2 z] at this; cases this
          · rcases List.mem_cons.mp h with h | h
            · exact absurd h tm
            · exact later t h
      refine keep_first r tr l nd pw rest (pre ++ [m]) _ e2 (fun t ht => ?_) ?_
      · rcases List.mem_append.mp ht with h | h
        · obtain ⟨s, s1, s2⟩ := cov t h
          exact ⟨s, List.mem_append_left _ s1, s2⟩
        · exact ⟨m, by simp, .inl (List.mem_singleton.mp h).symm⟩
      · rw [List.filter_append, ← k, List.filter_cons_of_pos fm]
        rfl
    · rw [if_neg a]
      have a : ∃ s ∈ ks, r s m = true := by
        simpa using a
      obtain ⟨s, s1, s2⟩ := a
      have fm : firstIn r l m = false := by
        unfold firstIn
        rw [List.all_eq_false]
        refine ⟨s, by rw [e]; exact List.mem_append_left _ (sub s s1), ?_⟩
        rw [s2]
        simp only [Bool.not_true, Bool.false_or, beq_iff_eq]
        exact fun h => mpre (h ▸ sub s s1)
      refine keep_first r tr l nd pw rest (pre ++ [m]) _ e2 (fun t ht => ?_) ?_
      · rcases List.mem_append.mp ht with h | h
        · exact cov t h
        · exact ⟨s, s1, .inr (List.mem_singleton.mp h ▸ s2)⟩
      · rw [List.filter_append, ← k, List.filter_cons_of_neg (by rw [fm]; simp)]
        simp
/-! ### least and greatest -/
def minl (ms : List Nat) : List Nat := ms.filter (firstIn wnB ms)
def ovB (g m : Nat) : Bool := wnB m g
def maxl (ms : List Nat) : List Nat := ms.filter (firstIn ovB ms)
def pairsB (r : Nat → Nat → Bool) : List Nat → Bool
  | [] => true
  | a :: l => (l.all fun b => r a b) && pairsB r l
theorem pairsB_pw {r : Nat → Nat → Bool} : ∀ {l : List Nat}, pairsB r l = true → l.Pairwise fun a b => r a b = true
  | [], _ => .nil
  | a :: l, h => by
    have h : ((l.all fun b => r a b) && pairsB r l) = true := h
    rw [Bool.and_eq_true, List.all_eq_true] at h
    exact .cons h.1 (pairsB_pw h.2)
theorem ordSub_all : ((List.range 8).all fun c => pairsB (fun a b => !wnB b a) (ord c)) = true := by decide +kernel
theorem ord_sub {c : Nat} (h : c ≤ 7) : (ord c).Pairwise fun a b => wnB b a = false := by
  have z := pairsB_pw (List.all_eq_true.mp ordSub_all c (List.mem_range.mpr (by omega)))
  exact z.imp fun {a b} h => by simpa using h
theorem firstIn_congr {r : Nat → Nat → Bool} {l k : List Nat} (h : ∀ m, m ∈ l ↔ m ∈ k) (m : Nat) : firstIn r l m = firstIn r k m := by
  unfold firstIn
  rw [Bool.eq_iff_iff, List.all_eq_true, List.all_eq_true]
  exact ⟨fun q s hs => q s ((h s).mpr hs), fun q s hs => q s ((h s).mp hs)⟩
theorem can_filter {c : Nat} {ms : List Nat} (p : Nat → Bool) : (can c ms).filter p = can c (ms.filter p) := by
  unfold can
  rw [List.filter_filter]
  refine List.filter_congr fun m _ => ?_
  rw [Bool.eq_iff_iff, Bool.and_eq_true, List.contains_iff_mem, List.contains_iff_mem, List.mem_filter]
  exact ⟨fun h => ⟨h.2, h.1⟩, fun h => ⟨h.2, h.1⟩⟩
theorem least_fold {c : Nat} (hc : c ≤ 7) {ms : List Nat} (b : ∀ m ∈ ms, m < 2 ^ c) : (can c ms).foldl (keepF wnB) [] = can c (minl ms) := by
  have O := ord_ok hc
  rw [keep_first wnB (fun _ _ _ => wnB_trans) (can c ms) (can_nodup O) ((ord_sub hc).filter _) (can c ms) [] [] rfl (by simp) rfl, can_filter]
  unfold minl
  congr 1
  exact List.filter_congr fun m _ => firstIn_congr (fun m => mem_can O b) m
theorem greatest_fold {c : Nat} (hc : c ≤ 7) {ms : List Nat} (b : ∀ m ∈ ms, m < 2 ^ c) : (can c ms).reverse.foldl (keepF ovB) [] = (can c (maxl ms)).reverse := by
  have O := ord_ok hc
  have pw : (can c ms).reverse.Pairwise fun a b => ovB b a = false := by
    rw [List.pairwise_reverse]
    exact (ord_sub hc).filter _
  have nd : (can c ms).reverse.Nodup := (List.reverse_perm _).nodup_iff.mpr (can_nodup O)
  rw [keep_first ovB (fun a b c h k => wnB_trans k h) _ nd pw (can c ms).reverse [] [] rfl (by simp) rfl, List.filter_reverse, can_filter]
  unfold maxl
  congr 2
  exact List.filter_congr fun m _ => firstIn_congr (fun m => by rw [List.mem_reverse]; exact mem_can O b) m
theorem mem_minl {ms : List Nat} {m : Nat} : m ∈ minl ms ↔ m ∈ ms ∧ ∀ s ∈ ms, wnB s m = true → s = m := by
  unfold minl firstIn
  simp only [List.mem_filter, List.all_eq_true, Bool.or_eq_true, Bool.not_eq_true', beq_iff_eq]
  refine and_congr_right fun _ => forall_congr' fun s => forall_congr' fun _ => ?_
  cases wnB s m <;> simp
theorem mem_maxl {ms : List Nat} {m : Nat} : m ∈ maxl ms ↔ m ∈ ms ∧ ∀ s ∈ ms, wnB m s = true → s = m := by
  unfold maxl firstIn ovB
  simp only [List.mem_filter, List.all_eq_true, Bool.or_eq_true, Bool.not_eq_true', beq_iff_eq]
  refine and_congr_right fun _ => forall_congr' fun s => forall_congr' fun _ => ?_
  cases wnB m s <;> simp
theorem minl_bd {c : Nat} {ms : List Nat} (b : ∀ m ∈ ms, m < 2 ^ c) : ∀ m ∈ minl ms, m < 2 ^ c := fun m hm => b m (mem_minl.mp hm).1
theorem maxl_bd {c : Nat} {ms : List Nat} (b : ∀ m ∈ ms, m < 2 ^ c) : ∀ m ∈ maxl ms, m < 2 ^ c := fun m hm => b m (mem_maxl.mp hm).1
theorem minl_below {ms : List Nat} : ∀ (n m : Nat), m ≤ n → m ∈ ms → ∃ s ∈ minl ms, wnB s m = true
  | 0, m, h, hm => by
    have h : m = 0 := by omega
    subst h
    exact ⟨0, mem_minl.mpr ⟨hm, fun s _ q => by have := wnB_le q; omega⟩, wnB_refl 0⟩
  | n + 1, m, h, hm => by
    by_cases z : ∀ s ∈ ms, wnB s m = true → s = m
    · exact ⟨m, mem_minl.mpr ⟨hm, z⟩, wnB_refl m⟩
    · simp only [Classical.not_forall] at z
      obtain ⟨s, s1, s2, s3⟩ := z
      have := wnB_le s2
      obtain ⟨t, t1, t2⟩ := minl_below n s (by omega) s1
      exact ⟨t, t1, wnB_trans t2 s2⟩
/-! ### hitting -/
/-- the masks below 2^c that have something in common with each of fs -/
def hitl (c : Nat) (fs : List Nat) : List Nat := (List.range (2 ^ c)).filter fun m => fs.all fun f => decide (0 < m &&& f)
theorem mem_hitl {c m : Nat} {fs : List Nat} : m ∈ hitl c fs ↔ m < 2 ^ c ∧ ∀ f ∈ fs, 0 < m &&& f := by
  unfold hitl
  simp only [List.mem_filter, List.mem_range, List.all_eq_true, decide_eq_true_eq]
theorem meet_pos {a b : Nat} : 0 < a &&& b ↔ ∃ j, a.testBit j = true ∧ b.testBit j = true := by
  constructor
  · intro h
    apply Classical.byContradiction
    intro n
    have : a &&& b = 0 := by
      apply Nat.eq_of_testBit_eq
      intro j
      rw [Nat.testBit_and, Nat.zero_testBit]
      cases ha : a.testBit j with
      | false => rfl
      | true =>
        cases hb : b.testBit j with
        | false => rfl
        | true => exact absurd ⟨j, ha, hb⟩ n
    omega
  · rintro ⟨j, h1, h2⟩
    rcases Nat.eq_zero_or_pos (a &&& b) with z | z
    · have := congrArg (fun z => Nat.testBit z j) z
      simp only [Nat.testBit_and, h1, h2, Nat.zero_testBit] at this
      cases this
    · exact z
theorem rest_bit {c m j : Nat} (hm : m < 2 ^ c) : (2 ^ c - 1 - m).testBit j = (decide (j < c) && !m.testBit j) := by
  have e : 2 ^ c - 1 - m = 2 ^ c - (m + 1) := by omega
  rw [e, Nat.testBit_two_pow_sub_succ hm]
/-- hitting twice: the least of fs -/
theorem hit_twice {c : Nat} {fs : List Nat} (b : ∀ f ∈ fs, f < 2 ^ c) (m : Nat) : m ∈ minl (hitl c (minl (hitl c fs))) ↔ m ∈ minl fs := by
  -- what hits all least hitting ones includes one of fs
  have key : ∀ s, s ∈ hitl c (minl (hitl c fs)) ↔ s < 2 ^ c ∧ ∃ f ∈ fs, wnB f s = true := by
    intro s
    rw [mem_hitl]
    refine and_congr_right fun hs => ⟨fun h => ?_, fun ⟨f, f1, f2⟩ h hh => ?_⟩
    · apply Classical.byContradiction
      intro n
      have co : 2 ^ c - 1 - s ∈ hitl c fs := by
        rw [mem_hitl]
        refine ⟨by have := Nat.two_pow_pos c; omega, fun f hf => ?_⟩
        have nf : ¬ wnB f s = true := fun z => n ⟨f, hf, z⟩
        rw [wnB_iff] at nf
        simp only [Classical.not_forall] at nf
        obtain ⟨j, j1, j2⟩ := nf
        refine meet_pos.mpr ⟨j, ?_, j1⟩
        rw [rest_bit hs]
        have jc : j < c := by
          rcases Nat.lt_or_ge j c with z | z
          · exact z
          · have : f < 2 ^ j := Nat.lt_of_lt_of_le (b f hf) (Nat.pow_le_pow_right (by decide) z)
            rw [Nat.testBit_lt_two_pow this] at j1
            cases j1
        simp only [Bool.not_eq_true] at j2
        rw [j2, decide_eq_true jc]
        rfl
      obtain ⟨h0, m1, m2⟩ := minl_below _ _ (Nat.le_refl _) co
      obtain ⟨j, j1, j2⟩ := meet_pos.mp (h h0 m1)
      have := wnB_iff.mp m2 j j2
      rw [rest_bit hs, j1] at this
      simp at this
    · obtain ⟨j, j1, j2⟩ := meet_pos.mp ((mem_hitl.mp (mem_minl.mp hh).1).2 f f1)
      exact meet_pos.mpr ⟨j, wnB_iff.mp f2 j j2, j1⟩
  rw [mem_minl, mem_minl]
  constructor
  · rintro ⟨h1, h2⟩
    obtain ⟨hm, f, f1, f2⟩ := (key m).mp h1
    have e := h2 f ((key f).mpr ⟨b f f1, f, f1, wnB_refl f⟩) f2
    subst e
    exact ⟨f1, fun s hs q => h2 s ((key s).mpr ⟨b s hs, s, hs, wnB_refl s⟩) q⟩
  · rintro ⟨h1, h2⟩
    refine ⟨(key m).mpr ⟨b m h1, m, h1, wnB_refl m⟩, fun s hs q => ?_⟩
    obtain ⟨_, f, f1, f2⟩ := (key s).mp hs
    have e := h2 f f1 (wnB_trans f2 q)
    subst e
    exact wnB_anti q f2
theorem hitl_congr {c : Nat} {fs gs : List Nat} (h : ∀ m, m ∈ fs ↔ m ∈ gs) : hitl c fs = hitl c gs := by
  unfold hitl
  refine List.filter_congr fun m _ => ?_
  rw [Bool.eq_iff_iff, List.all_eq_true, List.all_eq_true]
  exact ⟨fun q s hs => q s ((h s).mpr hs), fun q s hs => q s ((h s).mp hs)⟩
theorem minl_mem_congr {fs gs : List Nat} (h : ∀ m, m ∈ fs ↔ m ∈ gs) (m : Nat) : m ∈ minl fs ↔ m ∈ minl gs := by
  rw [mem_minl, mem_minl, h]
  exact and_congr_right fun _ => ⟨fun q s hs => q s ((h s).mpr hs), fun q s hs => q s ((h s).mp hs)⟩
theorem sel_rest {c m : Nat} (hm : m < 2 ^ c) : sel c (2 ^ c - 1 - m) = (List.range c).filter fun k => !(sel c m).contains k := by
  unfold sel
  refine List.filter_congr fun k hk => ?_
  rw [rest_bit hm, decide_eq_true (List.mem_range.mp hk), Bool.true_and]
  congr 1
  rw [Bool.eq_iff_iff, List.contains_iff_mem, List.mem_filter]
  exact ⟨fun h => ⟨hk, h⟩, fun h => h.2⟩
end DL
set_option Elab.async false
set_option linter.all false
set_option maxRecDepth 100000
set_option maxHeartbeats 1000000
/-! DM5: what is due by a list of rules, in plain numbers. -/
namespace Du
open PySem PySem.Spec PyProof.Rows L2 DL Cb
abbrev Rul := Nat × Nat
def ruleD (r : Rul) : D := .tup [.int (r.1 : Int), .int (r.2 : Int)]
def bookD (m : Nat) (rs : List Rul) : D := .obj "Book" ["n", "rules"] [.int (m : Int), .tup (rs.map ruleD)]
def mSt (c m : Nat) (r : Rul) : Nat := if wnB c r.1 = true then m &&& r.2 else m
def Mh (T : Nat) (rs : List Rul) (c : Nat) : Nat := rs.foldl (mSt c) (T - 1)
theorem and_lt {a b T : Nat} (h : a < T) : a &&& b < T := Nat.lt_of_le_of_lt Nat.and_le_left h
theorem fold_lt (c T : Nat) : ∀ (rs : List Rul) (acc : Nat), acc < T → rs.foldl (mSt c) acc < T
  | [], acc, h => h
  | r :: rs, acc, h => fold_lt c T rs _ (by unfold mSt; split; exact and_lt h; exact h)
theorem Mh_lt {T : Nat} (h : 0 < T) (rs : List Rul) (c : Nat) : Mh T rs c < T := fold_lt c T rs _ (by omega)
theorem wnB_and {a b c : Nat} : wnB a (b &&& c) = true ↔ wnB a b = true ∧ wnB a c = true := by
  rw [wnB_iff, wnB_iff, wnB_iff]
  constructor
  · intro h
    exact ⟨fun j q => by have := h j q; rw [Nat.testBit_and, Bool.and_eq_true] at this; exact this.1, fun j q => by have := h j q; rw [Nat.testBit_and, Bool.and_eq_true] at this; exact this.2⟩
  · intro h j q
    rw [Nat.testBit_and, h.1 j q, h.2 j q]; rfl
theorem wnB_zero (a : Nat) : wnB 0 a = true := by unfold wnB; rw [Nat.zero_and]; rfl
theorem fold_bit (c : Nat) (j : Nat) : ∀ (rs : List Rul) (acc : Nat), (rs.foldl (mSt c) acc).testBit j = true ↔ acc.testBit j = true ∧ ∀ r ∈ rs, wnB c r.1 = true → r.2.testBit j = true
  | [], acc => by simp
  | r :: rs, acc => by
    rw [List.foldl_cons, fold_bit c j rs]
    unfold mSt
    by_cases h : wnB c r.1 = true
    · rw [if_pos h, Nat.testBit_and, Bool.and_eq_true]
      constructor
      · rintro ⟨⟨a, b⟩, q⟩
        refine ⟨a, fun r' hr => ?_⟩
        rcases List.mem_cons.mp hr with e | e
        · rw [e]; exact fun _ => b
        · exact q r' e
      · rintro ⟨a, q⟩
        exact ⟨⟨a, q r List.mem_cons_self h⟩, fun r' hr => q r' (List.mem_cons_of_mem _ hr)⟩
    · rw [if_neg h]
      constructor
      · rintro ⟨a, q⟩
        refine ⟨a, fun r' hr => ?_⟩
        rcases List.mem_cons.mp hr with e | e
        · rw [e]; exact fun z => absurd z h
        · exact q r' e
      · rintro ⟨a, q⟩
        exact ⟨a, fun r' hr => q r' (List.mem_cons_of_mem _ hr)⟩
theorem Mh_mono {T : Nat} {rs : List Rul} {a b : Nat} (h : wnB a b = true) : wnB (Mh T rs a) (Mh T rs b) = true := by
  rw [wnB_iff]
  intro j q
  unfold Mh at q ⊢
  rw [fold_bit] at q ⊢
  exact ⟨q.1, fun r hr k => q.2 r hr (wnB_trans h k)⟩
/-- an output -/
def Oh (p : Bool) (T : Nat) (rs : List Rul) (c : Nat) : Nat := if p then Mh T rs c &&& c else Mh T rs c
theorem Oh_lt {T : Nat} (h : 0 < T) (p : Bool) (rs : List Rul) (c : Nat) : Oh p T rs c < T := by
  unfold Oh
  split
  · exact and_lt (Mh_lt h rs c)
  · exact Mh_lt h rs c
def stab (T : Nat) (rs : List Rul) (k : Nat) : Bool := wnB k (Mh T rs k)
/-! ### going down to what is stable -/
def stepN (T : Nat) (rs : List Rul) (k : Nat) : Nat := k &&& Mh T rs k
def iterN (g : Nat → Nat) : Nat → Nat → Nat
  | 0, k => k
  | n + 1, k => iterN g n (g k)
theorem iterN_succ (g : Nat → Nat) : ∀ (n k : Nat), iterN g (n + 1) k = g (iterN g n k)
  | 0, _ => rfl
  | n + 1, k => iterN_succ g n (g k)
def settleN (T : Nat) (rs : List Rul) (f : Nat) : Nat := iterN (stepN T rs) 17 f
def wl (f : Nat) : List Nat := (List.range 16).filter fun j => f.testBit j
theorem flt_le {q f : Nat → Bool} (h : ∀ j, q j = true → f j = true) : ∀ l : List Nat, (l.filter q).length ≤ (l.filter f).length
  | [] => Nat.le_refl _
  | a :: l => by
    have ih := flt_le h l
    cases hq : q a with
    | true =>
      rw [List.filter_cons_of_pos hq, List.filter_cons_of_pos (h a hq), List.length_cons, List.length_cons]
      omega
    | false =>
      rw [List.filter_cons_of_neg (by rw [hq]; simp)]
      cases hf : f a with
      | true => rw [List.filter_cons_of_pos hf, List.length_cons]; omega
      | false => rw [List.filter_cons_of_neg (by rw [hf]; simp)]; exact ih
theorem flt_lt {q f : Nat → Bool} (h : ∀ j, q j = true → f j = true) : ∀ l : List Nat, (∃ j ∈ l, f j = true ∧ q j = false) → (l.filter q).length < (l.filter f).length
  | [], ⟨_, z, _⟩ => by cases z
  | a :: l, ⟨j, hj, h1, h2⟩ => by
    rcases List.mem_cons.mp hj with e | hj
    · subst e
      rw [List.filter_cons_of_neg (by rw [h2]; simp), List.filter_cons_of_pos h1, List.length_cons]
      have := flt_le h l
      omega
    · have ih := flt_lt h l ⟨j, hj, h1, h2⟩
      cases hq : q a with
      | true =>
        rw [List.filter_cons_of_pos hq, List.filter_cons_of_pos (h a hq), List.length_cons, List.length_cons]
        omega
      | false =>
        rw [List.filter_cons_of_neg (by rw [hq]; simp)]
        cases hf : f a with
        | true => rw [List.filter_cons_of_pos hf, List.length_cons]; omega
        | false => rw [List.filter_cons_of_neg (by rw [hf]; simp)]; exact ih
theorem bit_lt16 {f j : Nat} (hf : f < 65536) (h : f.testBit j = true) : j < 16 := by
  rcases Nat.lt_or_ge j 16 with z | z
  · exact z
  · have : f < 2 ^ j := Nat.lt_of_lt_of_le hf (show 2 ^ 16 ≤ 2 ^ j from Nat.pow_le_pow_right (by decide) z)
    rw [Nat.testBit_lt_two_pow this] at h
    cases h
theorem mem_wl {f j : Nat} (hf : f < 65536) : j ∈ wl f ↔ f.testBit j = true := by
  unfold wl
  rw [List.mem_filter, List.mem_range]
  exact ⟨fun h => h.2, fun h => ⟨bit_lt16 hf h, h⟩⟩
theorem wl_len (f : Nat) : (wl f).length ≤ 16 := Nat.le_trans (List.length_filter_le _ _) (by rw [List.length_range]; exact Nat.le_refl _)
/-- fewer worlds -/
theorem wl_lt {f M : Nat} (hf : f < 65536) (h : f &&& M ≠ f) : (wl (f &&& M)).length < (wl f).length := by
  refine flt_lt (fun j q => ?_) _ ?_
  · rw [Nat.testBit_and, Bool.and_eq_true] at q
    exact q.1
  · have nf : ¬ wnB f M = true := fun z => h (by unfold wnB at z; exact beq_iff_eq.mp z)
    rw [wnB_iff] at nf
    simp only [Classical.not_forall] at nf
    obtain ⟨j, j1, j2⟩ := nf
    refine ⟨j, List.mem_range.mpr (bit_lt16 hf j1), j1, ?_⟩
    rw [Bool.not_eq_true] at j2
    rw [Nat.testBit_and, j1, j2]
    rfl
theorem iterN_fix {g : Nat → Nat} {k : Nat} (h : g k = k) : ∀ n, iterN g n k = k
  | 0 => rfl
  | n + 1 => by
    show iterN g n (g k) = k
    rw [h]
    exact iterN_fix h n
theorem iter_stab {T : Nat} {rs : List Rul} : ∀ (n f : Nat), f < 65536 → (wl f).length < n → stab T rs (iterN (stepN T rs) n f) = true ∧ wnB (iterN (stepN T rs) n f) f = true ∧ ∀ k, wnB k f = true → stab T rs k = true → wnB k (iterN (stepN T rs) n f) = true
  | 0, f, _, h => absurd h (Nat.not_lt_zero _)
  | n + 1, f, hf, h => by
    by_cases e : stepN T rs f = f
    · rw [iterN_fix e]
      refine ⟨?_, wnB_refl f, fun k h1 _ => h1⟩
      unfold stab wnB
      rw [beq_iff_eq]
      exact e
    · show stab T rs (iterN (stepN T rs) n (stepN T rs f)) = true ∧ _
      have sub : wnB (stepN T rs f) f = true := (wnB_and.mp (wnB_refl (f &&& Mh T rs f))).1
      have ih := iter_stab (T := T) (rs := rs) n (stepN T rs f) (Nat.lt_of_le_of_lt Nat.and_le_left hf) (by have := wl_lt hf e; show (wl (f &&& Mh T rs f)).length < n; omega)
      exact ⟨ih.1, wnB_trans ih.2.1 sub, fun k h1 h2 => ih.2.2 k (wnB_and.mpr ⟨h1, wnB_trans h2 (Mh_mono h1)⟩) h2⟩
theorem settle_is {T : Nat} {rs : List Rul} {f P : Nat} (hf : f < 65536) (h1 : stab T rs P = true) (h2 : wnB P f = true) (h3 : ∀ k, wnB k f = true → stab T rs k = true → wnB k P = true) : P = settleN T rs f := by
  have h := iter_stab (T := T) (rs := rs) 17 f hf (by have := wl_len f; omega)
  exact wnB_anti (h.2.2 P h2 h1) (h3 _ h.2.1 h.1)
theorem settle_lt {T : Nat} {rs : List Rul} {f : Nat} (hf : f < 65536) : settleN T rs f ≤ f := wnB_le (iter_stab (T := T) (rs := rs) 17 f hf (by have := wl_len f; omega)).2.1
/-! ### what is due -/
def joinF (s p : Bool) (T : Nat) (rs : List Rul) (j w : Nat) : Nat := if (!s || stab T rs (2 ^ w)) = true then j ||| Oh p T rs (2 ^ w) else j
def Duw (s p : Bool) (T : Nat) (rs : List Rul) (ws : List Nat) : Nat := ws.foldl (joinF s p T rs) (Oh p T rs 0)
theorem join_bit {s p : Bool} {T : Nat} {rs : List Rul} (i : Nat) : ∀ (l : List Nat) (a : Nat), (l.foldl (joinF s p T rs) a).testBit i = true ↔ a.testBit i = true ∨ ∃ w ∈ l, (!s || stab T rs (2 ^ w)) = true ∧ (Oh p T rs (2 ^ w)).testBit i = true
  | [], a => by simp
  | x :: l, a => by
    rw [List.foldl_cons, join_bit i l]
    unfold joinF
    by_cases h : (!s || stab T rs (2 ^ x)) = true
    · rw [if_pos h, Nat.testBit_or, Bool.or_eq_true]
      constructor
      · rintro ((q | q) | ⟨k, hk, q⟩)
        · exact .inl q
        · exact .inr ⟨x, List.mem_cons_self, h, q⟩
        · exact .inr ⟨k, List.mem_cons_of_mem _ hk, q⟩
      · rintro (q | ⟨k, hk, q⟩)
        · exact .inl (.inl q)
        · rcases List.mem_cons.mp hk with e | e
          · rw [e] at q; exact .inl (.inr q.2)
          · exact .inr ⟨k, e, q⟩
    · rw [if_neg h]
      constructor
      · rintro (q | ⟨k, hk, q⟩)
        · exact .inl q
        · exact .inr ⟨k, List.mem_cons_of_mem _ hk, q⟩
      · rintro (q | ⟨k, hk, q⟩)
        · exact .inl q
        · rcases List.mem_cons.mp hk with e | e
          · rw [e] at q; exact absurd q.1 h
          · exact .inr ⟨k, e, q⟩
theorem Duw_congr {s p : Bool} {T : Nat} {rs : List Rul} {ws vs : List Nat} (h : ∀ w, w ∈ ws ↔ w ∈ vs) : Duw s p T rs ws = Duw s p T rs vs := by
  apply Nat.eq_of_testBit_eq
  intro i
  rw [Bool.eq_iff_iff]
  unfold Duw
  rw [join_bit, join_bit]
  exact or_congr_right ⟨fun ⟨w, a, b⟩ => ⟨w, (h w).mp a, b⟩, fun ⟨w, a, b⟩ => ⟨w, (h w).mpr a, b⟩⟩
theorem join_lt {s p : Bool} {e : Nat} {rs : List Rul} : ∀ (l : List Nat) (a : Nat), a < 2 ^ e → l.foldl (joinF s p (2 ^ e) rs) a < 2 ^ e
  | [], a, h => h
  | x :: l, a, h => join_lt l _ (by
    unfold joinF
    split
    · exact Nat.or_lt_two_pow h (Oh_lt (Nat.two_pow_pos e) p rs _)
    · exact h)
/-- what is due under f -/
def DueF (c s p : Bool) (T : Nat) (rs : List Rul) (f : Nat) : Nat := if c then Duw s p T rs (wl f) else Oh p T rs (if s then settleN T rs f else f)
theorem DueF_lt {c s p : Bool} {e : Nat} {rs : List Rul} {f : Nat} : DueF c s p (2 ^ e) rs f < 2 ^ e := by
  unfold DueF
  split
  · exact join_lt _ _ (Oh_lt (Nat.two_pow_pos e) p rs 0)
  · exact Oh_lt (Nat.two_pow_pos e) p rs _
/-! ### books of some of the rules -/
def subl (rs : List Rul) (mask : Nat) : List Rul := (List.range rs.length).filterMap fun k => if mask.testBit k = true then rs[k]? else none
theorem subl_sub (rs : List Rul) (mask : Nat) : ∀ r ∈ subl rs mask, r ∈ rs := fun r h => by
  unfold subl at h
  obtain ⟨k, _, e⟩ := List.mem_filterMap.mp h
  split at e
  · exact List.mem_of_getElem? e
  · cases e
theorem subl_map (rs : List Rul) (mask : Nat) (d : Rul) : subl rs mask = ((List.range rs.length).filter fun k => mask.testBit k).map fun k => rs.getD k d := by
  unfold subl
  have : ∀ l : List Nat, (∀ k ∈ l, k < rs.length) → (l.filterMap fun k => if mask.testBit k = true then rs[k]? else none) = (l.filter fun k => mask.testBit k).map fun k => rs.getD k d := by
    intro l
    induction l with
    | nil => exact fun _ => rfl
    | cons a l ih =>
      intro h
      have ha := h a List.mem_cons_self
      have ih := ih fun k hk => h k (List.mem_cons_of_mem _ hk)
      cases hb : mask.testBit a with
      | true =>
        rw [List.filter_cons_of_pos hb, List.map_cons, List.filterMap_cons, if_pos hb, List.getElem?_eq_getElem ha, ih]
        simp [List.getD, List.getElem?_eq_getElem ha]
      | false =>
        rw [List.filter_cons_of_neg (by rw [hb]; simp), List.filterMap_cons, if_neg (by rw [hb]; simp), ih]
  exact this _ fun k hk => List.mem_range.mp hk
theorem subl_len (rs : List Rul) (mask : Nat) : (subl rs mask).length ≤ rs.length := by
  unfold subl
  exact Nat.le_trans (List.length_filterMap_le _ _) (by rw [List.length_range]; exact Nat.le_refl _)
theorem subl_full (rs : List Rul) : subl rs (2 ^ rs.length - 1) = rs := by
  rw [subl_map rs _ (0, 0), List.filter_eq_self.mpr fun k hk => by
    rw [Nat.testBit_two_pow_sub_one, decide_eq_true (List.mem_range.mp hk)]]
  apply List.ext_getElem?
  intro i
  rw [List.getElem?_map]
  rcases Nat.lt_or_ge i rs.length with h | h
  · rw [List.getElem?_range h]
    simp [List.getD, List.getElem?_eq_getElem h]
  · rw [List.getElem?_eq_none (by simpa using h), List.getElem?_eq_none h]
    rfl
end Du
set_option Elab.async false
set_option linter.all false
set_option maxRecDepth 100000
set_option maxHeartbeats 1000000
/-! DM6: opposites; families as masks. -/
namespace Du
open PySem PySem.Spec PyProof.Rows L2 DL Cb
@[simp] theorem callN5_ap {m : List D → Res D} {a b c d e : D} : callN 5 m [a, b, c, d, e] = m [a, b, c, d, e] := id rfl
@[simp] theorem callN6_ap {m : List D → Res D} {a b c d e f : D} : callN 6 m [a, b, c, d, e, f] = m [a, b, c, d, e, f] := id rfl
@[simp] theorem callF5_ap {m : List D → Res D} {a b c d e : D} : callF 5 m [a, b, c, d, e] = (m [a, b, c, d, e]).bind asL := id rfl
theorem dEq_i (a b : Int) : dEq (.int a) (.int b) = .ok (.bl (decide (a = b))) := rfl
theorem dNe_i (a b : Int) : dNe (.int a) (.int b) = .ok (.bl (!decide (a = b))) := rfl
theorem dInS2 (k a b : Int) : dInS (.int k) (.tup [.int a, .int b]) = .ok (decide (a = k) || decide (b = k)) := by
  show Res.ok ((decide (a = k)) || ((decide (b = k)) || false)) = _
  rw [Bool.or_false]
theorem dInv_n (y : Nat) : dInv (.int (y : Int)) = .ok (.int (-(y : Int) - 1)) := rfl
theorem dAnd_top {k y : Nat} (h : y < 2 ^ k) : dAnd (.int ((2 ^ k - 1 : Nat) : Int)) (.int (-(y : Int) - 1)) = .ok (.int ((2 ^ k - 1 - y : Nat) : Int)) := by
  show Res.ok (D.int (Builtin.bitAnd ((2 ^ k - 1 : Nat) : Int) (-(y : Int) - 1))) = _
  rw [bitAnd_pn (Int.natCast_nonneg _) (by omega), Int.toNat_natCast]
  have e : (Builtin.bitNot (-(y : Int) - 1)).toNat = y := by
    unfold Builtin.bitNot
    omega
  rw [e, Nat.and_comm, Nat.and_two_pow_sub_one_eq_mod, Nat.mod_eq_of_lt h]
  congr 2
  have := Nat.two_pow_pos k
  omega
theorem wnB_opp {k x y : Nat} (hx : x < 2 ^ k) (hy : y < 2 ^ k) : wnB x (2 ^ k - 1 - y) = decide (x &&& y = 0) := by
  rw [Bool.eq_iff_iff, decide_eq_true_eq, wnB_iff]
  constructor
  · intro h
    apply Nat.eq_of_testBit_eq
    intro j
    rw [Nat.testBit_and, Nat.zero_testBit]
    cases ha : x.testBit j with
    | false => rfl
    | true =>
      have := h j ha
      rw [rest_bit hy, Bool.and_eq_true, Bool.not_eq_true'] at this
      rw [this.2]
      rfl
  · intro h j ha
    rw [rest_bit hy, Bool.and_eq_true, Bool.not_eq_true', decide_eq_true_eq]
    constructor
    · rcases Nat.lt_or_ge j k with z | z
      · exact z
      · rw [Nat.testBit_lt_two_pow (Nat.lt_of_lt_of_le hx (Nat.pow_le_pow_right (by decide) z))] at ha
        cases ha
    · have := congrArg (fun z => Nat.testBit z j) h
      simp only [Nat.testBit_and, ha, Bool.true_and, Nat.zero_testBit] at this
      exact this
theorem and_zero_of {x : Nat} (k : Nat) (h : x < 2 ^ k) : x &&& (2 ^ k - 1) = x := by
  rw [Nat.and_two_pow_sub_one_eq_mod, Nat.mod_eq_of_lt h]
/-- a selection is kept: what is due by it meets b -/
def sprd (c s p : Bool) (T : Nat) (rs : List Rul) (f b mk : Nat) : Bool := !decide (DueF c s p T (subl rs mk) f &&& b = 0)
def spl (c s p : Bool) (T : Nat) (rs : List Rul) (f b : Nat) : List Nat := (ord rs.length).filter (sprd c s p T rs f b)
def fams (c s p : Bool) (T : Nat) (rs : List Rul) (f b : Nat) : List Nat := can rs.length (maxl (spl c s p T rs f b))
theorem spl_bd {c s p : Bool} {T : Nat} {rs : List Rul} {f b : Nat} (hc : rs.length ≤ 7) : ∀ m ∈ spl c s p T rs f b, m < 2 ^ rs.length := fun m hm => ((ord_ok hc).mem m).mp (List.mem_filter.mp hm).1
theorem mem_spl {c s p : Bool} {T : Nat} {rs : List Rul} {f b : Nat} (hc : rs.length ≤ 7) {m : Nat} : m ∈ spl c s p T rs f b ↔ m < 2 ^ rs.length ∧ sprd c s p T rs f b m = true := by
  unfold spl
  rw [List.mem_filter, (ord_ok hc).mem]
theorem mem_fams {c s p : Bool} {T : Nat} {rs : List Rul} {f b : Nat} (hc : rs.length ≤ 7) {m : Nat} : m ∈ fams c s p T rs f b ↔ m ∈ maxl (spl c s p T rs f b) := mem_can (ord_ok hc) (maxl_bd (spl_bd hc))
theorem fams_len {c s p : Bool} {T : Nat} {rs : List Rul} {f b : Nat} (hc : rs.length ≤ 7) : (fams c s p T rs f b).length ≤ 128 := small_set hc (can_nodup (ord_ok hc)) fun m hm => maxl_bd (spl_bd hc) m ((mem_fams hc).mp hm)
/-- going through the masks downward: each that is kept and within none that was taken -/
def famL (c s p : Bool) (T : Nat) (rs : List Rul) (f b : Nat) : List Nat := (List.range (2 ^ rs.length)).reverse.foldl (fun ks m => if sprd c s p T rs f b m = true then keepF ovB ks m else ks) []
theorem fold_if {α β : Type} (P : α → Bool) (st : β → α → β) : ∀ (l : List α) (b : β), l.foldl (fun b a => if P a = true then st b a else b) b = (l.filter P).foldl st b
  | [], _ => rfl
  | a :: l, b => by
    rw [List.foldl_cons, fold_if P st l]
    cases h : P a with
    | true => rw [if_pos rfl, List.filter_cons_of_pos h, List.foldl_cons]
    | false => rw [if_neg Bool.false_ne_true, List.filter_cons_of_neg (by rw [h]; simp)]
theorem famL_eq (c s p : Bool) (T : Nat) (rs : List Rul) (f b : Nat) : famL c s p T rs f b = ((List.range (2 ^ rs.length)).reverse.filter (sprd c s p T rs f b)).filter (firstIn ovB ((List.range (2 ^ rs.length)).reverse.filter (sprd c s p T rs f b))) := by
  unfold famL
  rw [fold_if]
  have nd : ((List.range (2 ^ rs.length)).reverse.filter (sprd c s p T rs f b)).Nodup := ((List.reverse_perm _).nodup_iff.mpr List.nodup_range).filter _
  have pw : ((List.range (2 ^ rs.length)).reverse.filter (sprd c s p T rs f b)).Pairwise fun a b => ovB b a = false := by
    refine List.Pairwise.filter _ ?_
    rw [List.pairwise_reverse]
    refine List.pairwise_lt_range.imp fun {a b} h => ?_
    unfold ovB
    cases z : wnB b a with
    | false => rfl
    | true => have := wnB_le z; omega
  exact keep_first ovB (fun a b c h k => wnB_trans k h) _ nd pw _ [] [] rfl (by simp) rfl
theorem mem_famL {c s p : Bool} {T : Nat} {rs : List Rul} {f b : Nat} (hc : rs.length ≤ 7) {m : Nat} : m ∈ famL c s p T rs f b ↔ m ∈ fams c s p T rs f b := by
  rw [mem_fams hc, famL_eq, mem_maxl]
  have e : ∀ x, x ∈ (List.range (2 ^ rs.length)).reverse.filter (sprd c s p T rs f b) ↔ x ∈ spl c s p T rs f b := fun x => by
    rw [mem_spl hc, List.mem_filter, List.mem_reverse, List.mem_range]
  rw [show (((List.range (2 ^ rs.length)).reverse.filter (sprd c s p T rs f b)).filter (firstIn ovB ((List.range (2 ^ rs.length)).reverse.filter (sprd c s p T rs f b)))) = maxl ((List.range (2 ^ rs.length)).reverse.filter (sprd c s p T rs f b)) from rfl, mem_maxl, e]
  exact and_congr_right fun _ => ⟨fun h x hx => h x ((e x).mpr hx), fun h x hx => h x ((e x).mp hx)⟩
theorem any_mem {α : Type} {l k : List α} {f : α → Bool} (h : ∀ a, a ∈ l ↔ a ∈ k) : l.any f = k.any f := by
  rw [Bool.eq_iff_iff, List.any_eq_true, List.any_eq_true]
  exact ⟨fun ⟨a, x, y⟩ => ⟨a, (h a).mp x, y⟩, fun ⟨a, x, y⟩ => ⟨a, (h a).mpr x, y⟩⟩
theorem all_mem {α : Type} {l k : List α} {f : α → Bool} (h : ∀ a, a ∈ l ↔ a ∈ k) : l.all f = k.all f := by
  rw [Bool.eq_iff_iff, List.all_eq_true, List.all_eq_true]
  exact ⟨fun q a x => q a ((h a).mpr x), fun q a x => q a ((h a).mp x)⟩
theorem nil_mem {α : Type} {l k : List α} (h : ∀ a, a ∈ l ↔ a ∈ k) : l = [] ↔ k = [] := by
  rw [List.eq_nil_iff_forall_not_mem, List.eq_nil_iff_forall_not_mem]
  exact ⟨fun q a x => q a ((h a).mpr x), fun q a x => q a ((h a).mp x)⟩
/-- if all rules are kept, they are the only family -/
theorem fams_all {c s p : Bool} {T : Nat} {rs : List Rul} {f b : Nat} (hc : rs.length ≤ 7) (h : DueF c s p T rs f &&& b ≠ 0) {m : Nat} : m ∈ fams c s p T rs f b ↔ m = 2 ^ rs.length - 1 := by
  have full : 2 ^ rs.length - 1 ∈ spl c s p T rs f b := (mem_spl hc).mpr ⟨by have := Nat.two_pow_pos rs.length; omega, by
    unfold sprd
    rw [subl_full]
    simpa using h⟩
  have wn : ∀ m, m < 2 ^ rs.length → wnB m (2 ^ rs.length - 1) = true := fun m hm => by
    unfold wnB
    rw [beq_iff_eq]
    exact and_zero_of _ hm
  rw [mem_fams hc, mem_maxl]
  constructor
  · rintro ⟨h1, h2⟩
    exact (h2 _ full (wn m (spl_bd hc m h1))).symm
  · rintro rfl
    exact ⟨full, fun x hx h => wnB_anti (wn x (spl_bd hc x hx)) h⟩
end Du
set_option Elab.async false
set_option linter.all false
set_option maxRecDepth 100000
set_option maxHeartbeats 1000000
/-! DM7: laws of what is due: monotone in the facts, entailment, closure. -/
namespace Du
open PySem PySem.Spec PyProof.Rows L2 DL Cb
section
variable {c s p : Bool} {e : Nat} {R Y : List Rul} {f g k x : Nat}
theorem T_le (he : e ≤ 16) : 2 ^ e ≤ 65536 := Nat.pow_le_pow_right (show 0 < 2 by decide) he
theorem settle_ok (R : List Rul) (hf : f < 65536) : stab (2 ^ e) R (settleN (2 ^ e) R f) = true ∧ wnB (settleN (2 ^ e) R f) f = true ∧ ∀ k, wnB k f = true → stab (2 ^ e) R k = true → wnB k (settleN (2 ^ e) R f) = true :=
  iter_stab (T := 2 ^ e) (rs := R) 17 f hf (by have := wl_len f; omega)
theorem Mh_bit {j : Nat} : (Mh (2 ^ e) R k).testBit j = true ↔ j < e ∧ ∀ r ∈ R, wnB k r.1 = true → r.2.testBit j = true := by
  unfold Mh
  rw [fold_bit, Nat.testBit_two_pow_sub_one, decide_eq_true_eq]
theorem Oh_sub_Mh : wnB (Oh p (2 ^ e) R k) (Mh (2 ^ e) R k) = true := by
  unfold Oh
  cases p with
  | false => exact wnB_refl _
  | true => exact (wnB_and.mp (wnB_refl _)).1
theorem Oh_sub : wnB (Oh true (2 ^ e) R k) k = true := (wnB_and.mp (wnB_refl (Mh (2 ^ e) R k &&& k))).2
theorem Oh_mono {a b : Nat} (h : wnB a b = true) : wnB (Oh p (2 ^ e) R a) (Oh p (2 ^ e) R b) = true := by
  unfold Oh
  cases p with
  | false => exact Mh_mono h
  | true =>
    rw [if_pos rfl, if_pos rfl, wnB_and]
    have z := wnB_and.mp (wnB_refl (Mh (2 ^ e) R a &&& a))
    exact ⟨wnB_trans z.1 (Mh_mono h), wnB_trans z.2 h⟩
/-- a case that facts f allow -/
def Case (c s : Bool) (e : Nat) (R : List Rul) (f k : Nat) : Prop :=
  if c then k = 0 ∨ ∃ w, f.testBit w = true ∧ k = 2 ^ w ∧ (s = true → stab (2 ^ e) R k = true) else k = if s then settleN (2 ^ e) R f else f
theorem due_bit (hf : f < 65536) {j : Nat} : (DueF c s p (2 ^ e) R f).testBit j = true ↔ ∃ k, Case c s e R f k ∧ (Oh p (2 ^ e) R k).testBit j = true := by
  unfold DueF Case
  cases c with
  | false =>
    simp only [Bool.false_eq_true, if_false]
    exact ⟨fun h => ⟨_, rfl, h⟩, fun ⟨k, e, h⟩ => e ▸ h⟩
  | true =>
    simp only [if_true]
    unfold Duw
    rw [join_bit]
    constructor
    · rintro (h | ⟨w, h1, h2, h3⟩)
      · exact ⟨0, .inl rfl, h⟩
      · refine ⟨2 ^ w, .inr ⟨w, (mem_wl hf).mp h1, rfl, fun hs => ?_⟩, h3⟩
        rw [hs] at h2
        simpa using h2
    · rintro ⟨k, h | ⟨w, h1, rfl, h2⟩, h3⟩
      · subst h; exact .inl h3
      · refine .inr ⟨w, (mem_wl hf).mpr h1, ?_, h3⟩
        cases s with
        | false => rfl
        | true => rw [h2 rfl]; rfl
theorem pow_sub {w : Nat} : wnB (2 ^ w) f = true ↔ f.testBit w = true := by
  rw [wnB_iff]
  constructor
  · intro h
    exact h w (by rw [Nat.testBit_two_pow]; exact decide_eq_true rfl)
  · intro h j q
    rw [Nat.testBit_two_pow] at q
    rw [← of_decide_eq_true q]; exact h
theorem Case.sub (hf : f < 65536) (h : Case c s e R f k) : wnB k f = true := by
  unfold Case at h
  cases c with
  | false =>
    simp only [Bool.false_eq_true, if_false] at h
    subst h
    cases s with
    | false => exact wnB_refl f
    | true => exact (settle_ok R hf).2.1
  | true =>
    simp only [if_true] at h
    rcases h with rfl | ⟨w, h1, rfl, _⟩
    · exact wnB_zero f
    · exact pow_sub.mpr h1
theorem wn_lt (h : wnB k f = true) (hf : f < 65536) : k < 65536 := Nat.lt_of_le_of_lt (wnB_le h) hf
theorem settle_fix (hk : k < 65536) (h : stab (2 ^ e) R k = true) : settleN (2 ^ e) R k = k :=
  wnB_anti (settle_ok R hk).2.1 ((settle_ok R hk).2.2 k (wnB_refl k) h)
/-- the case of a case -/
theorem Case.self (hf : f < 65536) (h : Case c s e R f k) : Case c s e R k k := by
  have hk := wn_lt (h.sub hf) hf
  unfold Case at h ⊢
  cases c with
  | false =>
    simp only [Bool.false_eq_true, if_false] at h ⊢
    cases s with
    | false => rfl
    | true =>
      simp only [if_true] at h ⊢
      rw [settle_fix hk]
      rw [h]
      exact (settle_ok R hf).1
  | true =>
    simp only [if_true] at h ⊢
    rcases h with rfl | ⟨w, h1, rfl, h2⟩
    · exact .inl rfl
    · exact .inr ⟨w, by rw [Nat.testBit_two_pow]; exact decide_eq_true rfl, rfl, h2⟩
/-- a case of f is within some case of g -/
theorem Case.mono (hf : f < 65536) (hg : g < 65536) (h : Case c s e R f k) (fg : wnB f g = true) : ∃ k', Case c s e R g k' ∧ wnB k k' = true := by
  unfold Case at h ⊢
  cases c with
  | false =>
    simp only [Bool.false_eq_true, if_false] at h ⊢
    subst h
    refine ⟨_, rfl, ?_⟩
    cases s with
    | false => exact fg
    | true =>
      have := settle_ok (e := e) R hf
      exact (settle_ok R hg).2.2 _ (wnB_trans this.2.1 fg) this.1
  | true =>
    simp only [if_true] at h ⊢
    rcases h with rfl | ⟨w, h1, rfl, h2⟩
    · exact ⟨0, .inl rfl, wnB_refl 0⟩
    · exact ⟨2 ^ w, .inr ⟨w, wnB_iff.mp fg w h1, rfl, h2⟩, wnB_refl _⟩
theorem due_mono (hf : f < 65536) (hg : g < 65536) (fg : wnB f g = true) : wnB (DueF c s p (2 ^ e) R f) (DueF c s p (2 ^ e) R g) = true := by
  rw [wnB_iff]
  intro j h
  rw [due_bit hf] at h
  obtain ⟨k, h1, h2⟩ := h
  obtain ⟨k', h3, h4⟩ := h1.mono hf hg fg
  rw [due_bit hg]
  exact ⟨k', h3, wnB_iff.mp (Oh_mono h4) j h2⟩
/-- a case's output is due under the case -/
theorem Case.out (hf : f < 65536) (h : Case c s e R f k) : wnB (Oh p (2 ^ e) R k) (DueF c s p (2 ^ e) R k) = true := by
  rw [wnB_iff]
  intro j q
  rw [due_bit (wn_lt (h.sub hf) hf)]
  exact ⟨k, h.self hf, q⟩
theorem due_sub (hf : f < 65536) : wnB (DueF c s true (2 ^ e) R f) f = true := by
  rw [wnB_iff]
  intro j h
  rw [due_bit hf] at h
  obtain ⟨k, h1, h2⟩ := h
  exact wnB_iff.mp (h1.sub hf) j (wnB_iff.mp Oh_sub j h2)
/-- each rule is due -/
theorem due_rule {r : Rul} (hr : r ∈ R) (hf : r.1 < 65536) : wnB (DueF c s p (2 ^ e) R r.1) r.2 = true := by
  rw [wnB_iff]
  intro j h
  rw [due_bit hf] at h
  obtain ⟨k, h1, h2⟩ := h
  have := wnB_iff.mp Oh_sub_Mh j h2
  rw [Mh_bit] at this
  exact this.2 r hr (h1.sub hf)
/-- entailment: if R has each rule of Y as due, what is due by R is due by Y -/
theorem due_entail (he : e ≤ 16) (hY : ∀ r ∈ Y, r.1 < 65536 ∧ wnB (DueF c s p (2 ^ e) R r.1) r.2 = true) (hf : f < 65536) : wnB (DueF c s p (2 ^ e) R f) (DueF c s p (2 ^ e) Y f) = true := by
  have one : ∀ k, k < 65536 → wnB (DueF c s p (2 ^ e) R k) (Oh p (2 ^ e) Y k) = true := fun k hk => by
    have m : wnB (DueF c s p (2 ^ e) R k) (Mh (2 ^ e) Y k) = true := by
      rw [wnB_iff]
      intro j h
      rw [Mh_bit]
      refine ⟨?_, fun r hr kr => ?_⟩
      · rcases Nat.lt_or_ge j e with z | z
        · exact z
        · rw [Nat.testBit_lt_two_pow (Nat.lt_of_lt_of_le DueF_lt (Nat.pow_le_pow_right (by decide) z))] at h
          cases h
      · exact wnB_iff.mp (hY r hr).2 j (wnB_iff.mp (due_mono hk (hY r hr).1 kr) j h)
    unfold Oh
    cases p with
    | false => exact m
    | true => exact wnB_and.mpr ⟨m, due_sub hk⟩
  -- what is stable for R is stable for Y
  have st : ∀ k, Case c s e R k k → k < 65536 → stab (2 ^ e) R k = true → stab (2 ^ e) Y k = true := fun k hc hk h => by
    unfold stab at h ⊢
    have h1 : wnB k (Oh p (2 ^ e) R k) = true := by
      unfold Oh
      cases p with
      | false => exact h
      | true => exact wnB_and.mpr ⟨h, wnB_refl k⟩
    exact wnB_trans h1 (wnB_trans (hc.out hk) (wnB_trans (one k hk) Oh_sub_Mh))
  rw [wnB_iff]
  intro j h
  rw [due_bit hf] at h
  obtain ⟨k, h1, h2⟩ := h
  have hk := wn_lt (h1.sub hf) hf
  have h3 : (Oh p (2 ^ e) Y k).testBit j = true := wnB_iff.mp (one k hk) j (wnB_iff.mp (h1.out hf) j h2)
  have hs := h1.self hf
  -- the case for Y
  have : ∃ k', Case c s e Y f k' ∧ wnB k k' = true := by
    have h1' := h1
    unfold Case at h1 ⊢
    cases c with
    | false =>
      simp only [Bool.false_eq_true, if_false] at h1 ⊢
      refine ⟨_, rfl, ?_⟩
      cases s with
      | false => rw [h1]; exact wnB_refl f
      | true =>
        simp only [if_true] at h1 ⊢
        have so := settle_ok (e := e) R hf
        rw [← h1] at so
        exact (settle_ok Y hf).2.2 k so.2.1 (st k hs hk so.1)
    | true =>
      simp only [if_true] at h1 ⊢
      rcases h1 with rfl | ⟨w, q1, rfl, q2⟩
      · exact ⟨0, .inl rfl, wnB_refl 0⟩
      · exact ⟨2 ^ w, .inr ⟨w, q1, rfl, fun z => st _ hs hk (q2 z)⟩, wnB_refl _⟩
  obtain ⟨k', h4, h5⟩ := this
  rw [due_bit hf]
  exact ⟨k', h4, wnB_iff.mp (Oh_mono h5) j h3⟩
/-- more rules, less -/
theorem due_anti (he : e ≤ 16) (h : ∀ r ∈ Y, r ∈ R ∧ r.1 < 65536) (hf : f < 65536) : wnB (DueF c s p (2 ^ e) R f) (DueF c s p (2 ^ e) Y f) = true :=
  due_entail he (fun r hr => ⟨(h r hr).2, due_rule (h r hr).1 (h r hr).2⟩) hf
/-- steps -/
theorem due_steps (hf : f < 65536) : wnB (DueF c true p (2 ^ e) R f) (DueF c true p (2 ^ e) R (f &&& DueF c true p (2 ^ e) R f)) = true := by
  rw [wnB_iff]
  intro j h
  have h' := h
  rw [due_bit hf] at h
  obtain ⟨k, h1, h2⟩ := h
  have hk := wn_lt (h1.sub hf) hf
  have hg : f &&& DueF c true p (2 ^ e) R f < 65536 := Nat.lt_of_le_of_lt Nat.and_le_left hf
  have z : k = 0 ∨ stab (2 ^ e) R k = true := by
    have h1' := h1
    unfold Case at h1
    cases c with
    | false =>
      simp only [Bool.false_eq_true, if_false, if_true] at h1
      right
      rw [h1]
      exact (settle_ok R hf).1
    | true =>
      simp only [if_true] at h1
      rcases h1 with rfl | ⟨w, q1, rfl, q2⟩
      · exact .inl rfl
      · exact .inr (q2 trivial)
  have kd : wnB k (DueF c true p (2 ^ e) R f) = true := by
    rcases z with rfl | z
    · exact wnB_zero _
    · have h1' : wnB k (Oh p (2 ^ e) R k) = true := by
        unfold stab at z
        unfold Oh
        cases p with
        | false => exact z
        | true => exact wnB_and.mpr ⟨z, wnB_refl k⟩
      rw [wnB_iff]
      intro i hi
      rw [due_bit hf]
      exact ⟨k, h1, wnB_iff.mp h1' i hi⟩
  have kg : wnB k (f &&& DueF c true p (2 ^ e) R f) = true := wnB_and.mpr ⟨h1.sub hf, kd⟩
  exact wnB_iff.mp (due_mono hk hg kg) j (wnB_iff.mp (h1.out hf) j h2)
/-- cases -/
theorem due_cases (hf : f < 65536) (hg : g < 65536) : wnB (DueF true s p (2 ^ e) R (f ||| g)) (DueF true s p (2 ^ e) R f ||| DueF true s p (2 ^ e) R g) = true := by
  have hfg : f ||| g < 65536 := Nat.or_lt_two_pow (n := 16) hf hg
  rw [wnB_iff]
  intro j h
  rw [due_bit hfg] at h
  obtain ⟨k, h1, h2⟩ := h
  unfold Case at h1
  simp only [if_true] at h1
  rw [Nat.testBit_or, Bool.or_eq_true, due_bit hf, due_bit hg]
  unfold Case
  simp only [if_true]
  rcases h1 with rfl | ⟨w, q1, rfl, q2⟩
  · exact .inl ⟨0, .inl rfl, h2⟩
  · rw [Nat.testBit_or, Bool.or_eq_true] at q1
    rcases q1 with q1 | q1
    · exact .inl ⟨2 ^ w, .inr ⟨w, q1, rfl, q2⟩, h2⟩
    · exact .inr ⟨2 ^ w, .inr ⟨w, q1, rfl, q2⟩, h2⟩
end
end Du
set_option Elab.async false
set_option linter.all false
set_option maxRecDepth 100000
set_option maxHeartbeats 0
namespace K97
open PySem PySem.Spec PyProof.Rows L2 DL
/-! ### the text by places -/
def top (i : Nat) : Stmt := PySem.Challenge.pw_whatisdue_k97_whole_seen_told_back.main.body.getD i (.Pass ⟨0, 0, 0, 0⟩)
abbrev s__law_cell : Stmt := (top 74)
abbrev s__law_numbers : Stmt := (top 75)
abbrev s__law_rules : Stmt := (top 78)
abbrev s__law_meet : Stmt := (top 76)
abbrev s__law_due : Stmt := (top 77)
abbrev s__law_holds : Stmt := (top 79)
abbrev s_everything : Stmt := (top 14)
abbrev s_is_prop : Stmt := (top 17)
abbrev s_Seen_init : Stmt := (inClass (top 44) 0)
abbrev s_Book_init : Stmt := (inClass (top 19) 2)
abbrev s_within : Stmt := (top 16)
abbrev s_switches : Stmt := (top 22)
abbrev s_Book_iter : Stmt := (inClass (top 19) 3)
abbrev s_meet_heads : Stmt := (top 23)
abbrev s_steps : Stmt := (top 26)
abbrev s_settle : Stmt := (top 27)
abbrev s_output : Stmt := (top 25)
abbrev s_worlds_of : Stmt := (top 15)
abbrev s_is_stable : Stmt := (top 24)
abbrev s_due : Stmt := (top 28)
abbrev s_is_due : Stmt := (top 29)
abbrev s_first_due : Stmt := (top 45)
abbrev s_conflict : Stmt := (top 46)
abbrev s_fitting_book : Stmt := (top 47)
abbrev s__law_some : Stmt := (top 80)
abbrev s_Book_with_rule : Stmt := (inClass (top 19) 7)
abbrev s_status_by : Stmt := (top 49)
abbrev s_checked_book : Stmt := (top 48)
abbrev s_status : Stmt := (top 50)
abbrev s__law_status : Stmt := (top 81)
abbrev s_fitting_manners : Stmt := (top 51)
abbrev s_selections : Stmt := (top 54)
abbrev s_rest : Stmt := (top 58)
abbrev s_in_order : Stmt := (top 56)
abbrev s_mask_of : Stmt := (top 55)
abbrev s_least : Stmt := (top 57)
abbrev s_least_drops : Stmt := (top 60)
abbrev s_Table___contains__ : Stmt := (inClass (top 65) 1)
abbrev s_claims_of : Stmt := (top 67)
abbrev s_gap_in_row : Stmt := (top 69)
abbrev s_meet_of : Stmt := (top 68)
abbrev s_gap_at_facts : Stmt := (top 70)
abbrev s_gap : Stmt := (top 71)
abbrev s_Book_sub : Stmt := (inClass (top 19) 5)
abbrev s_Book_size : Stmt := (inClass (top 19) 4)
abbrev s_base : Stmt := (top 62)
abbrev s_book_of : Stmt := (top 72)
abbrev s_Table_init : Stmt := (inClass (top 65) 0)
abbrev s_table_of : Stmt := (top 66)
abbrev s__law_told_back : Stmt := (top 82)
abbrev s_law : Stmt := (top 83)
abbrev s_BadCount_init : Stmt := (inClass (top 3) 0)
abbrev s_TooMany_init : Stmt := (inClass (top 4) 0)
abbrev s_BadVerdict_init : Stmt := (inClass (top 11) 0)
abbrev s_BadRule_init : Stmt := (inClass (top 5) 0)
abbrev s_UnknownManner_init : Stmt := (inClass (top 7) 0)
abbrev s_NoFit_init : Stmt := (inClass (top 12) 0)
abbrev s_BadTable_init : Stmt := (inClass (top 9) 0)
def k_MANNERS : List D := [(.str "once"), (.str "cases"), (.str "steps"), (.str "both"), (.str "once+"), (.str "cases+"), (.str "steps+"), (.str "both+")]
/-! ### what the walk asks of the text -/
structure Ad where
  c_Seen : Addr
  c_Book : Addr
  c_Table : Addr
  f__law_cell : Addr
  d__law_cell : FuncData
  f__law_numbers : Addr
  d__law_numbers : FuncData
  f__law_rules : Addr
  d__law_rules : FuncData
  f__law_meet : Addr
  d__law_meet : FuncData
  f__law_due : Addr
  d__law_due : FuncData
  f__law_holds : Addr
  d__law_holds : FuncData
  f_everything : Addr
  d_everything : FuncData
  f_is_prop : Addr
  d_is_prop : FuncData
  f_Seen_init : Addr
  d_Seen_init : FuncData
  f_Book_init : Addr
  d_Book_init : FuncData
  f_within : Addr
  d_within : FuncData
  f_switches : Addr
  d_switches : FuncData
  f_Book_iter : Addr
  d_Book_iter : FuncData
  f_meet_heads : Addr
  d_meet_heads : FuncData
  f_steps : Addr
  d_steps : FuncData
  f_settle : Addr
  d_settle : FuncData
  f_output : Addr
  d_output : FuncData
  f_worlds_of : Addr
  d_worlds_of : FuncData
  f_is_stable : Addr
  d_is_stable : FuncData
  f_due : Addr
  d_due : FuncData
  f_is_due : Addr
  d_is_due : FuncData
  f_first_due : Addr
  d_first_due : FuncData
  f_conflict : Addr
  d_conflict : FuncData
  f_fitting_book : Addr
  d_fitting_book : FuncData
  f__law_some : Addr
  d__law_some : FuncData
  f_Book_with_rule : Addr
  d_Book_with_rule : FuncData
  f_status_by : Addr
  d_status_by : FuncData
  f_checked_book : Addr
  d_checked_book : FuncData
  f_status : Addr
  d_status : FuncData
  f__law_status : Addr
  d__law_status : FuncData
  f_fitting_manners : Addr
  d_fitting_manners : FuncData
  f_selections : Addr
  d_selections : FuncData
  f_rest : Addr
  d_rest : FuncData
  f_in_order : Addr
  d_in_order : FuncData
  f_mask_of : Addr
  d_mask_of : FuncData
  f_least : Addr
  d_least : FuncData
  f_least_drops : Addr
  d_least_drops : FuncData
  f_Table___contains__ : Addr
  d_Table___contains__ : FuncData
  f_claims_of : Addr
  d_claims_of : FuncData
  f_gap_in_row : Addr
  d_gap_in_row : FuncData
  f_meet_of : Addr
  d_meet_of : FuncData
  f_gap_at_facts : Addr
  d_gap_at_facts : FuncData
  f_gap : Addr
  d_gap : FuncData
  f_Book_sub : Addr
  d_Book_sub : FuncData
  f_Book_size : Addr
  d_Book_size : FuncData
  p_Book_size : Addr
  f_base : Addr
  d_base : FuncData
  f_book_of : Addr
  d_book_of : FuncData
  f_Table_init : Addr
  d_Table_init : FuncData
  f_table_of : Addr
  d_table_of : FuncData
  f__law_told_back : Addr
  d__law_told_back : FuncData
  f_law : Addr
  d_law : FuncData
  u_Book_MOST_LETTERS : Value
  u_Book_MOST_RULES : Value
  q_MANNERS : Addr
  o_MANNERS : Obj
  i_MANNERS : Array Value
  n_MANNERS : Nat
  c_BadCount : Addr
  fx_BadCount : Addr
  dx_BadCount : FuncData
  c_TooMany : Addr
  fx_TooMany : Addr
  dx_TooMany : FuncData
  c_BadVerdict : Addr
  fx_BadVerdict : Addr
  dx_BadVerdict : FuncData
  c_BadRule : Addr
  fx_BadRule : Addr
  dx_BadRule : FuncData
  c_UnknownManner : Addr
  fx_UnknownManner : Addr
  dx_UnknownManner : FuncData
  c_NoFit : Addr
  fx_NoFit : Addr
  dx_NoFit : FuncData
  c_BadTable : Addr
  fx_BadTable : Addr
  dx_BadTable : FuncData
  t_VERDICT_LIMIT : Tok
  t_SELECTION_LIMIT : Tok
  t_TABLE_LETTERS : Tok
structure Tx (P : Program) (K : PySem.W.Frag) (mg : Str → Option Value) (A : Ad) : Prop where
  F__law_cell : Fun K "_law_cell" "_law_cell" s__law_cell A.f__law_cell A.d__law_cell
  b__law_cell : Binds K A.d__law_cell ["script", "k"] []
  m__law_cell : mg "_law_cell" = some (.ref A.f__law_cell)
  F__law_numbers : Fun K "_law_numbers" "_law_numbers" s__law_numbers A.f__law_numbers A.d__law_numbers
  b__law_numbers : Binds K A.d__law_numbers ["script", "at", "count", "bound"] []
  m__law_numbers : mg "_law_numbers" = some (.ref A.f__law_numbers)
  F__law_rules : Fun K "_law_rules" "_law_rules" s__law_rules A.f__law_rules A.d__law_rules
  b__law_rules : Binds K A.d__law_rules ["script", "at", "n", "count"] []
  m__law_rules : mg "_law_rules" = some (.ref A.f__law_rules)
  F__law_meet : Fun K "_law_meet" "_law_meet" s__law_meet A.f__law_meet A.d__law_meet
  b__law_meet : Binds K A.d__law_meet ["n", "rules", "case"] []
  m__law_meet : mg "_law_meet" = some (.ref A.f__law_meet)
  F__law_due : Fun K "_law_due" "_law_due" s__law_due A.f__law_due A.d__law_due
  b__law_due : Binds K A.d__law_due ["n", "rules", "facts", "manner"] []
  m__law_due : mg "_law_due" = some (.ref A.f__law_due)
  F__law_holds : Fun K "_law_holds" "_law_holds" s__law_holds A.f__law_holds A.d__law_holds
  b__law_holds : Binds K A.d__law_holds ["n", "rules", "pair", "manner"] []
  m__law_holds : mg "_law_holds" = some (.ref A.f__law_holds)
  F_everything : Fun K "everything" "everything" s_everything A.f_everything A.d_everything
  b_everything : Binds K A.d_everything ["n"] []
  m_everything : mg "everything" = some (.ref A.f_everything)
  F_is_prop : Fun K "is_prop" "is_prop" s_is_prop A.f_is_prop A.d_is_prop
  b_is_prop : Binds K A.d_is_prop ["n", "prop"] []
  m_is_prop : mg "is_prop" = some (.ref A.f_is_prop)
  F_Seen_init : Fun K "__init__" "Seen.__init__" s_Seen_init A.f_Seen_init A.d_Seen_init
  b_Seen_init : Binds K A.d_Seen_init ["self", "n", "yes", "no"] []
  mk_Seen : Mk K A.c_Seen A.f_Seen_init
  F_Book_init : Fun K "__init__" "Book.__init__" s_Book_init A.f_Book_init A.d_Book_init
  b_Book_init : Binds K A.d_Book_init ["self", "n", "rules"] []
  mk_Book : Mk K A.c_Book A.f_Book_init
  F_within : Fun K "within" "within" s_within A.f_within A.d_within
  b_within : Binds K A.d_within ["first", "second"] []
  m_within : mg "within" = some (.ref A.f_within)
  F_switches : Fun K "switches" "switches" s_switches A.f_switches A.d_switches
  b_switches : Binds K A.d_switches ["manner"] []
  m_switches : mg "switches" = some (.ref A.f_switches)
  F_Book_iter : Fun K "__iter__" "Book.__iter__" s_Book_iter A.f_Book_iter A.d_Book_iter
  b_Book_iter : Binds K A.d_Book_iter ["self"] []
  it_Book : PySem.W.findIn K (.ref A.c_Book) "__iter__" = some (some (.ref A.f_Book_iter))
  itf_Book : PySem.W.isFn K (.ref A.f_Book_iter) = true
  F_meet_heads : Fun K "meet_heads" "meet_heads" s_meet_heads A.f_meet_heads A.d_meet_heads
  b_meet_heads : Binds K A.d_meet_heads ["book", "case"] []
  m_meet_heads : mg "meet_heads" = some (.ref A.f_meet_heads)
  F_steps : Fun K "steps" "steps" s_steps A.f_steps A.d_steps
  b_steps : Binds K A.d_steps ["book", "facts"] []
  m_steps : mg "steps" = some (.ref A.f_steps)
  F_settle : Fun K "settle" "settle" s_settle A.f_settle A.d_settle
  b_settle : Binds K A.d_settle ["book", "facts"] []
  m_settle : mg "settle" = some (.ref A.f_settle)
  F_output : Fun K "output" "output" s_output A.f_output A.d_output
  b_output : Binds K A.d_output ["book", "case", "manner"] []
  m_output : mg "output" = some (.ref A.f_output)
  F_worlds_of : Fun K "worlds_of" "worlds_of" s_worlds_of A.f_worlds_of A.d_worlds_of
  b_worlds_of : Binds K A.d_worlds_of ["prop"] []
  m_worlds_of : mg "worlds_of" = some (.ref A.f_worlds_of)
  F_is_stable : Fun K "is_stable" "is_stable" s_is_stable A.f_is_stable A.d_is_stable
  b_is_stable : Binds K A.d_is_stable ["book", "case"] []
  m_is_stable : mg "is_stable" = some (.ref A.f_is_stable)
  F_due : Fun K "due" "due" s_due A.f_due A.d_due
  b_due : Binds K A.d_due ["book", "facts", "manner"] []
  m_due : mg "due" = some (.ref A.f_due)
  F_is_due : Fun K "is_due" "is_due" s_is_due A.f_is_due A.d_is_due
  b_is_due : Binds K A.d_is_due ["book", "facts", "claim", "manner"] []
  m_is_due : mg "is_due" = some (.ref A.f_is_due)
  F_first_due : Fun K "first_due" "first_due" s_first_due A.f_first_due A.d_first_due
  b_first_due : Binds K A.d_first_due ["book", "pairs", "manner"] []
  m_first_due : mg "first_due" = some (.ref A.f_first_due)
  F_conflict : Fun K "conflict" "conflict" s_conflict A.f_conflict A.d_conflict
  b_conflict : Binds K A.d_conflict ["seen", "manner"] []
  m_conflict : mg "conflict" = some (.ref A.f_conflict)
  F_fitting_book : Fun K "fitting_book" "fitting_book" s_fitting_book A.f_fitting_book A.d_fitting_book
  b_fitting_book : Binds K A.d_fitting_book ["seen", "manner"] []
  m_fitting_book : mg "fitting_book" = some (.ref A.f_fitting_book)
  F__law_some : Fun K "_law_some" "_law_some" s__law_some A.f__law_some A.d__law_some
  b__law_some : Binds K A.d__law_some ["n", "rules", "pairs", "manner"] []
  m__law_some : mg "_law_some" = some (.ref A.f__law_some)
  F_Book_with_rule : Fun K "with_rule" "Book.with_rule" s_Book_with_rule A.f_Book_with_rule A.d_Book_with_rule
  b_Book_with_rule : Binds K A.d_Book_with_rule ["self", "body", "head"] []
  mm_Book_with_rule : Meth K A.c_Book "with_rule" A.f_Book_with_rule
  F_status_by : Fun K "status_by" "status_by" s_status_by A.f_status_by A.d_status_by
  b_status_by : Binds K A.d_status_by ["book", "refused", "pair", "manner"] []
  m_status_by : mg "status_by" = some (.ref A.f_status_by)
  F_checked_book : Fun K "checked_book" "checked_book" s_checked_book A.f_checked_book A.d_checked_book
  b_checked_book : Binds K A.d_checked_book ["seen", "manner"] []
  m_checked_book : mg "checked_book" = some (.ref A.f_checked_book)
  F_status : Fun K "status" "status" s_status A.f_status A.d_status
  b_status : Binds K A.d_status ["seen", "facts", "claim", "manner"] []
  m_status : mg "status" = some (.ref A.f_status)
  F__law_status : Fun K "_law_status" "_law_status" s__law_status A.f__law_status A.d__law_status
  b__law_status : Binds K A.d__law_status ["n", "yes", "no", "pair", "manner"] []
  m__law_status : mg "_law_status" = some (.ref A.f__law_status)
  F_fitting_manners : Fun K "fitting_manners" "fitting_manners" s_fitting_manners A.f_fitting_manners A.d_fitting_manners
  b_fitting_manners : Binds K A.d_fitting_manners ["seen"] []
  m_fitting_manners : mg "fitting_manners" = some (.ref A.f_fitting_manners)
  F_selections : Fun K "selections" "selections" s_selections A.f_selections A.d_selections
  b_selections : Binds K A.d_selections ["count"] []
  m_selections : mg "selections" = some (.ref A.f_selections)
  F_rest : Fun K "rest" "rest" s_rest A.f_rest A.d_rest
  b_rest : Binds K A.d_rest ["chosen", "count"] []
  m_rest : mg "rest" = some (.ref A.f_rest)
  F_in_order : Fun K "in_order" "in_order" s_in_order A.f_in_order A.d_in_order
  b_in_order : Binds K A.d_in_order ["found"] []
  m_in_order : mg "in_order" = some (.ref A.f_in_order)
  F_mask_of : Fun K "mask_of" "mask_of" s_mask_of A.f_mask_of A.d_mask_of
  b_mask_of : Binds K A.d_mask_of ["chosen"] []
  m_mask_of : mg "mask_of" = some (.ref A.f_mask_of)
  F_least : Fun K "least" "least" s_least A.f_least A.d_least
  b_least : Binds K A.d_least ["found"] []
  m_least : mg "least" = some (.ref A.f_least)
  F_least_drops : Fun K "least_drops" "least_drops" s_least_drops A.f_least_drops A.d_least_drops
  b_least_drops : Binds K A.d_least_drops ["seen", "manner"] []
  m_least_drops : mg "least_drops" = some (.ref A.f_least_drops)
  F_Table___contains__ : Fun K "__contains__" "Table.__contains__" s_Table___contains__ A.f_Table___contains__ A.d_Table___contains__
  b_Table___contains__ : Binds K A.d_Table___contains__ ["self", "pair"] []
  mm_Table___contains__ : Meth K A.c_Table "__contains__" A.f_Table___contains__
  F_claims_of : Fun K "claims_of" "claims_of" s_claims_of A.f_claims_of A.d_claims_of
  b_claims_of : Binds K A.d_claims_of ["table", "facts"] []
  m_claims_of : mg "claims_of" = some (.ref A.f_claims_of)
  F_gap_in_row : Fun K "gap_in_row" "gap_in_row" s_gap_in_row A.f_gap_in_row A.d_gap_in_row
  b_gap_in_row : Binds K A.d_gap_in_row ["table", "facts"] []
  m_gap_in_row : mg "gap_in_row" = some (.ref A.f_gap_in_row)
  F_meet_of : Fun K "meet_of" "meet_of" s_meet_of A.f_meet_of A.d_meet_of
  b_meet_of : Binds K A.d_meet_of ["table", "facts"] []
  m_meet_of : mg "meet_of" = some (.ref A.f_meet_of)
  F_gap_at_facts : Fun K "gap_at_facts" "gap_at_facts" s_gap_at_facts A.f_gap_at_facts A.d_gap_at_facts
  b_gap_at_facts : Binds K A.d_gap_at_facts ["meets", "facts", "manner"] []
  m_gap_at_facts : mg "gap_at_facts" = some (.ref A.f_gap_at_facts)
  F_gap : Fun K "gap" "gap" s_gap A.f_gap A.d_gap
  b_gap : Binds K A.d_gap ["table", "manner"] []
  m_gap : mg "gap" = some (.ref A.f_gap)
  F_Book_sub : Fun K "sub" "Book.sub" s_Book_sub A.f_Book_sub A.d_Book_sub
  b_Book_sub : Binds K A.d_Book_sub ["self", "chosen"] []
  mm_Book_sub : Meth K A.c_Book "sub" A.f_Book_sub
  F_Book_size : Fun K "size" "Book.size" s_Book_size A.f_Book_size A.d_Book_size
  b_Book_size : Binds K A.d_Book_size ["self"] []
  pp_Book_size : PropOf K A.c_Book "size" A.p_Book_size A.f_Book_size
  F_base : Fun K "base" "base" s_base A.f_base A.d_base
  b_base : Binds K A.d_base ["book", "manner"] []
  m_base : mg "base" = some (.ref A.f_base)
  F_book_of : Fun K "book_of" "book_of" s_book_of A.f_book_of A.d_book_of
  b_book_of : Binds K A.d_book_of ["table", "manner"] []
  m_book_of : mg "book_of" = some (.ref A.f_book_of)
  F_Table_init : Fun K "__init__" "Table.__init__" s_Table_init A.f_Table_init A.d_Table_init
  b_Table_init : Binds K A.d_Table_init ["self", "n", "rows"] []
  mk_Table : Mk K A.c_Table A.f_Table_init
  F_table_of : Fun K "table_of" "table_of" s_table_of A.f_table_of A.d_table_of
  b_table_of : Binds K A.d_table_of ["book", "manner"] []
  m_table_of : mg "table_of" = some (.ref A.f_table_of)
  F__law_told_back : Fun K "_law_told_back" "_law_told_back" s__law_told_back A.f__law_told_back A.d__law_told_back
  b__law_told_back : Binds K A.d__law_told_back ["n", "rules", "manner"] []
  m__law_told_back : mg "_law_told_back" = some (.ref A.f__law_told_back)
  F_law : Fun K "law" "law" s_law A.f_law A.d_law
  b_law : Binds K A.d_law ["script"] []
  m_law : mg "law" = some (.ref A.f_law)
  g_Seen : mg "Seen" = some (.ref A.c_Seen)
  d_Seen : ClD K mg "Seen" A.c_Seen ["n", "yes", "no"]
  g_Book : mg "Book" = some (.ref A.c_Book)
  d_Book : ClD K mg "Book" A.c_Book ["n", "rules"]
  r_Book : ClX.CRead K A.c_Book (.type "type")
  g_Table : mg "Table" = some (.ref A.c_Table)
  d_Table : ClD K mg "Table" A.c_Table ["n", "rows"]
  v_Book_MOST_LETTERS : ClX.CVal K A.c_Book (.type "type") "MOST_LETTERS" (V.int 4) A.u_Book_MOST_LETTERS
  v_Book_MOST_RULES : ClX.CVal K A.c_Book (.type "type") "MOST_RULES" (V.int 16) A.u_Book_MOST_RULES
  k_MANNERS : KTup K mg "MANNERS" A.q_MANNERS A.o_MANNERS A.i_MANNERS A.n_MANNERS k_MANNERS
  z_combinations : mg "combinations" = some (.type "itertools.combinations")
  top : (P.main.scope.names.lookup ("super" : Str)).isSome = false
  g_BadCount : mg "BadCount" = some (.ref A.c_BadCount)
  x_BadCount : FunX K "BadCount.__init__" s_BadCount_init P.main.file A.c_BadCount A.fx_BadCount A.dx_BadCount
  bx_BadCount : Binds K A.dx_BadCount ["self", "number"] []
  xn_BadCount_number : PySem.W.findIn K (.ref A.c_BadCount) "number" = some none
  g_TooMany : mg "TooMany" = some (.ref A.c_TooMany)
  x_TooMany : FunX K "TooMany.__init__" s_TooMany_init P.main.file A.c_TooMany A.fx_TooMany A.dx_TooMany
  bx_TooMany : Binds K A.dx_TooMany ["self", "limit"] []
  xn_TooMany_limit : PySem.W.findIn K (.ref A.c_TooMany) "limit" = some none
  g_BadVerdict : mg "BadVerdict" = some (.ref A.c_BadVerdict)
  x_BadVerdict : FunX K "BadVerdict.__init__" s_BadVerdict_init P.main.file A.c_BadVerdict A.fx_BadVerdict A.dx_BadVerdict
  bx_BadVerdict : Binds K A.dx_BadVerdict ["self", "number"] []
  xn_BadVerdict_number : PySem.W.findIn K (.ref A.c_BadVerdict) "number" = some none
  g_BadRule : mg "BadRule" = some (.ref A.c_BadRule)
  x_BadRule : FunX K "BadRule.__init__" s_BadRule_init P.main.file A.c_BadRule A.fx_BadRule A.dx_BadRule
  bx_BadRule : Binds K A.dx_BadRule ["self", "number"] []
  xn_BadRule_number : PySem.W.findIn K (.ref A.c_BadRule) "number" = some none
  g_UnknownManner : mg "UnknownManner" = some (.ref A.c_UnknownManner)
  x_UnknownManner : FunX K "UnknownManner.__init__" s_UnknownManner_init P.main.file A.c_UnknownManner A.fx_UnknownManner A.dx_UnknownManner
  bx_UnknownManner : Binds K A.dx_UnknownManner ["self", "manner"] []
  xn_UnknownManner_manner : PySem.W.findIn K (.ref A.c_UnknownManner) "manner" = some none
  g_NoFit : mg "NoFit" = some (.ref A.c_NoFit)
  x_NoFit : FunX K "NoFit.__init__" s_NoFit_init P.main.file A.c_NoFit A.fx_NoFit A.dx_NoFit
  bx_NoFit : Binds K A.dx_NoFit ["self", "number"] []
  xn_NoFit_number : PySem.W.findIn K (.ref A.c_NoFit) "number" = some none
  g_BadTable : mg "BadTable" = some (.ref A.c_BadTable)
  x_BadTable : FunX K "BadTable.__init__" s_BadTable_init P.main.file A.c_BadTable A.fx_BadTable A.dx_BadTable
  bx_BadTable : Binds K A.dx_BadTable ["self", "place"] []
  xn_BadTable_place : PySem.W.findIn K (.ref A.c_BadTable) "place" = some none
  kv_VERDICT_LIMIT : mg "VERDICT_LIMIT" = some (Value.int 8 A.t_VERDICT_LIMIT)
  kv_SELECTION_LIMIT : mg "SELECTION_LIMIT" = some (Value.int 7 A.t_SELECTION_LIMIT)
  kv_TABLE_LETTERS : mg "TABLE_LETTERS" = some (Value.int 2 A.t_TABLE_LETTERS)
  z_len : mg "len" = none
  z_int : mg "int" = none
  z_abs : mg "abs" = none
  z_range : mg "range" = none
  z_enumerate : mg "enumerate" = none
  z_tuple : mg "tuple" = none
  z_list : mg "list" = none
  z_iter : mg "iter" = none
  z_any : mg "any" = none
  z_all : mg "all" = none
  z_isinstance : mg "isinstance" = none
  z_str : mg "str" = none
  z_sorted : mg "sorted" = none
  z_reversed : mg "reversed" = none
  z_sum : mg "sum" = none
  z_super : mg "super" = none
section
variable {P : Program} {w : World} {K : PySem.W.Frag} {mg : Str → Option Value} {base : Heap} {A : Ad}
theorem x_BadCount (T : Tx P K mg A) : FnOk P w K mg base (L2.CX P w) 1 A.fx_BadCount A.dx_BadCount ["self", "number"] (spEx A.c_BadCount ["number"]) :=
  fnx_of (k := 0) (N := ["self", "number", "__class__"]) T.x_BadCount (NdefX.nscope_by (by kernel_rfl)) rfl rfl rfl rfl T.z_super (by kernel_rfl) (by kernel_rfl) T.top (fun _ _ _ => rfl) (fun _ _ _ => rfl) (fun _ _ _ => rfl) (fun F' A outer s H E e1 e2 => keep1 e1 rfl rfl (by kernel_rfl) (by kernel_rfl) rfl) (keep1_t T.x_BadCount.T T.xn_BadCount_number)
theorem x_TooMany (T : Tx P K mg A) : FnOk P w K mg base (L2.CX P w) 1 A.fx_TooMany A.dx_TooMany ["self", "limit"] (spEx A.c_TooMany ["limit"]) :=
  fnx_of (k := 0) (N := ["self", "limit", "__class__"]) T.x_TooMany (NdefX.nscope_by (by kernel_rfl)) rfl rfl rfl rfl T.z_super (by kernel_rfl) (by kernel_rfl) T.top (fun _ _ _ => rfl) (fun _ _ _ => rfl) (fun _ _ _ => rfl) (fun F' A outer s H E e1 e2 => keep1 e1 rfl rfl (by kernel_rfl) (by kernel_rfl) rfl) (keep1_t T.x_TooMany.T T.xn_TooMany_limit)
theorem x_BadVerdict (T : Tx P K mg A) : FnOk P w K mg base (L2.CX P w) 1 A.fx_BadVerdict A.dx_BadVerdict ["self", "number"] (spEx A.c_BadVerdict ["number"]) :=
  fnx_of (k := 0) (N := ["self", "number", "__class__"]) T.x_BadVerdict (NdefX.nscope_by (by kernel_rfl)) rfl rfl rfl rfl T.z_super (by kernel_rfl) (by kernel_rfl) T.top (fun _ _ _ => rfl) (fun _ _ _ => rfl) (fun _ _ _ => rfl) (fun F' A outer s H E e1 e2 => keep1 e1 rfl rfl (by kernel_rfl) (by kernel_rfl) rfl) (keep1_t T.x_BadVerdict.T T.xn_BadVerdict_number)
theorem x_BadRule (T : Tx P K mg A) : FnOk P w K mg base (L2.CX P w) 1 A.fx_BadRule A.dx_BadRule ["self", "number"] (spEx A.c_BadRule ["number"]) :=
  fnx_of (k := 0) (N := ["self", "number", "__class__"]) T.x_BadRule (NdefX.nscope_by (by kernel_rfl)) rfl rfl rfl rfl T.z_super (by kernel_rfl) (by kernel_rfl) T.top (fun _ _ _ => rfl) (fun _ _ _ => rfl) (fun _ _ _ => rfl) (fun F' A outer s H E e1 e2 => keep1 e1 rfl rfl (by kernel_rfl) (by kernel_rfl) rfl) (keep1_t T.x_BadRule.T T.xn_BadRule_number)
theorem x_UnknownManner (T : Tx P K mg A) : FnOk P w K mg base (L2.CX P w) 1 A.fx_UnknownManner A.dx_UnknownManner ["self", "manner"] (spEx A.c_UnknownManner ["manner"]) :=
  fnx_of (k := 0) (N := ["self", "manner", "__class__"]) T.x_UnknownManner (NdefX.nscope_by (by kernel_rfl)) rfl rfl rfl rfl T.z_super (by kernel_rfl) (by kernel_rfl) T.top (fun _ _ _ => rfl) (fun _ _ _ => rfl) (fun _ _ _ => rfl) (fun F' A outer s H E e1 e2 => keep1 e1 rfl rfl (by kernel_rfl) (by kernel_rfl) rfl) (keep1_t T.x_UnknownManner.T T.xn_UnknownManner_manner)
theorem x_NoFit (T : Tx P K mg A) : FnOk P w K mg base (L2.CX P w) 1 A.fx_NoFit A.dx_NoFit ["self", "number"] (spEx A.c_NoFit ["number"]) :=
  fnx_of (k := 0) (N := ["self", "number", "__class__"]) T.x_NoFit (NdefX.nscope_by (by kernel_rfl)) rfl rfl rfl rfl T.z_super (by kernel_rfl) (by kernel_rfl) T.top (fun _ _ _ => rfl) (fun _ _ _ => rfl) (fun _ _ _ => rfl) (fun F' A outer s H E e1 e2 => keep1 e1 rfl rfl (by kernel_rfl) (by kernel_rfl) rfl) (keep1_t T.x_NoFit.T T.xn_NoFit_number)
theorem x_BadTable (T : Tx P K mg A) : FnOk P w K mg base (L2.CX P w) 1 A.fx_BadTable A.dx_BadTable ["self", "place"] (spEx A.c_BadTable ["place"]) :=
  fnx_of (k := 0) (N := ["self", "place", "__class__"]) T.x_BadTable (NdefX.nscope_by (by kernel_rfl)) rfl rfl rfl rfl T.z_super (by kernel_rfl) (by kernel_rfl) T.top (fun _ _ _ => rfl) (fun _ _ _ => rfl) (fun _ _ _ => rfl) (fun F' A outer s H E e1 e2 => keep1 e1 rfl rfl (by kernel_rfl) (by kernel_rfl) rfl) (keep1_t T.x_BadTable.T T.xn_BadTable_place)
theorem sc__law_cell : FnScope ["script", "k"] ["script", "k"] (defScope s__law_cell) := ⟨rfl, rfl, rfl, by decide +kernel, rfl, by decide +kernel, by decide +kernel⟩
def g__law_cell : DEnv → SRes := (sSeq (sIf (eB (e2 dLt (eVar 1) (eL bLen (eCons (eVar 0) eNil)))) (sRet ((([0] ++ [1]) ++ []) ++ []) (eL bAbs (eCons (eL bInt (eCons (e2 dIx (eVar 0) (eVar 1)) eNil)) eNil))) sNil) (sRet [] (eC (.int 0))))
def m__law_cell : List D → Res D := mOf 2 false g__law_cell
theorem w__law_cell (T : Tx P K mg A) : FnD P w K mg base 1 A.f__law_cell A.d__law_cell ["script", "k"] false m__law_cell := fnd_of T.F__law_cell sc__law_cell fun cdv A outer s H E hr => (sds_cons (sd_if (ptd_cmp op_lt od_intb (pd_var 1) (pd_B call_lenA cd_len T.z_len (pad_cons (pd_var 0) pad_nil)) (by first | exact nomark _ | rfl)) (sds_one (sd_ret (pd_B call_abs cd_abs T.z_abs (pad_cons (pd_T call_int1 cd_int T.z_int (pad_cons (pd_ix (pd_var 0) (pd_var 1)) pad_nil)) pad_nil)))) sds_nil) (sds_one (sd_ret pd_int)))
theorem sc__law_numbers : FnScope ["script", "at", "count", "bound", "cell", "numbers", "left", "k", "mixed"] ["script", "at", "count", "bound"] (defScope s__law_numbers) := ⟨rfl, rfl, rfl, by decide +kernel, rfl, by decide +kernel, by decide +kernel⟩
def b__law_numbers_1 : DEnv → SRes := (sIf (eB (e2 dGt (eVar 6) (eC (.int 0)))) (sSeq (sApp false (([6] ++ []) ++ [3]) 5 (e2 dMod (eL bInt (eCons (eVar 6) eNil)) (eVar 3))) (sAsg false ([6] ++ [3]) 6 (e2 dDiv (eVar 6) (eVar 3)))) (sSeq (sAsg false (((((([4] ++ []) ++ ([] ++ [1])) ++ []) ++ ((([] ++ [7]) ++ ([] ++ [1])) ++ [])) ++ []) ++ []) 8 (e2 dMod (eL bInt (eCons (e2 dMul (e2 dAdd (e2 dAdd (e2 dMod (eVar 4) (eC (.int 999983))) (e2 dMul (eC (.int 37)) (eVar 1))) (eC (.int 1))) (e2 dAdd (e2 dAdd (e2 dMul (eC (.int 7919)) (eVar 7)) (e2 dMul (eC (.int 611)) (eVar 1))) (eC (.int 104729)))) eNil)) (eC (.int 1000003)))) (sApp false (((([8] ++ ([8] ++ [])) ++ []) ++ []) ++ [3]) 5 (e2 dMod (e2 dMod (eL bInt (eCons (e2 dMul (eVar 8) (e2 dAdd (eVar 8) (eC (.int 31)))) eNil)) (eC (.int 1000033))) (eVar 3)))))
def g__law_numbers : DEnv → SRes := (sSeq (sAsg false ([0] ++ ([1] ++ [])) 4 (eL (callN 2 m__law_cell) (eCons (eVar 0) (eCons (eVar 1) eNil)))) (sSeq (sAsgF false [] 5 (eLst eNil)) (sSeq (sAsg false [4] 6 (eVar 4)) (sSeq (sIf (eB (e2 dLt (eVar 6) (e2 dPow (eC (.int 10)) (eC (.int 18))))) (sAsg false [] 6 (eC (.int 0))) sNil) (sSeq (sForR [7] (eL rng1 (eCons (eVar 2) eNil)) g1 b__law_numbers_1) (sRetO 5))))))
def m__law_numbers : List D → Res D := mOf 9 true g__law_numbers
theorem w__law_numbers (T : Tx P K mg A) : FnD P w K mg base 2 A.f__law_numbers A.d__law_numbers ["script", "at", "count", "bound"] true m__law_numbers := fnd_of T.F__law_numbers sc__law_numbers fun cdv A outer s H E hr => (sds_cons (sd_asg false (i := 4) sc__law_numbers.nd (pd_call (ps := ["script", "k"]) (takes_of rfl rfl rfl rfl) hr (by decide) (w__law_cell T) T.m__law_cell T.F__law_cell.kp T.b__law_cell (pad_cons (pd_var 0) (pad_cons (pd_var 1) pad_nil)))) (sds_cons (sd_asgF false (i := 5) sc__law_numbers.nd (pf_lst pad_nil)) (sds_cons (sd_asg false (i := 6) sc__law_numbers.nd (pd_var 4)) (sds_cons (sd_if (ptd_cmp op_lt od_intb (pd_var 6) (pd_bin op_pow od_pow pd_int pd_int) (by first | exact nomark _ | rfl)) (sds_one (sd_asg false (i := 6) sc__law_numbers.nd pd_int)) sds_nil) (sds_cons (sd_forR (S := ([2] ++ [])) (passes_of rfl) rfl (id_range1 T.z_range (pad_cons (pd_var 2) pad_nil)) (gd_name sc__law_numbers.nd) (sds_one (sd_if (ptd_cmp op_gt od_intb (pd_var 6) pd_int (by first | exact nomark _ | rfl)) (sds_cons (sd_app false 5 (pd_bin op_mod od_mod (pd_T call_int1 cd_int T.z_int (pad_cons (pd_var 6) pad_nil)) (pd_var 3))) (sds_one (sd_asg false (i := 6) sc__law_numbers.nd (pd_bin op_fdiv od_div (pd_var 6) (pd_var 3))))) (sds_cons (sd_asg false (i := 8) sc__law_numbers.nd (pd_bin op_mod od_mod (pd_T call_int1 cd_int T.z_int (pad_cons (pd_bin op_mul od_mul (pd_bin op_addA od_add (pd_bin op_addA od_add (pd_bin op_mod od_mod (pd_var 4) pd_int) (pd_bin op_mul od_mul pd_int (pd_var 1))) pd_int) (pd_bin op_addA od_add (pd_bin op_addA od_add (pd_bin op_mul od_mul pd_int (pd_var 7)) (pd_bin op_mul od_mul pd_int (pd_var 1))) pd_int)) pad_nil)) pd_int)) (sds_one (sd_app false 5 (pd_bin op_mod od_mod (pd_bin op_mod od_mod (pd_T call_int1 cd_int T.z_int (pad_cons (pd_bin op_mul od_mul (pd_var 8) (pd_bin op_addA od_add (pd_var 8) pd_int)) pad_nil)) pd_int) (pd_var 3)))))))) (sds_one (sd_retO 5)))))))
theorem sc__law_rules : FnScope ["script", "at", "n", "count", "top", "first", "second", "rules", "k"] ["script", "at", "n", "count"] (defScope s__law_rules) := ⟨rfl, rfl, rfl, by decide +kernel, rfl, by decide +kernel, by decide +kernel⟩
def b__law_rules_1 : DEnv → SRes := (sIf (eB (e2 dEq (e2 dMod (e2 dIx (eVar 5) (eVar 8)) (eC (.int 2))) (eC (.int 0)))) (sApp false ((([5] ++ ([] ++ [8])) ++ ([5] ++ (([] ++ [8]) ++ []))) ++ (([6] ++ ([] ++ [8])) ++ [])) 7 (eTup (eCons (e2 dOr (e2 dIx (eVar 5) (e2 dMul (eC (.int 2)) (eVar 8))) (e2 dIx (eVar 5) (e2 dAdd (e2 dMul (eC (.int 2)) (eVar 8)) (eC (.int 1))))) (eCons (e2 dIx (eVar 6) (e2 dMul (eC (.int 2)) (eVar 8))) eNil)))) (sApp false (([5] ++ ([] ++ [8])) ++ ((([6] ++ ([] ++ [8])) ++ ([6] ++ (([] ++ [8]) ++ []))) ++ [])) 7 (eTup (eCons (e2 dIx (eVar 5) (e2 dMul (eC (.int 2)) (eVar 8))) (eCons (e2 dOr (e2 dIx (eVar 6) (e2 dMul (eC (.int 2)) (eVar 8))) (e2 dIx (eVar 6) (e2 dAdd (e2 dMul (eC (.int 2)) (eVar 8)) (eC (.int 1))))) eNil)))))
def g__law_rules : DEnv → SRes := (sSeq (sAsg false ([] ++ ([] ++ [2])) 4 (e2 dShl (eC (.int 1)) (e2 dShl (eC (.int 1)) (eVar 2)))) (sSeq (sAsg false ([0] ++ ([1] ++ (([] ++ [3]) ++ ([4] ++ [])))) 5 (eFz (eL (callF 4 m__law_numbers) (eCons (eVar 0) (eCons (eVar 1) (eCons (e2 dMul (eC (.int 2)) (eVar 3)) (eCons (eVar 4) eNil))))))) (sSeq (sAsg false ([0] ++ (([1] ++ []) ++ (([] ++ [3]) ++ ([4] ++ [])))) 6 (eFz (eL (callF 4 m__law_numbers) (eCons (eVar 0) (eCons (e2 dAdd (eVar 1) (eC (.int 1))) (eCons (e2 dMul (eC (.int 2)) (eVar 3)) (eCons (eVar 4) eNil))))))) (sSeq (sAsgF false [] 7 (eLst eNil)) (sSeq (sForR [8] (eL rng1 (eCons (eVar 3) eNil)) g1 b__law_rules_1) (sRetO 7))))))
def m__law_rules : List D → Res D := mOf 9 true g__law_rules
theorem w__law_rules (T : Tx P K mg A) : FnD P w K mg base 3 A.f__law_rules A.d__law_rules ["script", "at", "n", "count"] true m__law_rules := fnd_of T.F__law_rules sc__law_rules fun cdv A outer s H E hr => (sds_cons (sd_asg false (i := 4) sc__law_rules.nd (pd_bin op_shl od_shl pd_int (pd_bin op_shl od_shl pd_int (pd_var 2)))) (sds_cons (sd_asg false (i := 5) sc__law_rules.nd (pd_fz (pf_call (ps := ["script", "at", "count", "bound"]) (takes_of rfl rfl rfl rfl) hr (by decide) (w__law_numbers T) T.m__law_numbers T.F__law_numbers.kp T.b__law_numbers (pad_cons (pd_var 0) (pad_cons (pd_var 1) (pad_cons (pd_bin op_mul od_mul pd_int (pd_var 3)) (pad_cons (pd_var 4) pad_nil))))))) (sds_cons (sd_asg false (i := 6) sc__law_rules.nd (pd_fz (pf_call (ps := ["script", "at", "count", "bound"]) (takes_of rfl rfl rfl rfl) hr (by decide) (w__law_numbers T) T.m__law_numbers T.F__law_numbers.kp T.b__law_numbers (pad_cons (pd_var 0) (pad_cons (pd_bin op_addA od_add (pd_var 1) pd_int) (pad_cons (pd_bin op_mul od_mul pd_int (pd_var 3)) (pad_cons (pd_var 4) pad_nil))))))) (sds_cons (sd_asgF false (i := 7) sc__law_rules.nd (pf_lst pad_nil)) (sds_cons (sd_forR (S := ([3] ++ [])) (passes_of rfl) rfl (id_range1 T.z_range (pad_cons (pd_var 3) pad_nil)) (gd_name sc__law_rules.nd) (sds_one (sd_if (ptd_cmp (op_eqD hr.units) od_eq (pd_bin op_mod od_mod (pd_ix (pd_var 5) (pd_var 8)) pd_int) pd_int (by first | exact nomark _ | rfl)) (sds_one (sd_app false 7 (pd_tup (pad_cons (pd_bin op_or od_orr (pd_ix (pd_var 5) (pd_bin op_mul od_mul pd_int (pd_var 8))) (pd_ix (pd_var 5) (pd_bin op_addA od_add (pd_bin op_mul od_mul pd_int (pd_var 8)) pd_int))) (pad_cons (pd_ix (pd_var 6) (pd_bin op_mul od_mul pd_int (pd_var 8))) pad_nil))))) (sds_one (sd_app false 7 (pd_tup (pad_cons (pd_ix (pd_var 5) (pd_bin op_mul od_mul pd_int (pd_var 8))) (pad_cons (pd_bin op_or od_orr (pd_ix (pd_var 6) (pd_bin op_mul od_mul pd_int (pd_var 8))) (pd_ix (pd_var 6) (pd_bin op_addA od_add (pd_bin op_mul od_mul pd_int (pd_var 8)) pd_int))) pad_nil)))))))) (sds_one (sd_retO 7)))))))
theorem sc__law_meet : FnScope ["n", "rules", "case", "meet", "rule"] ["n", "rules", "case"] (defScope s__law_meet) := ⟨rfl, rfl, rfl, by decide +kernel, rfl, by decide +kernel, by decide +kernel⟩
def b__law_meet_1 : DEnv → SRes := (sIf (eB (e2 dEq (e2 dAnd (eVar 2) (e2 dIx (eVar 4) (eC (.int 0)))) (eVar 2))) (sAsg false ([3] ++ ([4] ++ [])) 3 (e2 dAnd (eVar 3) (e2 dIx (eVar 4) (eC (.int 1))))) sNil)
def g__law_meet : DEnv → SRes := (sSeq (sAsg false (([] ++ ([] ++ [0])) ++ []) 3 (e2 dSub (e2 dShl (eC (.int 1)) (e2 dShl (eC (.int 1)) (eVar 0))) (eC (.int 1)))) (sSeq (sFor [1] [4] (eIt (eVar 1)) g1 b__law_meet_1) (sRet [3] (eVar 3))))
def m__law_meet : List D → Res D := mOf 5 false g__law_meet
theorem w__law_meet (T : Tx P K mg A) : FnD P w K mg base 1 A.f__law_meet A.d__law_meet ["n", "rules", "case"] false m__law_meet := fnd_of T.F__law_meet sc__law_meet fun cdv A outer s H E hr => (sds_cons (sd_asg false (i := 3) sc__law_meet.nd (pd_bin op_sub od_sub (pd_bin op_shl od_shl pd_int (pd_bin op_shl od_shl pd_int (pd_var 0))) pd_int)) (sds_cons (sd_for (passes_of rfl) rfl (id_seq (pd_var 1)) (gd_name sc__law_meet.nd) (sds_one (sd_if (ptd_cmp (op_eqD hr.units) od_eq (pd_bin op_and od_and (pd_var 2) (pd_ix (pd_var 4) pd_int)) (pd_var 2) (by first | exact nomark _ | rfl)) (sds_one (sd_asg false (i := 3) sc__law_meet.nd (pd_bin op_and od_and (pd_var 3) (pd_ix (pd_var 4) pd_int)))) sds_nil))) (sds_one (sd_ret (pd_var 3)))))
theorem sc__law_due : FnScope ["n", "rules", "facts", "manner", "cases", "join", "case", "meet", "k", "world"] ["n", "rules", "facts", "manner"] (defScope s__law_due) := ⟨rfl, rfl, rfl, by decide +kernel, rfl, by decide +kernel, by decide +kernel⟩
def l__law_due_1 : DEnv → Res D := (e2 dShl (eC (.int 1)) (eVar 9))
def b__law_due_1 : DEnv → SRes := (sAsg false ([6] ++ ([0] ++ ([1] ++ ([6] ++ [])))) 6 (e2 dAnd (eVar 6) (eL (callN 3 m__law_meet) (eCons (eVar 0) (eCons (eVar 1) (eCons (eVar 6) eNil))))))
def b__law_due_2 : DEnv → SRes := (sSeq (sAsg false ([0] ++ ([1] ++ ([6] ++ []))) 7 (eL (callN 3 m__law_meet) (eCons (eVar 0) (eCons (eVar 1) (eCons (eVar 6) eNil))))) (sIf (eOr (eB (e2 dNotIn (e3 dSl (eVar 3) eNoP (eP (eC (.int 4)))) (eTup (eCons (eC (.str "step")) (eCons (eC (.str "both")) eNil))))) (eB (e2 dEq (e2 dAnd (eVar 6) (eVar 7)) (eVar 6)))) (sSeq (sIf (eB (e2 dEq (e2 dIx (eVar 3) (e1 dNeg (eC (.int 1)))) (eC (.str "+")))) (sAsg false ([7] ++ [6]) 7 (e2 dAnd (eVar 7) (eVar 6))) sNil) (sAsg false ([5] ++ [7]) 5 (e2 dOr (eVar 5) (eVar 7)))) sNil))
def g__law_due : DEnv → SRes := (sSeq (sAsg false ([2] ++ []) 4 (eFz (eLst (eCons (eVar 2) eNil)))) (sSeq (sIf (eB (e2 dIn (e3 dSl (eVar 3) eNoP (eP (eC (.int 4)))) (eTup (eCons (eC (.str "case")) (eCons (eC (.str "both")) eNil))))) (sAsg false (([] ++ []) ++ ((([] ++ [0]) ++ []) ++ minus (((([2] ++ [9]) ++ []) ++ []) ++ ([] ++ [9])) [9])) 4 (eFz (e2 dCatL (eFz (eLst (eCons (eC (.int 0)) eNil))) (eFz (eLc [9] (eL rng1 (eCons (e2 dShl (eC (.int 1)) (eVar 0)) eNil)) g1 (eB (e2 dEq (e2 dAnd (e2 dShr (eVar 2) (eVar 9)) (eC (.int 1))) (eC (.int 1)))) l__law_due_1))))) (sIf (eB (e2 dEq (e3 dSl (eVar 3) eNoP (eP (eC (.int 4)))) (eC (.str "step")))) (sSeq (sAsg false [2] 6 (eVar 2)) (sSeq (sForR [8] (eL rng1 (eCons (eC (.int 17)) eNil)) g1 b__law_due_1) (sAsg false ([6] ++ []) 4 (eFz (eLst (eCons (eVar 6) eNil)))))) sNil)) (sSeq (sAsg false [] 5 (eC (.int 0))) (sSeq (sFor [4] [6] (eIt (eVar 4)) g1 b__law_due_2) (sRet [5] (eVar 5))))))
def m__law_due : List D → Res D := mOf 10 false g__law_due
theorem w__law_due (T : Tx P K mg A) : FnD P w K mg base 2 A.f__law_due A.d__law_due ["n", "rules", "facts", "manner"] false m__law_due := fnd_of T.F__law_due sc__law_due fun cdv A outer s H E hr => (sds_cons (sd_asg false (i := 4) sc__law_due.nd (pd_fz (pf_lst (pad_cons (pd_var 2) pad_nil)))) (sds_cons (sd_if (ptd_cmp (op_inA (u65 hr)) od_in (pd_sl (pd_var 3) pod_none (pod_some pd_int)) (pd_tup (pad_cons pd_str (pad_cons pd_str pad_nil))) (by first | exact nomark _ | rfl)) (sds_one (sd_asg false (i := 4) sc__law_due.nd (pd_fz (pf_bin op_catS of_catL (pd_fz (pf_lst (pad_cons pd_int pad_nil))) (pd_fz (pf_lc rfl sc__law_due.nd (id_of0 (id_range1 T.z_range (pad_cons (pd_bin op_shl od_shl pd_int (pd_var 0)) pad_nil))) (blkOk_by (own := [("world", 9)]) (by kernel_rfl)) rfl (fun s H C cl fp => (gd_name sc__law_due.nd)) (fun s H C cl fp => (ptsd_one (ptd_cmp (op_eqD hr.units) od_eq (pd_bin op_and od_and (pd_bin op_shr od_shr (pd_var 2) (pd_var 9)) pd_int) pd_int (by first | exact nomark _ | rfl)))) (fun s H C cl fp => (pd_bin op_shl od_shl pd_int (pd_var 9))))))))) (sds_one (sd_if (ptd_cmp (op_eqD hr.units) od_eq (pd_sl (pd_var 3) pod_none (pod_some pd_int)) pd_str (by first | exact nomark _ | rfl)) (sds_cons (sd_asg false (i := 6) sc__law_due.nd (pd_var 2)) (sds_cons (sd_forR (S := ([] ++ [])) (passes_of rfl) rfl (id_range1 T.z_range (pad_cons pd_int pad_nil)) (gd_name sc__law_due.nd) (sds_one (sd_asg false (i := 6) sc__law_due.nd (pd_bin op_and od_and (pd_var 6) (pd_call (ps := ["n", "rules", "case"]) (takes_of rfl rfl rfl rfl) hr (by decide) (w__law_meet T) T.m__law_meet T.F__law_meet.kp T.b__law_meet (pad_cons (pd_var 0) (pad_cons (pd_var 1) (pad_cons (pd_var 6) pad_nil)))))))) (sds_one (sd_asg false (i := 4) sc__law_due.nd (pd_fz (pf_lst (pad_cons (pd_var 6) pad_nil))))))) sds_nil))) (sds_cons (sd_asg false (i := 5) sc__law_due.nd pd_int) (sds_cons (sd_for (passes_of rfl) rfl (id_seq (pd_var 4)) (gd_name sc__law_due.nd) (sds_cons (sd_asg false (i := 7) sc__law_due.nd (pd_call (ps := ["n", "rules", "case"]) (takes_of rfl rfl rfl rfl) hr (by decide) (w__law_meet T) T.m__law_meet T.F__law_meet.kp T.b__law_meet (pad_cons (pd_var 0) (pad_cons (pd_var 1) (pad_cons (pd_var 6) pad_nil))))) (sds_one (sd_if (ptd_w (pwd_or (ptd_cmp (op_notinA (u65 hr)) od_notin (pd_sl (pd_var 3) pod_none (pod_some pd_int)) (pd_tup (pad_cons pd_str (pad_cons pd_str pad_nil))) (by first | exact nomark _ | rfl)) (pwd_or1 (ptd_cmp (op_eqD hr.units) od_eq (pd_bin op_and od_and (pd_var 6) (pd_var 7)) (pd_var 6) (by first | exact nomark _ | rfl))))) (sds_cons (sd_if (ptd_cmp (op_eqD hr.units) od_eq (pd_ix (pd_var 3) (pd_neg pd_int)) pd_str (by first | exact nomark _ | rfl)) (sds_one (sd_asg false (i := 7) sc__law_due.nd (pd_bin op_and od_and (pd_var 7) (pd_var 6)))) sds_nil) (sds_one (sd_asg false (i := 5) sc__law_due.nd (pd_bin op_or od_orr (pd_var 5) (pd_var 7))))) sds_nil)))) (sds_one (sd_ret (pd_var 5)))))))
theorem sc__law_holds : FnScope ["n", "rules", "pair", "manner", "prop"] ["n", "rules", "pair", "manner"] (defScope s__law_holds) := ⟨rfl, rfl, rfl, by decide +kernel, rfl, by decide +kernel, by decide +kernel⟩
def g__law_holds : DEnv → SRes := (sSeq (sAsg false ([0] ++ ([1] ++ (([2] ++ []) ++ ([3] ++ [])))) 4 (eL (callN 4 m__law_due) (eCons (eVar 0) (eCons (eVar 1) (eCons (e2 dIx (eVar 2) (eC (.int 0))) (eCons (eVar 3) eNil)))))) (sRet (([4] ++ ([2] ++ [])) ++ [4]) (e2 dEq (e2 dAnd (eVar 4) (e2 dIx (eVar 2) (eC (.int 1)))) (eVar 4))))
def m__law_holds : List D → Res D := mOf 5 false g__law_holds
theorem w__law_holds (T : Tx P K mg A) : FnD P w K mg base 3 A.f__law_holds A.d__law_holds ["n", "rules", "pair", "manner"] false m__law_holds := fnd_of T.F__law_holds sc__law_holds fun cdv A outer s H E hr => (sds_cons (sd_asg false (i := 4) sc__law_holds.nd (pd_call (ps := ["n", "rules", "facts", "manner"]) (takes_of rfl rfl rfl rfl) hr (by decide) (w__law_due T) T.m__law_due T.F__law_due.kp T.b__law_due (pad_cons (pd_var 0) (pad_cons (pd_var 1) (pad_cons (pd_ix (pd_var 2) pd_int) (pad_cons (pd_var 3) pad_nil)))))) (sds_one (sd_ret (pd_cmp (op_eqD hr.units) od_eq (pd_bin op_and od_and (pd_var 4) (pd_ix (pd_var 2) pd_int)) (pd_var 4) (by first | exact nomark _ | rfl)))))
theorem sc_everything : FnScope ["n"] ["n"] (defScope s_everything) := ⟨rfl, rfl, rfl, by decide +kernel, rfl, by decide +kernel, by decide +kernel⟩
def g_everything : DEnv → SRes := (sRet (([] ++ ([] ++ [0])) ++ []) (e2 dSub (e2 dShl (eC (.int 1)) (e2 dShl (eC (.int 1)) (eVar 0))) (eC (.int 1))))
def m_everything : List D → Res D := mOf 1 false g_everything
theorem w_everything (T : Tx P K mg A) : FnD P w K mg base 1 A.f_everything A.d_everything ["n"] false m_everything := fnd_of T.F_everything sc_everything fun cdv A outer s H E hr => (sds_one (sd_ret (pd_bin op_sub od_sub (pd_bin op_shl od_shl pd_int (pd_bin op_shl od_shl pd_int (pd_var 0))) pd_int)))
theorem sc_is_prop : FnScope ["n", "prop"] ["n", "prop"] (defScope s_is_prop) := ⟨rfl, rfl, rfl, by decide +kernel, rfl, by decide +kernel, by decide +kernel⟩
def g_is_prop : DEnv → SRes := (sRet ([] ++ [1] ++ ([0] ++ [])) (eCh dLe dLe (eC (.int 0)) (eVar 1) (eL (callN 1 m_everything) (eCons (eVar 0) eNil))))
def m_is_prop : List D → Res D := mOf 2 false g_is_prop
theorem w_is_prop (T : Tx P K mg A) : FnD P w K mg base 2 A.f_is_prop A.d_is_prop ["n", "prop"] false m_is_prop := fnd_of T.F_is_prop sc_is_prop fun cdv A outer s H E hr => (sds_one (sd_ret (pd_chain op_le od_intb op_le od_intb pd_int (pd_var 1) (pd_call (ps := ["n"]) (takes_of rfl rfl rfl rfl) hr (by decide) (w_everything T) T.m_everything T.F_everything.kp T.b_everything (pad_cons (pd_var 0) pad_nil)))))
theorem sc_Seen_init : FnScope ["self", "n", "yes", "no", "pairs", "number", "facts", "claim"] ["self", "n", "yes", "no"] (defScope s_Seen_init) := ⟨rfl, rfl, rfl, by decide +kernel, rfl, by decide +kernel, by decide +kernel⟩
def b_Seen_init_1 : DEnv → SRes := (sSeq (sIf (eOr (eNot (eTru (eL (callN 2 m_is_prop) (eCons (eVar 1) (eCons (eVar 6) eNil))))) (eNot (eTru (eL (callN 2 m_is_prop) (eCons (eVar 1) (eCons (eVar 7) eNil)))))) (sRaise "BadVerdict" ["number"] (eCons (eVar 5) eNil)) sNil) (sApp false ([6] ++ ([7] ++ [])) 4 (eTup (eCons (eVar 6) (eCons (eVar 7) eNil)))))
def g_Seen_init : DEnv → SRes := (sSeq (sIf (eNot (eB (eCh dLe dLe (eC (.int 1)) (eVar 1) (eC (.int 4))))) (sRaise "BadCount" ["number"] (eCons (eVar 1) eNil)) sNil) (sSeq (sIf (eOr (eB (e2 dGt (eL bLen (eCons (eVar 2) eNil)) (eC (.int 8)))) (eB (e2 dGt (eL bLen (eCons (eVar 3) eNil)) (eC (.int 8))))) (sRaise "TooMany" ["limit"] (eCons (eC (.int 8)) eNil)) sNil) (sSeq (sAsgF false [] 4 (eLst eNil)) (sSeq (sFor (([2] ++ ([3] ++ [])) ++ []) ([5] ++ (([6] ++ ([7] ++ [])) ++ [])) (eL bEnumA (eCons (eFz (eLst (eStar (eVar 2) (eStar (eVar 3) eNil)))) eNil)) (gT 2 (gC g1 (gC (gT 2 (gC g1 (gC g1 gN))) gN))) b_Seen_init_1) (sSeq (sAttr false [1] ["Seen"] 0 "n" (eVar 1)) (sSeq (sAttr true (([4] ++ [] ++ ([2] ++ [])) ++ []) ["Seen"] 0 "yes" (eL bTuple (eCons (eFz (e3 dSlL (eVar 4) eNoP (eP (eL bLen (eCons (eVar 2) eNil))))) eNil))) (sAttr true (([4] ++ ([2] ++ []) ++ []) ++ []) ["Seen"] 0 "no" (eL bTuple (eCons (eFz (e3 dSlL (eVar 4) (eP (eL bLen (eCons (eVar 2) eNil))) eNoP)) eNil)))))))))
def m_Seen_init : List D → Res (List Str × List D) := mI 8 "Seen" g_Seen_init
theorem w_Seen_init (T : Tx P K mg A) : FnI P w K mg base 3 A.f_Seen_init A.d_Seen_init ["self", "n", "yes", "no"] A.c_Seen m_Seen_init := fni_of (c := "Seen") T.F_Seen_init sc_Seen_init T.g_Seen fun cdv A outer s H E hr => (sds_cons (sd_if (ptd_not (ptd_chain op_le od_intb op_le od_intb pd_int (pd_var 1) (pd_cval T.g_Book T.r_Book T.v_Book_MOST_LETTERS (fun _ => by constructor)))) (sds_one (sd_raise (ps := ["self", "number"]) rfl (takes_of rfl rfl rfl rfl) T.x_BadCount (x_BadCount T) hr (by decide) T.bx_BadCount rfl T.g_BadCount (pad_cons (pd_var 1) pad_nil))) sds_nil) (sds_cons (sd_if (ptd_w (pwd_or (ptd_cmp op_gt od_intb (pd_B call_lenA cd_len T.z_len (pad_cons (pd_var 2) pad_nil)) (pd_glob (v := (V.int 8)) T.kv_VERDICT_LIMIT ⟨_, rfl⟩ (fun _ => .int 8) rfl) (by first | exact nomark _ | rfl)) (pwd_or1 (ptd_cmp op_gt od_intb (pd_B call_lenA cd_len T.z_len (pad_cons (pd_var 3) pad_nil)) (pd_glob (v := (V.int 8)) T.kv_VERDICT_LIMIT ⟨_, rfl⟩ (fun _ => .int 8) rfl) (by first | exact nomark _ | rfl))))) (sds_one (sd_raise (ps := ["self", "limit"]) rfl (takes_of rfl rfl rfl rfl) T.x_TooMany (x_TooMany T) hr (by decide) T.bx_TooMany rfl T.g_TooMany (pad_cons (pd_glob (v := (V.int 8)) T.kv_VERDICT_LIMIT ⟨_, rfl⟩ (fun _ => .int 8) rfl) pad_nil))) sds_nil) (sds_cons (sd_asgF false (i := 4) sc_Seen_init.nd (pf_lst pad_nil)) (sds_cons (sd_for (passes_of rfl) rfl (id_enumA T.z_enumerate (pad_cons (pd_fz (pf_lst (pad_star (pd_var 2) (pad_star (pd_var 3) pad_nil)))) pad_nil)) (gd_tup rfl (gds_cons (gd_name sc_Seen_init.nd) (gds_cons (gd_tup rfl (gds_cons (gd_name sc_Seen_init.nd) (gds_cons (gd_name sc_Seen_init.nd) gds_nil))) gds_nil))) (sds_cons (sd_if (ptd_w (pwd_or (ptd_not (ptd_tru (pd_call (ps := ["n", "prop"]) (takes_of rfl rfl rfl rfl) hr (by decide) (w_is_prop T) T.m_is_prop T.F_is_prop.kp T.b_is_prop (pad_cons (pd_var 1) (pad_cons (pd_var 6) pad_nil))))) (pwd_or1 (ptd_not (ptd_tru (pd_call (ps := ["n", "prop"]) (takes_of rfl rfl rfl rfl) hr (by decide) (w_is_prop T) T.m_is_prop T.F_is_prop.kp T.b_is_prop (pad_cons (pd_var 1) (pad_cons (pd_var 7) pad_nil)))))))) (sds_one (sd_raise (ps := ["self", "number"]) rfl (takes_of rfl rfl rfl rfl) T.x_BadVerdict (x_BadVerdict T) hr (by decide) T.bx_BadVerdict rfl T.g_BadVerdict (pad_cons (pd_var 5) pad_nil))) sds_nil) (sds_one (sd_app false 4 (pd_tup (pad_cons (pd_var 6) (pad_cons (pd_var 7) pad_nil))))))) (sds_cons (sd_attr false ["Seen"] 0 (List.forall_mem_cons.2 ⟨⟨_, _, T.d_Seen, (.head _)⟩, (fun _ h => nomatch h)⟩) (pd_var 1)) (sds_cons (sd_attr true ["Seen"] 0 (List.forall_mem_cons.2 ⟨⟨_, _, T.d_Seen, (.tail _ (.head _))⟩, (fun _ h => nomatch h)⟩) (pd_T call_tuple_of cd_tuple T.z_tuple (pad_cons (pd_fz (pf_sl (pd_var 4) pod_none (pod_some (pd_B call_lenA cd_len T.z_len (pad_cons (pd_var 2) pad_nil))))) pad_nil))) (sds_one (sd_attr true ["Seen"] 0 (List.forall_mem_cons.2 ⟨⟨_, _, T.d_Seen, (.tail _ (.tail _ (.head _)))⟩, (fun _ h => nomatch h)⟩) (pd_T call_tuple_of cd_tuple T.z_tuple (pad_cons (pd_fz (pf_sl (pd_var 4) (pod_some (pd_B call_lenA cd_len T.z_len (pad_cons (pd_var 2) pad_nil))) pod_none)) pad_nil))))))))))
theorem sc_Book_init : FnScope ["self", "n", "rules", "kept", "number", "body", "head"] ["self", "n", "rules"] (defScope s_Book_init) := ⟨rfl, rfl, rfl, by decide +kernel, rfl, by decide +kernel, by decide +kernel⟩
def b_Book_init_1 : DEnv → SRes := (sSeq (sIf (eOr (eNot (eTru (eL (callN 2 m_is_prop) (eCons (eVar 1) (eCons (eVar 5) eNil))))) (eNot (eTru (eL (callN 2 m_is_prop) (eCons (eVar 1) (eCons (eVar 6) eNil)))))) (sRaise "BadRule" ["number"] (eCons (eVar 4) eNil)) sNil) (sApp false ([5] ++ ([6] ++ [])) 3 (eTup (eCons (eVar 5) (eCons (eVar 6) eNil)))))
def g_Book_init : DEnv → SRes := (sSeq (sIf (eNot (eB (eCh dLe dLe (eC (.int 1)) (eVar 1) (eC (.int 4))))) (sRaise "BadCount" ["number"] (eCons (eVar 1) eNil)) sNil) (sSeq (sIf (eB (e2 dGt (eL bLen (eCons (eVar 2) eNil)) (eC (.int 16)))) (sRaise "TooMany" ["limit"] (eCons (eC (.int 16)) eNil)) sNil) (sSeq (sAsgF false [] 3 (eLst eNil)) (sSeq (sFor ([2] ++ []) ([4] ++ (([5] ++ ([6] ++ [])) ++ [])) (eL bEnumA (eCons (eVar 2) eNil)) (gT 2 (gC g1 (gC (gT 2 (gC g1 (gC g1 gN))) gN))) b_Book_init_1) (sSeq (sAttr false [1] ["Book"] 0 "n" (eVar 1)) (sAttr true ([3] ++ []) ["Book"] 0 "rules" (eL bTuple (eCons (eVar 3) eNil))))))))
def m_Book_init : List D → Res (List Str × List D) := mI 7 "Book" g_Book_init
theorem w_Book_init (T : Tx P K mg A) : FnI P w K mg base 3 A.f_Book_init A.d_Book_init ["self", "n", "rules"] A.c_Book m_Book_init := fni_of (c := "Book") T.F_Book_init sc_Book_init T.g_Book fun cdv A outer s H E hr => (sds_cons (sd_if (ptd_not (ptd_chain op_le od_intb op_le od_intb pd_int (pd_var 1) (pd_cval T.g_Book T.r_Book T.v_Book_MOST_LETTERS (fun _ => by constructor)))) (sds_one (sd_raise (ps := ["self", "number"]) rfl (takes_of rfl rfl rfl rfl) T.x_BadCount (x_BadCount T) hr (by decide) T.bx_BadCount rfl T.g_BadCount (pad_cons (pd_var 1) pad_nil))) sds_nil) (sds_cons (sd_if (ptd_cmp op_gt od_intb (pd_B call_lenA cd_len T.z_len (pad_cons (pd_var 2) pad_nil)) (pd_cval T.g_Book T.r_Book T.v_Book_MOST_RULES (fun _ => by constructor)) (by first | exact nomark _ | rfl)) (sds_one (sd_raise (ps := ["self", "limit"]) rfl (takes_of rfl rfl rfl rfl) T.x_TooMany (x_TooMany T) hr (by decide) T.bx_TooMany rfl T.g_TooMany (pad_cons (pd_cval T.g_Book T.r_Book T.v_Book_MOST_RULES (fun _ => by constructor)) pad_nil))) sds_nil) (sds_cons (sd_asgF false (i := 3) sc_Book_init.nd (pf_lst pad_nil)) (sds_cons (sd_for (passes_of rfl) rfl (id_enumA T.z_enumerate (pad_cons (pd_var 2) pad_nil)) (gd_tup rfl (gds_cons (gd_name sc_Book_init.nd) (gds_cons (gd_tup rfl (gds_cons (gd_name sc_Book_init.nd) (gds_cons (gd_name sc_Book_init.nd) gds_nil))) gds_nil))) (sds_cons (sd_if (ptd_w (pwd_or (ptd_not (ptd_tru (pd_call (ps := ["n", "prop"]) (takes_of rfl rfl rfl rfl) hr (by decide) (w_is_prop T) T.m_is_prop T.F_is_prop.kp T.b_is_prop (pad_cons (pd_var 1) (pad_cons (pd_var 5) pad_nil))))) (pwd_or1 (ptd_not (ptd_tru (pd_call (ps := ["n", "prop"]) (takes_of rfl rfl rfl rfl) hr (by decide) (w_is_prop T) T.m_is_prop T.F_is_prop.kp T.b_is_prop (pad_cons (pd_var 1) (pad_cons (pd_var 6) pad_nil)))))))) (sds_one (sd_raise (ps := ["self", "number"]) rfl (takes_of rfl rfl rfl rfl) T.x_BadRule (x_BadRule T) hr (by decide) T.bx_BadRule rfl T.g_BadRule (pad_cons (pd_var 4) pad_nil))) sds_nil) (sds_one (sd_app false 3 (pd_tup (pad_cons (pd_var 5) (pad_cons (pd_var 6) pad_nil))))))) (sds_cons (sd_attr false ["Book"] 0 (List.forall_mem_cons.2 ⟨⟨_, _, T.d_Book, (.head _)⟩, (fun _ h => nomatch h)⟩) (pd_var 1)) (sds_one (sd_attr true ["Book"] 0 (List.forall_mem_cons.2 ⟨⟨_, _, T.d_Book, (.tail _ (.head _))⟩, (fun _ h => nomatch h)⟩) (pd_T call_tuple_of cd_tuple T.z_tuple (pad_cons (pd_var 3) pad_nil)))))))))
theorem sc_within : FnScope ["first", "second"] ["first", "second"] (defScope s_within) := ⟨rfl, rfl, rfl, by decide +kernel, rfl, by decide +kernel, by decide +kernel⟩
def g_within : DEnv → SRes := (sRet (([0] ++ [1]) ++ [0]) (e2 dEq (e2 dAnd (eVar 0) (eVar 1)) (eVar 0)))
def m_within : List D → Res D := mOf 2 false g_within
theorem w_within (T : Tx P K mg A) : FnD P w K mg base 1 A.f_within A.d_within ["first", "second"] false m_within := fnd_of T.F_within sc_within fun cdv A outer s H E hr => (sds_one (sd_ret (pd_cmp (op_eqD hr.units) od_eq (pd_bin op_and od_and (pd_var 0) (pd_var 1)) (pd_var 0) (by first | exact nomark _ | rfl))))
theorem sc_switches : FnScope ["manner", "plain"] ["manner"] (defScope s_switches) := ⟨rfl, rfl, rfl, by decide +kernel, rfl, by decide +kernel, by decide +kernel⟩
def g_switches : DEnv → SRes := (sSeq (sIf (eB (e2 dNotIn (eVar 0) (eC (.tup k_MANNERS)))) (sRaise "UnknownManner" ["manner"] (eCons (eVar 0) eNil)) sNil) (sSeq (sAsg false ([0] ++ ([] ++ [])) 1 (eM mRemoveSuffix (eVar 0) (eCons (eC (.str "+")) eNil))) (sRet (([1] ++ ([] ++ ([] ++ []))) ++ (([1] ++ ([] ++ ([] ++ []))) ++ (([1] ++ [0]) ++ []))) (eTup (eCons (e2 dIn (eVar 1) (eTup (eCons (eC (.str "cases")) (eCons (eC (.str "both")) eNil)))) (eCons (e2 dIn (eVar 1) (eTup (eCons (eC (.str "steps")) (eCons (eC (.str "both")) eNil)))) (eCons (e2 dNe (eVar 1) (eVar 0)) eNil)))))))
def m_switches : List D → Res D := mOf 2 false g_switches
theorem w_switches (T : Tx P K mg A) : FnD P w K mg base 3 A.f_switches A.d_switches ["manner"] false m_switches := fnd_of T.F_switches sc_switches fun cdv A outer s H E hr => (sds_cons (sd_if (ptd_cmp (op_notinA (u65 hr)) od_notin (pd_var 0) (pd_ktup T.k_MANNERS) (by first | exact nomark _ | rfl)) (sds_one (sd_raise (ps := ["self", "manner"]) rfl (takes_of rfl rfl rfl rfl) T.x_UnknownManner (x_UnknownManner T) hr (by decide) T.bx_UnknownManner rfl T.g_UnknownManner (pad_cons (pd_var 0) pad_nil))) sds_nil) (sds_cons (sd_asg false (i := 1) sc_switches.nd (pd_m PySem.F.slot_str_removesuffix PySem.F.type_str_removesuffix mt_removesuffix md_removesuffix (pd_var 0) (pad_cons pd_str pad_nil))) (sds_one (sd_ret (pd_tup (pad_cons (pd_cmp (op_inA (u65 hr)) od_in (pd_var 1) (pd_tup (pad_cons pd_str (pad_cons pd_str pad_nil))) (by first | exact nomark _ | rfl)) (pad_cons (pd_cmp (op_inA (u65 hr)) od_in (pd_var 1) (pd_tup (pad_cons pd_str (pad_cons pd_str pad_nil))) (by first | exact nomark _ | rfl)) (pad_cons (pd_cmp (op_neD hr.units) od_ne (pd_var 1) (pd_var 0) (by first | exact nomark _ | rfl)) pad_nil))))))))
theorem sc_Book_iter : FnScope ["self"] ["self"] (defScope s_Book_iter) := ⟨rfl, rfl, rfl, by decide +kernel, rfl, by decide +kernel, by decide +kernel⟩
theorem w_Book_iter (T : Tx P K mg A) : FnS P w K mg base 1 A.f_Book_iter A.d_Book_iter ["self"] (spIt K A.c_Book "rules") := fnit_of (k := 0) T.F_Book_iter sc_Book_iter T.d_Book (.tail _ (.head _)) T.z_iter fun cdv A outer s H E => pss_one (ps_ret (pe_callB call_iterT (by rfl) T.z_iter (by decide +kernel) (pa_cons (pe_fld (pv 0) rfl) pa_nil)))
theorem sc_meet_heads : FnScope ["book", "case", "prop", "body", "head"] ["book", "case"] (defScope s_meet_heads) := ⟨rfl, rfl, rfl, by decide +kernel, rfl, by decide +kernel, by decide +kernel⟩
def b_meet_heads_1 : DEnv → SRes := (sIf (eB (e2 dEq (e2 dAnd (eVar 1) (eVar 3)) (eVar 1))) (sAsg false ([2] ++ [4]) 2 (e2 dAnd (eVar 2) (eVar 4))) sNil)
def g_meet_heads : DEnv → SRes := (sSeq (sAsg false ([0] ++ []) 2 (eL (callN 1 m_everything) (eCons (e1 (dFld ["Book", "Seen", "Table"] "n") (eVar 0)) eNil))) (sSeq (sFor [0] ([3] ++ ([4] ++ [])) (e1 (itO "Book" "rules") (eVar 0)) (gT 2 (gC g1 (gC g1 gN))) b_meet_heads_1) (sRet [2] (eVar 2))))
def m_meet_heads : List D → Res D := mOf 5 false g_meet_heads
theorem w_meet_heads (T : Tx P K mg A) : FnD P w K mg base 2 A.f_meet_heads A.d_meet_heads ["book", "case"] false m_meet_heads := fnd_of T.F_meet_heads sc_meet_heads fun cdv A outer s H E hr => (sds_cons (sd_asg false (i := 2) sc_meet_heads.nd (pd_call (ps := ["n"]) (takes_of rfl rfl rfl rfl) hr (by decide) (w_everything T) T.m_everything T.F_everything.kp T.b_everything (pad_cons (pd_fld ["Book", "Seen", "Table"] (List.forall_mem_cons.2 ⟨⟨_, _, T.d_Book, (.head _)⟩, (List.forall_mem_cons.2 ⟨⟨_, _, T.d_Seen, (.head _)⟩, (List.forall_mem_cons.2 ⟨⟨_, _, T.d_Table, (.head _)⟩, (fun _ h => nomatch h)⟩)⟩)⟩) (pd_var 0)) pad_nil))) (sds_cons (sd_for (passes_of rfl) rfl (id_own hr (by decide) T.g_Book T.it_Book T.itf_Book (w_Book_iter T) T.b_Book_iter (pd_var 0)) (gd_tup rfl (gds_cons (gd_name sc_meet_heads.nd) (gds_cons (gd_name sc_meet_heads.nd) gds_nil))) (sds_one (sd_if (ptd_cmp (op_eqD hr.units) od_eq (pd_bin op_and od_and (pd_var 1) (pd_var 3)) (pd_var 1) (by first | exact nomark _ | rfl)) (sds_one (sd_asg false (i := 2) sc_meet_heads.nd (pd_bin op_and od_and (pd_var 2) (pd_var 4)))) sds_nil))) (sds_one (sd_ret (pd_var 2)))))
theorem sc_steps : GScope ["book", "facts", "prop", "smaller"] ["book", "facts"] (defScope s_steps) := ⟨rfl, rfl, rfl, by decide +kernel, rfl, by decide +kernel, by decide +kernel⟩
def c_steps_1 : DEnv → Res Bool := (eB (e2 dNe (eVar 3) (eVar 2)))
def b_steps_1 : DEnv → GRes := (gSeq (gPl (sAsg false [3] 2 (eVar 3))) (gSeq (gPl (sAsg false ([2] ++ ([0] ++ ([2] ++ []))) 3 (e2 dAnd (eVar 2) (eL (callN 2 m_meet_heads) (eCons (eVar 0) (eCons (eVar 2) eNil)))))) (gSeq (gYd false [2] (eVar 2)) gNil)))
def g_steps : DEnv → GRes := (gSeq (gPl (sAsg false [1] 2 (eVar 1))) (gSeq (gPl (sAsg false ([2] ++ ([0] ++ ([2] ++ []))) 3 (e2 dAnd (eVar 2) (eL (callN 2 m_meet_heads) (eCons (eVar 0) (eCons (eVar 2) eNil)))))) (gSeq (gYd false [2] (eVar 2)) (gSeq (gWh c_steps_1 b_steps_1 1000) gNil))))
def m_steps : List D → Res (List D) := mG 4 g_steps
theorem w_steps (T : Tx P K mg A) : FnG P w K mg base 3 A.f_steps A.d_steps ["book", "facts"] m_steps := fng_of T.F_steps sc_steps fun cdv A outer s H E pn hr => (gsds_cons (gsd_pl (sd_asg false (i := 2) sc_steps.nd (pd_var 1))) (gsds_cons (gsd_pl (sd_asg false (i := 3) sc_steps.nd (pd_bin op_and od_and (pd_var 2) (pd_call (ps := ["book", "case"]) takes_gcx hr (by decide) (w_meet_heads T) T.m_meet_heads T.F_meet_heads.kp T.b_meet_heads (pad_cons (pd_var 0) (pad_cons (pd_var 2) pad_nil)))))) (gsds_cons (gsd_yield false (pd_var 2)) (gsds_cons (gsd_while 1000 owns_gcx (ptd_cmp (op_neD hr.units) od_ne (pd_var 3) (pd_var 2) (by first | exact nomark _ | rfl)) (gsds_cons (gsd_pl (sd_asg false (i := 2) sc_steps.nd (pd_var 3))) (gsds_cons (gsd_pl (sd_asg false (i := 3) sc_steps.nd (pd_bin op_and od_and (pd_var 2) (pd_call (ps := ["book", "case"]) takes_gcx hr (by decide) (w_meet_heads T) T.m_meet_heads T.F_meet_heads.kp T.b_meet_heads (pad_cons (pd_var 0) (pad_cons (pd_var 2) pad_nil)))))) (gsds_cons (gsd_yield false (pd_var 2)) gsds_nil)))) gsds_nil))))
theorem sc_settle : FnScope ["book", "facts"] ["book", "facts"] (defScope s_settle) := ⟨rfl, rfl, rfl, by decide +kernel, rfl, by decide +kernel, by decide +kernel⟩
def g_settle : DEnv → SRes := (sRet (([0] ++ ([1] ++ [])) ++ []) (e2 dIx (eFz (eL (callG 2 m_steps) (eCons (eVar 0) (eCons (eVar 1) eNil)))) (e1 dNeg (eC (.int 1)))))
def m_settle : List D → Res D := mOf 2 false g_settle
theorem w_settle (T : Tx P K mg A) : FnD P w K mg base 7 A.f_settle A.d_settle ["book", "facts"] false m_settle := fnd_of T.F_settle sc_settle fun cdv A outer s H E hr => (sds_one (sd_ret (pd_ix (pd_fz (pf_listG (ps := ["book", "facts"]) hr (by decide) (w_steps T) T.m_steps T.F_steps.kp T.b_steps T.z_list (pad_cons (pd_var 0) (pad_cons (pd_var 1) pad_nil)))) (pd_neg pd_int))))
theorem sc_output : FnScope ["book", "case", "manner", "prop"] ["book", "case", "manner"] (defScope s_output) := ⟨rfl, rfl, rfl, by decide +kernel, rfl, by decide +kernel, by decide +kernel⟩
def g_output : DEnv → SRes := (sSeq (sAsg false ([0] ++ ([1] ++ [])) 3 (eL (callN 2 m_meet_heads) (eCons (eVar 0) (eCons (eVar 1) eNil)))) (sSeq (sIf (eTru (e2 dIx (eL (callN 1 m_switches) (eCons (eVar 2) eNil)) (eC (.int 2)))) (sRet ([3] ++ [1]) (e2 dAnd (eVar 3) (eVar 1))) sNil) (sRet [3] (eVar 3))))
def m_output : List D → Res D := mOf 4 false g_output
theorem w_output (T : Tx P K mg A) : FnD P w K mg base 4 A.f_output A.d_output ["book", "case", "manner"] false m_output := fnd_of T.F_output sc_output fun cdv A outer s H E hr => (sds_cons (sd_asg false (i := 3) sc_output.nd (pd_call (ps := ["book", "case"]) (takes_of rfl rfl rfl rfl) hr (by decide) (w_meet_heads T) T.m_meet_heads T.F_meet_heads.kp T.b_meet_heads (pad_cons (pd_var 0) (pad_cons (pd_var 1) pad_nil)))) (sds_cons (sd_if (ptd_tru (pd_ix (pd_call (ps := ["manner"]) (takes_of rfl rfl rfl rfl) hr (by decide) (w_switches T) T.m_switches T.F_switches.kp T.b_switches (pad_cons (pd_var 2) pad_nil)) pd_int)) (sds_one (sd_ret (pd_bin op_and od_and (pd_var 3) (pd_var 1)))) sds_nil) (sds_one (sd_ret (pd_var 3)))))
theorem sc_worlds_of : FnScope ["prop", "worlds", "world"] ["prop"] (defScope s_worlds_of) := ⟨rfl, rfl, rfl, by decide +kernel, rfl, by decide +kernel, by decide +kernel⟩
def c_worlds_of_1 : DEnv → Res Bool := (eB (e2 dGt (eVar 0) (eC (.int 0))))
def b_worlds_of_1 : DEnv → SRes := (sSeq (sIf (eB (e2 dEq (e2 dAnd (eVar 0) (eC (.int 1))) (eC (.int 1)))) (sApp false [2] 1 (eVar 2)) sNil) (sSeq (sAsg false ([0] ++ []) 0 (e2 dShr (eVar 0) (eC (.int 1)))) (sAsg false ([2] ++ []) 2 (e2 dAdd (eVar 2) (eC (.int 1))))))
def g_worlds_of : DEnv → SRes := (sSeq (sAsgF false [] 1 (eLst eNil)) (sSeq (sAsg false [] 2 (eC (.int 0))) (sSeq (whL c_worlds_of_1 b_worlds_of_1 1000) (sRetO 1))))
def m_worlds_of : List D → Res D := mOf 3 true g_worlds_of
theorem w_worlds_of (T : Tx P K mg A) : FnD P w K mg base 1 A.f_worlds_of A.d_worlds_of ["prop"] true m_worlds_of := fnd_of T.F_worlds_of sc_worlds_of fun cdv A outer s H E hr => (sds_cons (sd_asgF false (i := 1) sc_worlds_of.nd (pf_lst pad_nil)) (sds_cons (sd_asg false (i := 2) sc_worlds_of.nd pd_int) (sds_cons (sd_while 1000 (passes_of rfl) (ptd_cmp op_gt od_intb (pd_var 0) pd_int (by first | exact nomark _ | rfl)) (sds_cons (sd_if (ptd_cmp (op_eqD hr.units) od_eq (pd_bin op_and od_and (pd_var 0) pd_int) pd_int (by first | exact nomark _ | rfl)) (sds_one (sd_app false 1 (pd_var 2))) sds_nil) (sds_cons (sd_asg false (i := 0) sc_worlds_of.nd (pd_bin op_shr od_shr (pd_var 0) pd_int)) (sds_one (sd_asg false (i := 2) sc_worlds_of.nd (pd_bin op_addA od_add (pd_var 2) pd_int)))))) (sds_one (sd_retO 1)))))
theorem sc_is_stable : FnScope ["book", "case"] ["book", "case"] (defScope s_is_stable) := ⟨rfl, rfl, rfl, by decide +kernel, rfl, by decide +kernel, by decide +kernel⟩
def g_is_stable : DEnv → SRes := (sRet ([1] ++ (([0] ++ ([1] ++ [])) ++ [])) (eL (callN 2 m_within) (eCons (eVar 1) (eCons (eL (callN 2 m_meet_heads) (eCons (eVar 0) (eCons (eVar 1) eNil))) eNil))))
def m_is_stable : List D → Res D := mOf 2 false g_is_stable
theorem w_is_stable (T : Tx P K mg A) : FnD P w K mg base 3 A.f_is_stable A.d_is_stable ["book", "case"] false m_is_stable := fnd_of T.F_is_stable sc_is_stable fun cdv A outer s H E hr => (sds_one (sd_ret (pd_call (ps := ["first", "second"]) (takes_of rfl rfl rfl rfl) hr (by decide) (w_within T) T.m_within T.F_within.kp T.b_within (pad_cons (pd_var 1) (pad_cons (pd_call (ps := ["book", "case"]) (takes_of rfl rfl rfl rfl) hr (by decide) (w_meet_heads T) T.m_meet_heads T.F_meet_heads.kp T.b_meet_heads (pad_cons (pd_var 0) (pad_cons (pd_var 1) pad_nil))) pad_nil)))))
theorem sc_due : FnScope ["book", "facts", "manner", "prop", "world", "by_cases", "in_steps", "_", "case"] ["book", "facts", "manner"] (defScope s_due) := ⟨rfl, rfl, rfl, by decide +kernel, rfl, by decide +kernel, by decide +kernel⟩
def b_due_1 : DEnv → SRes := (sSeq (sAsg false ([] ++ [4]) 8 (e2 dShl (eC (.int 1)) (eVar 4))) (sIf (eOr (eNot (eTru (eVar 6))) (eTru (eL (callN 2 m_is_stable) (eCons (eVar 0) (eCons (eVar 8) eNil))))) (sAsg false ([3] ++ ([0] ++ ([8] ++ ([2] ++ [])))) 3 (e2 dOr (eVar 3) (eL (callN 3 m_output) (eCons (eVar 0) (eCons (eVar 8) (eCons (eVar 2) eNil)))))) sNil))
def g_due : DEnv → SRes := (sSeq (sTgt false ([2] ++ []) ([5] ++ ([6] ++ ([7] ++ []))) (gT 3 (gC g1 (gC g1 (gC g1 gN)))) (eL (callN 1 m_switches) (eCons (eVar 2) eNil))) (sSeq (sIf (eNot (eTru (eVar 5))) (sSeq (sAsg false ([6] ++ ([0] ++ ([1] ++ [])) ++ [1]) 8 (eIf (eTru (eVar 6)) (eL (callN 2 m_settle) (eCons (eVar 0) (eCons (eVar 1) eNil))) (eVar 1))) (sRet ([0] ++ ([8] ++ ([2] ++ []))) (eL (callN 3 m_output) (eCons (eVar 0) (eCons (eVar 8) (eCons (eVar 2) eNil)))))) sNil) (sSeq (sAsg false ([0] ++ ([] ++ ([2] ++ []))) 3 (eL (callN 3 m_output) (eCons (eVar 0) (eCons (eC (.int 0)) (eCons (eVar 2) eNil))))) (sSeq (sFor ([1] ++ []) [4] (eL (callF 1 m_worlds_of) (eCons (eVar 1) eNil)) g1 b_due_1) (sRet [3] (eVar 3))))))
def m_due : List D → Res D := mOf 9 false g_due
theorem w_due (T : Tx P K mg A) : FnD P w K mg base 8 A.f_due A.d_due ["book", "facts", "manner"] false m_due := fnd_of T.F_due sc_due fun cdv A outer s H E hr => (sds_cons (sd_tgt false (pd_call (ps := ["manner"]) (takes_of rfl rfl rfl rfl) hr (by decide) (w_switches T) T.m_switches T.F_switches.kp T.b_switches (pad_cons (pd_var 2) pad_nil)) (gd_tup rfl (gds_cons (gd_name sc_due.nd) (gds_cons (gd_name sc_due.nd) (gds_cons (gd_name sc_due.nd) gds_nil))))) (sds_cons (sd_if (ptd_not (ptd_tru (pd_var 5))) (sds_cons (sd_asg false (i := 8) sc_due.nd (pd_if (ptd_tru (pd_var 6)) (pd_call (ps := ["book", "facts"]) (takes_of rfl rfl rfl rfl) hr (by decide) (w_settle T) T.m_settle T.F_settle.kp T.b_settle (pad_cons (pd_var 0) (pad_cons (pd_var 1) pad_nil))) (pd_var 1))) (sds_one (sd_ret (pd_call (ps := ["book", "case", "manner"]) (takes_of rfl rfl rfl rfl) hr (by decide) (w_output T) T.m_output T.F_output.kp T.b_output (pad_cons (pd_var 0) (pad_cons (pd_var 8) (pad_cons (pd_var 2) pad_nil))))))) sds_nil) (sds_cons (sd_asg false (i := 3) sc_due.nd (pd_call (ps := ["book", "case", "manner"]) (takes_of rfl rfl rfl rfl) hr (by decide) (w_output T) T.m_output T.F_output.kp T.b_output (pad_cons (pd_var 0) (pad_cons pd_int (pad_cons (pd_var 2) pad_nil))))) (sds_cons (sd_for (passes_of rfl) rfl (id_new (pf_call (ps := ["prop"]) (takes_of rfl rfl rfl rfl) hr (by decide) (w_worlds_of T) T.m_worlds_of T.F_worlds_of.kp T.b_worlds_of (pad_cons (pd_var 1) pad_nil))) (gd_name sc_due.nd) (sds_cons (sd_asg false (i := 8) sc_due.nd (pd_bin op_shl od_shl pd_int (pd_var 4))) (sds_one (sd_if (ptd_w (pwd_or (ptd_not (ptd_tru (pd_var 6))) (pwd_or1 (ptd_tru (pd_call (ps := ["book", "case"]) (takes_of rfl rfl rfl rfl) hr (by decide) (w_is_stable T) T.m_is_stable T.F_is_stable.kp T.b_is_stable (pad_cons (pd_var 0) (pad_cons (pd_var 8) pad_nil))))))) (sds_one (sd_asg false (i := 3) sc_due.nd (pd_bin op_or od_orr (pd_var 3) (pd_call (ps := ["book", "case", "manner"]) (takes_of rfl rfl rfl rfl) hr (by decide) (w_output T) T.m_output T.F_output.kp T.b_output (pad_cons (pd_var 0) (pad_cons (pd_var 8) (pad_cons (pd_var 2) pad_nil))))))) sds_nil)))) (sds_one (sd_ret (pd_var 3)))))))
theorem sc_is_due : FnScope ["book", "facts", "claim", "manner"] ["book", "facts", "claim", "manner"] (defScope s_is_due) := ⟨rfl, rfl, rfl, by decide +kernel, rfl, by decide +kernel, by decide +kernel⟩
def g_is_due : DEnv → SRes := (sRet (([0] ++ ([1] ++ ([3] ++ []))) ++ ([2] ++ [])) (eL (callN 2 m_within) (eCons (eL (callN 3 m_due) (eCons (eVar 0) (eCons (eVar 1) (eCons (eVar 3) eNil)))) (eCons (eVar 2) eNil))))
def m_is_due : List D → Res D := mOf 4 false g_is_due
theorem w_is_due (T : Tx P K mg A) : FnD P w K mg base 9 A.f_is_due A.d_is_due ["book", "facts", "claim", "manner"] false m_is_due := fnd_of T.F_is_due sc_is_due fun cdv A outer s H E hr => (sds_one (sd_ret (pd_call (ps := ["first", "second"]) (takes_of rfl rfl rfl rfl) hr (by decide) (w_within T) T.m_within T.F_within.kp T.b_within (pad_cons (pd_call (ps := ["book", "facts", "manner"]) (takes_of rfl rfl rfl rfl) hr (by decide) (w_due T) T.m_due T.F_due.kp T.b_due (pad_cons (pd_var 0) (pad_cons (pd_var 1) (pad_cons (pd_var 3) pad_nil)))) (pad_cons (pd_var 2) pad_nil)))))
theorem sc_first_due : FnScope ["book", "pairs", "manner", "number", "facts", "claim"] ["book", "pairs", "manner"] (defScope s_first_due) := ⟨rfl, rfl, rfl, by decide +kernel, rfl, by decide +kernel, by decide +kernel⟩
def b_first_due_1 : DEnv → SRes := (sIf (eTru (eL (callN 4 m_is_due) (eCons (eVar 0) (eCons (eVar 4) (eCons (eVar 5) (eCons (eVar 2) eNil)))))) (sRet [3] (eVar 3)) sNil)
def g_first_due : DEnv → SRes := (sSeq (sFor ([1] ++ []) ([3] ++ (([4] ++ ([5] ++ [])) ++ [])) (eL bEnumA (eCons (eVar 1) eNil)) (gT 2 (gC g1 (gC (gT 2 (gC g1 (gC g1 gN))) gN))) b_first_due_1) (sRet [] (eC .non)))
def m_first_due : List D → Res D := mOf 6 false g_first_due
theorem w_first_due (T : Tx P K mg A) : FnD P w K mg base 10 A.f_first_due A.d_first_due ["book", "pairs", "manner"] false m_first_due := fnd_of T.F_first_due sc_first_due fun cdv A outer s H E hr => (sds_cons (sd_for (passes_of rfl) rfl (id_enumA T.z_enumerate (pad_cons (pd_var 1) pad_nil)) (gd_tup rfl (gds_cons (gd_name sc_first_due.nd) (gds_cons (gd_tup rfl (gds_cons (gd_name sc_first_due.nd) (gds_cons (gd_name sc_first_due.nd) gds_nil))) gds_nil))) (sds_one (sd_if (ptd_tru (pd_call (ps := ["book", "facts", "claim", "manner"]) (takes_of rfl rfl rfl rfl) hr (by decide) (w_is_due T) T.m_is_due T.F_is_due.kp T.b_is_due (pad_cons (pd_var 0) (pad_cons (pd_var 4) (pad_cons (pd_var 5) (pad_cons (pd_var 2) pad_nil)))))) (sds_one (sd_ret (pd_var 3))) sds_nil))) (sds_one (sd_ret pd_non)))
theorem sc_conflict : FnScope ["seen", "manner", "book", "number", "facts", "claim"] ["seen", "manner"] (defScope s_conflict) := ⟨rfl, rfl, rfl, by decide +kernel, rfl, by decide +kernel, by decide +kernel⟩
def g_conflict : DEnv → SRes := (sSeq (sAsg false ([0] ++ ([0] ++ [])) 2 (eL (mkD "Book" 3 m_Book_init) (eCons (e1 (dFld ["Book", "Seen", "Table"] "n") (eVar 0)) (eCons (e1 (dFld ["Seen"] "yes") (eVar 0)) eNil)))) (sSeq (sAsg false ([2] ++ ([0] ++ ([1] ++ []))) 3 (eL (callN 3 m_first_due) (eCons (eVar 2) (eCons (e1 (dFld ["Seen"] "no") (eVar 0)) (eCons (eVar 1) eNil))))) (sSeq (sIf (eB (e2 dIsN (eVar 3) (eC .non))) (sRet [] (eC .non)) sNil) (sSeq (sTgt false ([0] ++ [3]) ([4] ++ ([5] ++ [])) (gT 2 (gC g1 (gC g1 gN))) (e2 dIx (e1 (dFld ["Seen"] "no") (eVar 0)) (eVar 3))) (sRet ([3] ++ ([] ++ [])) (eTup (eCons (eVar 3) (eCons eStk eNil))))))))
def m_conflict : List D → Res D := mOf 6 false g_conflict
theorem w_conflict (T : Tx P K mg A) : FnD P w K mg base 11 A.f_conflict A.d_conflict ["seen", "manner"] false m_conflict := fnd_of T.F_conflict sc_conflict fun cdv A outer s H E hr => (sds_cons (sd_asg false (i := 2) sc_conflict.nd (pd_make (ps := ["self", "n", "rules"]) (takes_of rfl rfl rfl rfl) hr (by decide) T.mk_Book (w_Book_init T) T.g_Book T.b_Book_init (pad_cons (pd_fld ["Book", "Seen", "Table"] (List.forall_mem_cons.2 ⟨⟨_, _, T.d_Book, (.head _)⟩, (List.forall_mem_cons.2 ⟨⟨_, _, T.d_Seen, (.head _)⟩, (List.forall_mem_cons.2 ⟨⟨_, _, T.d_Table, (.head _)⟩, (fun _ h => nomatch h)⟩)⟩)⟩) (pd_var 0)) (pad_cons (pd_fld ["Seen"] (List.forall_mem_cons.2 ⟨⟨_, _, T.d_Seen, (.tail _ (.head _))⟩, (fun _ h => nomatch h)⟩) (pd_var 0)) pad_nil)))) (sds_cons (sd_asg false (i := 3) sc_conflict.nd (pd_call (ps := ["book", "pairs", "manner"]) (takes_of rfl rfl rfl rfl) hr (by decide) (w_first_due T) T.m_first_due T.F_first_due.kp T.b_first_due (pad_cons (pd_var 2) (pad_cons (pd_fld ["Seen"] (List.forall_mem_cons.2 ⟨⟨_, _, T.d_Seen, (.tail _ (.tail _ (.head _)))⟩, (fun _ h => nomatch h)⟩) (pd_var 0)) (pad_cons (pd_var 1) pad_nil))))) (sds_cons (sd_if (ptd_cmp op_isN od_isN (pd_var 3) pd_non (by first | exact nomark _ | rfl)) (sds_one (sd_ret pd_non)) sds_nil) (sds_cons (sd_tgt false (pd_ix (pd_fld ["Seen"] (List.forall_mem_cons.2 ⟨⟨_, _, T.d_Seen, (.tail _ (.tail _ (.head _)))⟩, (fun _ h => nomatch h)⟩) (pd_var 0)) (pd_var 3)) (gd_tup rfl (gds_cons (gd_name sc_conflict.nd) (gds_cons (gd_name sc_conflict.nd) gds_nil)))) (sds_one (sd_ret (pd_tup (pad_cons (pd_var 3) (pad_cons pd_stk pad_nil)))))))))
theorem sc_fitting_book : FnScope ["seen", "manner", "book"] ["seen", "manner"] (defScope s_fitting_book) := ⟨rfl, rfl, rfl, by decide +kernel, rfl, by decide +kernel, by decide +kernel⟩
def g_fitting_book : DEnv → SRes := (sSeq (sAsg false ([0] ++ ([0] ++ [])) 2 (eL (mkD "Book" 3 m_Book_init) (eCons (e1 (dFld ["Book", "Seen", "Table"] "n") (eVar 0)) (eCons (e1 (dFld ["Seen"] "yes") (eVar 0)) eNil)))) (sSeq (sIf (eB (e2 dIsN (eL (callN 3 m_first_due) (eCons (eVar 2) (eCons (e1 (dFld ["Seen"] "no") (eVar 0)) (eCons (eVar 1) eNil)))) (eC .non))) (sRet [2] (eVar 2)) sNil) (sRet [] (eC .non))))
def m_fitting_book : List D → Res D := mOf 3 false g_fitting_book
theorem w_fitting_book (T : Tx P K mg A) : FnD P w K mg base 11 A.f_fitting_book A.d_fitting_book ["seen", "manner"] false m_fitting_book := fnd_of T.F_fitting_book sc_fitting_book fun cdv A outer s H E hr => (sds_cons (sd_asg false (i := 2) sc_fitting_book.nd (pd_make (ps := ["self", "n", "rules"]) (takes_of rfl rfl rfl rfl) hr (by decide) T.mk_Book (w_Book_init T) T.g_Book T.b_Book_init (pad_cons (pd_fld ["Book", "Seen", "Table"] (List.forall_mem_cons.2 ⟨⟨_, _, T.d_Book, (.head _)⟩, (List.forall_mem_cons.2 ⟨⟨_, _, T.d_Seen, (.head _)⟩, (List.forall_mem_cons.2 ⟨⟨_, _, T.d_Table, (.head _)⟩, (fun _ h => nomatch h)⟩)⟩)⟩) (pd_var 0)) (pad_cons (pd_fld ["Seen"] (List.forall_mem_cons.2 ⟨⟨_, _, T.d_Seen, (.tail _ (.head _))⟩, (fun _ h => nomatch h)⟩) (pd_var 0)) pad_nil)))) (sds_cons (sd_if (ptd_cmp op_isN od_isN (pd_call (ps := ["book", "pairs", "manner"]) (takes_of rfl rfl rfl rfl) hr (by decide) (w_first_due T) T.m_first_due T.F_first_due.kp T.b_first_due (pad_cons (pd_var 2) (pad_cons (pd_fld ["Seen"] (List.forall_mem_cons.2 ⟨⟨_, _, T.d_Seen, (.tail _ (.tail _ (.head _)))⟩, (fun _ h => nomatch h)⟩) (pd_var 0)) (pad_cons (pd_var 1) pad_nil)))) pd_non (by first | exact nomark _ | rfl)) (sds_one (sd_ret (pd_var 2))) sds_nil) (sds_one (sd_ret pd_non))))
theorem sc__law_some : FnScope ["n", "rules", "pairs", "manner", "pair"] ["n", "rules", "pairs", "manner"] (defScope s__law_some) := ⟨rfl, rfl, rfl, by decide +kernel, rfl, by decide +kernel, by decide +kernel⟩
def l__law_some_1 : DEnv → Res D := (eL (callN 4 m__law_holds) (eCons (eVar 0) (eCons (eVar 1) (eCons (eVar 4) (eCons (eVar 3) eNil)))))
def g__law_some : DEnv → SRes := (sRet (([2] ++ minus ([] ++ ([0] ++ ([1] ++ ([4] ++ ([3] ++ []))))) [4]) ++ []) (eL bAny (eCons (eFz (eLc [4] (eIt (eVar 2)) g1 tYesD l__law_some_1)) eNil)))
def m__law_some : List D → Res D := mOf 5 false g__law_some
theorem w__law_some (T : Tx P K mg A) : FnD P w K mg base 4 A.f__law_some A.d__law_some ["n", "rules", "pairs", "manner"] false m__law_some := fnd_of T.F__law_some sc__law_some fun cdv A outer s H E hr => (sds_one (sd_ret (pd_B (cr_any rfl) cd_any T.z_any (pad_cons (pd_fz (pf_lc rfl sc__law_some.nd (id_seq (pd_var 2)) (blkOk_by (own := [("pair", 4)]) (by kernel_rfl)) rfl (fun s H C cl fp => (gd_name sc__law_some.nd)) (fun s H C cl fp => ptsd_nil) (fun s H C cl fp => (pd_call (ps := ["n", "rules", "pair", "manner"]) (by exact takes0) hr (by decide) (w__law_holds T) T.m__law_holds T.F__law_holds.kp T.b__law_holds (pad_cons (pd_var 0) (pad_cons (pd_var 1) (pad_cons (pd_var 4) (pad_cons (pd_var 3) pad_nil)))))))) pad_nil))))
theorem sc_Book_with_rule : FnScope ["self", "body", "head"] ["self", "body", "head"] (defScope s_Book_with_rule) := ⟨rfl, rfl, rfl, by decide +kernel, rfl, by decide +kernel, by decide +kernel⟩
def g_Book_with_rule : DEnv → SRes := (sRet ([0] ++ (([0] ++ (([1] ++ ([2] ++ [])) ++ [])) ++ [])) (eL (mkD "Book" 3 m_Book_init) (eCons (e1 (dFld ["Book", "Seen", "Table"] "n") (eVar 0)) (eCons (e2 dAdd (e1 (dFld ["Book"] "rules") (eVar 0)) (eTup (eCons (eTup (eCons (eVar 1) (eCons (eVar 2) eNil))) eNil))) eNil))))
def m_Book_with_rule : List D → Res D := mOf 3 false g_Book_with_rule
theorem w_Book_with_rule (T : Tx P K mg A) : FnD P w K mg base 5 A.f_Book_with_rule A.d_Book_with_rule ["self", "body", "head"] false m_Book_with_rule := fnd_of T.F_Book_with_rule sc_Book_with_rule fun cdv A outer s H E hr => (sds_one (sd_ret (pd_make (ps := ["self", "n", "rules"]) (takes_of rfl rfl rfl rfl) hr (by decide) T.mk_Book (w_Book_init T) T.g_Book T.b_Book_init (pad_cons (pd_fld ["Book", "Seen", "Table"] (List.forall_mem_cons.2 ⟨⟨_, _, T.d_Book, (.head _)⟩, (List.forall_mem_cons.2 ⟨⟨_, _, T.d_Seen, (.head _)⟩, (List.forall_mem_cons.2 ⟨⟨_, _, T.d_Table, (.head _)⟩, (fun _ h => nomatch h)⟩)⟩)⟩) (pd_var 0)) (pad_cons (pd_bin op_addA od_add (pd_fld ["Book"] (List.forall_mem_cons.2 ⟨⟨_, _, T.d_Book, (.tail _ (.head _))⟩, (fun _ h => nomatch h)⟩) (pd_var 0)) (pd_tup (pad_cons (pd_tup (pad_cons (pd_var 1) (pad_cons (pd_var 2) pad_nil))) pad_nil))) pad_nil)))))
theorem sc_status_by : FnScope ["book", "refused", "pair", "manner", "facts", "claim"] ["book", "refused", "pair", "manner"] (defScope s_status_by) := ⟨rfl, rfl, rfl, by decide +kernel, rfl, by decide +kernel, by decide +kernel⟩
def g_status_by : DEnv → SRes := (sSeq (sTgt false [2] ([4] ++ ([5] ++ [])) (gT 2 (gC g1 (gC g1 gN))) (eVar 2)) (sSeq (sIf (eTru (eL (callN 4 m_is_due) (eCons (eVar 0) (eCons (eVar 4) (eCons (eVar 5) (eCons (eVar 3) eNil)))))) (sRet [] (eC (.str "yes"))) sNil) (sSeq (sIf (eB (e2 dNotN (eL (callN 3 m_first_due) (eCons (eMth "Book" "with_rule" (callN 3 m_Book_with_rule) (eVar 0) (eCons (eVar 4) (eCons (eVar 5) eNil))) (eCons (eVar 1) (eCons (eVar 3) eNil)))) (eC .non))) (sRet [] (eC (.str "no"))) sNil) (sRet [] (eC (.str "open"))))))
def m_status_by : List D → Res D := mOf 6 false g_status_by
theorem w_status_by (T : Tx P K mg A) : FnD P w K mg base 11 A.f_status_by A.d_status_by ["book", "refused", "pair", "manner"] false m_status_by := fnd_of T.F_status_by sc_status_by fun cdv A outer s H E hr => (sds_cons (sd_tgt false (pd_var 2) (gd_tup rfl (gds_cons (gd_name sc_status_by.nd) (gds_cons (gd_name sc_status_by.nd) gds_nil)))) (sds_cons (sd_if (ptd_tru (pd_call (ps := ["book", "facts", "claim", "manner"]) (takes_of rfl rfl rfl rfl) hr (by decide) (w_is_due T) T.m_is_due T.F_is_due.kp T.b_is_due (pad_cons (pd_var 0) (pad_cons (pd_var 4) (pad_cons (pd_var 5) (pad_cons (pd_var 3) pad_nil)))))) (sds_one (sd_ret pd_str)) sds_nil) (sds_cons (sd_if (ptd_cmp op_notN od_notN (pd_call (ps := ["book", "pairs", "manner"]) (takes_of rfl rfl rfl rfl) hr (by decide) (w_first_due T) T.m_first_due T.F_first_due.kp T.b_first_due (pad_cons (pd_meth (ps := ["self", "body", "head"]) (takes_of rfl rfl rfl rfl) hr (by decide) T.d_Book T.mm_Book_with_rule (w_Book_with_rule T) T.b_Book_with_rule (pd_var 0) (pad_cons (pd_var 4) (pad_cons (pd_var 5) pad_nil))) (pad_cons (pd_var 1) (pad_cons (pd_var 3) pad_nil)))) pd_non (by first | exact nomark _ | rfl)) (sds_one (sd_ret pd_str)) sds_nil) (sds_one (sd_ret pd_str)))))
theorem sc_checked_book : FnScope ["seen", "manner", "book", "number"] ["seen", "manner"] (defScope s_checked_book) := ⟨rfl, rfl, rfl, by decide +kernel, rfl, by decide +kernel, by decide +kernel⟩
def g_checked_book : DEnv → SRes := (sSeq (sAsg false ([0] ++ ([0] ++ [])) 2 (eL (mkD "Book" 3 m_Book_init) (eCons (e1 (dFld ["Book", "Seen", "Table"] "n") (eVar 0)) (eCons (e1 (dFld ["Seen"] "yes") (eVar 0)) eNil)))) (sSeq (sAsg false ([2] ++ ([0] ++ ([1] ++ []))) 3 (eL (callN 3 m_first_due) (eCons (eVar 2) (eCons (e1 (dFld ["Seen"] "no") (eVar 0)) (eCons (eVar 1) eNil))))) (sSeq (sIf (eB (e2 dNotN (eVar 3) (eC .non))) (sRaise "NoFit" ["number"] (eCons (eVar 3) eNil)) sNil) (sRet [2] (eVar 2)))))
def m_checked_book : List D → Res D := mOf 4 false g_checked_book
theorem w_checked_book (T : Tx P K mg A) : FnD P w K mg base 11 A.f_checked_book A.d_checked_book ["seen", "manner"] false m_checked_book := fnd_of T.F_checked_book sc_checked_book fun cdv A outer s H E hr => (sds_cons (sd_asg false (i := 2) sc_checked_book.nd (pd_make (ps := ["self", "n", "rules"]) (takes_of rfl rfl rfl rfl) hr (by decide) T.mk_Book (w_Book_init T) T.g_Book T.b_Book_init (pad_cons (pd_fld ["Book", "Seen", "Table"] (List.forall_mem_cons.2 ⟨⟨_, _, T.d_Book, (.head _)⟩, (List.forall_mem_cons.2 ⟨⟨_, _, T.d_Seen, (.head _)⟩, (List.forall_mem_cons.2 ⟨⟨_, _, T.d_Table, (.head _)⟩, (fun _ h => nomatch h)⟩)⟩)⟩) (pd_var 0)) (pad_cons (pd_fld ["Seen"] (List.forall_mem_cons.2 ⟨⟨_, _, T.d_Seen, (.tail _ (.head _))⟩, (fun _ h => nomatch h)⟩) (pd_var 0)) pad_nil)))) (sds_cons (sd_asg false (i := 3) sc_checked_book.nd (pd_call (ps := ["book", "pairs", "manner"]) (takes_of rfl rfl rfl rfl) hr (by decide) (w_first_due T) T.m_first_due T.F_first_due.kp T.b_first_due (pad_cons (pd_var 2) (pad_cons (pd_fld ["Seen"] (List.forall_mem_cons.2 ⟨⟨_, _, T.d_Seen, (.tail _ (.tail _ (.head _)))⟩, (fun _ h => nomatch h)⟩) (pd_var 0)) (pad_cons (pd_var 1) pad_nil))))) (sds_cons (sd_if (ptd_cmp op_notN od_notN (pd_var 3) pd_non (by first | exact nomark _ | rfl)) (sds_one (sd_raise (ps := ["self", "number"]) rfl (takes_of rfl rfl rfl rfl) T.x_NoFit (x_NoFit T) hr (by decide) T.bx_NoFit rfl T.g_NoFit (pad_cons (pd_var 3) pad_nil))) sds_nil) (sds_one (sd_ret (pd_var 2))))))
theorem sc_status : FnScope ["seen", "facts", "claim", "manner"] ["seen", "facts", "claim", "manner"] (defScope s_status) := ⟨rfl, rfl, rfl, by decide +kernel, rfl, by decide +kernel, by decide +kernel⟩
def g_status : DEnv → SRes := (sRet (([0] ++ ([3] ++ [])) ++ ([0] ++ (([1] ++ ([2] ++ [])) ++ ([3] ++ [])))) (eL (callN 4 m_status_by) (eCons (eL (callN 2 m_checked_book) (eCons (eVar 0) (eCons (eVar 3) eNil))) (eCons (e1 (dFld ["Seen"] "no") (eVar 0)) (eCons (eTup (eCons (eVar 1) (eCons (eVar 2) eNil))) (eCons (eVar 3) eNil))))))
def m_status : List D → Res D := mOf 4 false g_status
theorem w_status (T : Tx P K mg A) : FnD P w K mg base 12 A.f_status A.d_status ["seen", "facts", "claim", "manner"] false m_status := fnd_of T.F_status sc_status fun cdv A outer s H E hr => (sds_one (sd_ret (pd_call (ps := ["book", "refused", "pair", "manner"]) (takes_of rfl rfl rfl rfl) hr (by decide) (w_status_by T) T.m_status_by T.F_status_by.kp T.b_status_by (pad_cons (pd_call (ps := ["seen", "manner"]) (takes_of rfl rfl rfl rfl) hr (by decide) (w_checked_book T) T.m_checked_book T.F_checked_book.kp T.b_checked_book (pad_cons (pd_var 0) (pad_cons (pd_var 3) pad_nil))) (pad_cons (pd_fld ["Seen"] (List.forall_mem_cons.2 ⟨⟨_, _, T.d_Seen, (.tail _ (.tail _ (.head _)))⟩, (fun _ h => nomatch h)⟩) (pd_var 0)) (pad_cons (pd_tup (pad_cons (pd_var 1) (pad_cons (pd_var 2) pad_nil))) (pad_cons (pd_var 3) pad_nil)))))))
theorem sc__law_status : FnScope ["n", "yes", "no", "pair", "manner"] ["n", "yes", "no", "pair", "manner"] (defScope s__law_status) := ⟨rfl, rfl, rfl, by decide +kernel, rfl, by decide +kernel, by decide +kernel⟩
def g__law_status : DEnv → SRes := (sSeq (sIf (eTru (eL (callN 4 m__law_holds) (eCons (eVar 0) (eCons (eVar 1) (eCons (eVar 3) (eCons (eVar 4) eNil)))))) (sRet [] (eC (.str "yes"))) sNil) (sSeq (sIf (eTru (eL (callN 4 m__law_some) (eCons (eVar 0) (eCons (eFz (e2 dCatL (eVar 1) (eFz (eLst (eCons (eVar 3) eNil))))) (eCons (eVar 2) (eCons (eVar 4) eNil)))))) (sRet [] (eC (.str "no"))) sNil) (sRet [] (eC (.str "open")))))
def m__law_status : List D → Res D := mOf 5 false g__law_status
theorem w__law_status (T : Tx P K mg A) : FnD P w K mg base 5 A.f__law_status A.d__law_status ["n", "yes", "no", "pair", "manner"] false m__law_status := fnd_of T.F__law_status sc__law_status fun cdv A outer s H E hr => (sds_cons (sd_if (ptd_tru (pd_call (ps := ["n", "rules", "pair", "manner"]) (takes_of rfl rfl rfl rfl) hr (by decide) (w__law_holds T) T.m__law_holds T.F__law_holds.kp T.b__law_holds (pad_cons (pd_var 0) (pad_cons (pd_var 1) (pad_cons (pd_var 3) (pad_cons (pd_var 4) pad_nil)))))) (sds_one (sd_ret pd_str)) sds_nil) (sds_cons (sd_if (ptd_tru (pd_call (ps := ["n", "rules", "pairs", "manner"]) (takes_of rfl rfl rfl rfl) hr (by decide) (w__law_some T) T.m__law_some T.F__law_some.kp T.b__law_some (pad_cons (pd_var 0) (pad_cons (pd_fz (pf_bin op_catS of_catL (pd_var 1) (pd_fz (pf_lst (pad_cons (pd_var 3) pad_nil))))) (pad_cons (pd_var 2) (pad_cons (pd_var 4) pad_nil)))))) (sds_one (sd_ret pd_str)) sds_nil) (sds_one (sd_ret pd_str))))
theorem sc_fitting_manners : FnScope ["seen", "book", "manner"] ["seen"] (defScope s_fitting_manners) := ⟨rfl, rfl, rfl, by decide +kernel, rfl, by decide +kernel, by decide +kernel⟩
def l_fitting_manners_1 : DEnv → Res D := (eVar 2)
def g_fitting_manners : DEnv → SRes := (sSeq (sAsg false ([0] ++ ([0] ++ [])) 1 (eL (mkD "Book" 3 m_Book_init) (eCons (e1 (dFld ["Book", "Seen", "Table"] "n") (eVar 0)) (eCons (e1 (dFld ["Seen"] "yes") (eVar 0)) eNil)))) (sRet (([] ++ minus ((([1] ++ ([0] ++ ([2] ++ []))) ++ []) ++ [2]) [2]) ++ []) (eL bTuple (eCons (eFz (eLc [2] (eIt (eC (.tup k_MANNERS))) g1 (eB (e2 dIsN (eL (callN 3 m_first_due) (eCons (eVar 1) (eCons (e1 (dFld ["Seen"] "no") (eVar 0)) (eCons (eVar 2) eNil)))) (eC .non))) l_fitting_manners_1)) eNil))))
def m_fitting_manners : List D → Res D := mOf 3 false g_fitting_manners
theorem w_fitting_manners (T : Tx P K mg A) : FnD P w K mg base 11 A.f_fitting_manners A.d_fitting_manners ["seen"] false m_fitting_manners := fnd_of T.F_fitting_manners sc_fitting_manners fun cdv A outer s H E hr => (sds_cons (sd_asg false (i := 1) sc_fitting_manners.nd (pd_make (ps := ["self", "n", "rules"]) (takes_of rfl rfl rfl rfl) hr (by decide) T.mk_Book (w_Book_init T) T.g_Book T.b_Book_init (pad_cons (pd_fld ["Book", "Seen", "Table"] (List.forall_mem_cons.2 ⟨⟨_, _, T.d_Book, (.head _)⟩, (List.forall_mem_cons.2 ⟨⟨_, _, T.d_Seen, (.head _)⟩, (List.forall_mem_cons.2 ⟨⟨_, _, T.d_Table, (.head _)⟩, (fun _ h => nomatch h)⟩)⟩)⟩) (pd_var 0)) (pad_cons (pd_fld ["Seen"] (List.forall_mem_cons.2 ⟨⟨_, _, T.d_Seen, (.tail _ (.head _))⟩, (fun _ h => nomatch h)⟩) (pd_var 0)) pad_nil)))) (sds_one (sd_ret (pd_T call_tuple_of cd_tuple T.z_tuple (pad_cons (pd_fz (pf_lc rfl sc_fitting_manners.nd (id_seq (pd_ktup T.k_MANNERS)) (blkOk_by (own := [("manner", 2)]) (by kernel_rfl)) rfl (fun s H C cl fp => (gd_name sc_fitting_manners.nd)) (fun s H C cl fp => (ptsd_one (ptd_cmp op_isN od_isN (pd_call (ps := ["book", "pairs", "manner"]) (by exact takes0) hr (by decide) (w_first_due T) T.m_first_due T.F_first_due.kp T.b_first_due (pad_cons (pd_var 1) (pad_cons (pd_fld ["Seen"] (List.forall_mem_cons.2 ⟨⟨_, _, T.d_Seen, (.tail _ (.tail _ (.head _)))⟩, (fun _ h => nomatch h)⟩) (pd_var 0)) (pad_cons (pd_var 2) pad_nil)))) pd_non (by first | exact nomark _ | rfl)))) (fun s H C cl fp => (pd_var 2)))) pad_nil)))))
theorem sc_selections : FnScope ["count", "found", "size", "chosen"] ["count"] (defScope s_selections) := ⟨rfl, rfl, rfl, by decide +kernel, rfl, by decide +kernel, by decide +kernel⟩
def b_selections_1 : DEnv → SRes := (sApp false [3] 1 (eVar 3))
def b_selections_2 : DEnv → SRes := (sForR [3] (eComb (eVar 0) (eVar 2)) g1 b_selections_1)
def g_selections : DEnv → SRes := (sSeq (sIf (eB (e2 dGt (eVar 0) (eC (.int 7)))) (sRaise "TooMany" ["limit"] (eCons (eC (.int 7)) eNil)) sNil) (sSeq (sAsgF false [] 1 (eLst eNil)) (sSeq (sForR [2] (eL rng1 (eCons (e2 dAdd (eVar 0) (eC (.int 1))) eNil)) g1 b_selections_2) (sRetO 1))))
def m_selections : List D → Res D := mOf 4 true g_selections
theorem w_selections (T : Tx P K mg A) : FnD P w K mg base 3 A.f_selections A.d_selections ["count"] true m_selections := fnd_of T.F_selections sc_selections fun cdv A outer s H E hr => (sds_cons (sd_if (ptd_cmp op_gt od_intb (pd_var 0) (pd_glob (v := (V.int 7)) T.kv_SELECTION_LIMIT ⟨_, rfl⟩ (fun _ => .int 7) rfl) (by first | exact nomark _ | rfl)) (sds_one (sd_raise (ps := ["self", "limit"]) rfl (takes_of rfl rfl rfl rfl) T.x_TooMany (x_TooMany T) hr (by decide) T.bx_TooMany rfl T.g_TooMany (pad_cons (pd_glob (v := (V.int 7)) T.kv_SELECTION_LIMIT ⟨_, rfl⟩ (fun _ => .int 7) rfl) pad_nil))) sds_nil) (sds_cons (sd_asgF false (i := 1) sc_selections.nd (pf_lst pad_nil)) (sds_cons (sd_forR (S := (([0] ++ []) ++ [])) (passes_of rfl) rfl (id_range1 T.z_range (pad_cons (pd_bin op_addA od_add (pd_var 0) pd_int) pad_nil)) (gd_name sc_selections.nd) (sds_one (sd_forR (S := ([0] ++ [2])) (passes_of rfl) rfl (id_comb rfl T.z_combinations T.z_range (pd_var 0) (pd_var 2)) (gd_name sc_selections.nd) (sds_one (sd_app false 1 (pd_var 3)))))) (sds_one (sd_retO 1)))))
theorem sc_rest : FnScope ["chosen", "count", "number"] ["chosen", "count"] (defScope s_rest) := ⟨rfl, rfl, rfl, by decide +kernel, rfl, by decide +kernel, by decide +kernel⟩
def l_rest_1 : DEnv → Res D := (eVar 2)
def g_rest : DEnv → SRes := (sRet ((([1] ++ []) ++ minus (([2] ++ [0]) ++ [2]) [2]) ++ []) (eL bTuple (eCons (eFz (eLc [2] (eL rng1 (eCons (eVar 1) eNil)) g1 (eB (e2 dNotIn (eVar 2) (eVar 0))) l_rest_1)) eNil)))
def m_rest : List D → Res D := mOf 3 false g_rest
theorem w_rest (T : Tx P K mg A) : FnD P w K mg base 1 A.f_rest A.d_rest ["chosen", "count"] false m_rest := fnd_of T.F_rest sc_rest fun cdv A outer s H E hr => (sds_one (sd_ret (pd_T call_tuple_of cd_tuple T.z_tuple (pad_cons (pd_fz (pf_lc rfl sc_rest.nd (id_of0 (id_range1 T.z_range (pad_cons (pd_var 1) pad_nil))) (blkOk_by (own := [("number", 2)]) (by kernel_rfl)) rfl (fun s H C cl fp => (gd_name sc_rest.nd)) (fun s H C cl fp => (ptsd_one (ptd_cmp (op_notinA (u65 hr)) od_notin (pd_var 2) (pd_var 0) (by first | exact nomark _ | rfl)))) (fun s H C cl fp => (pd_var 2)))) pad_nil))))
theorem sc_in_order : FnScope ["found", "pairs", "pair", "chosen"] ["found"] (defScope s_in_order) := ⟨rfl, rfl, rfl, by decide +kernel, rfl, by decide +kernel, by decide +kernel⟩
def l_in_order_1 : DEnv → Res D := (eTup (eCons (eL bLen (eCons (eVar 3) eNil)) (eCons (eVar 3) eNil)))
def l_in_order_2 : DEnv → Res D := (e2 dIx (eVar 2) (eC (.int 1)))
def g_in_order : DEnv → SRes := (sSeq (sAsg false ([0] ++ minus ([] ++ (([3] ++ []) ++ ([3] ++ []))) [3]) 1 (eFz (eSsc [3] (eIt (eVar 0)) g1 tYesD l_in_order_1))) (sRetF ([1] ++ minus ([] ++ ([2] ++ [])) [2]) (eLc [2] (eIt (eVar 1)) g1 tYesD l_in_order_2)))
def m_in_order : List D → Res D := mOf 4 true g_in_order
theorem w_in_order (T : Tx P K mg A) : FnD P w K mg base 1 A.f_in_order A.d_in_order ["found"] true m_in_order := fnd_of T.F_in_order sc_in_order fun cdv A outer s H E hr => (sds_cons (sd_asg false (i := 1) sc_in_order.nd (pd_fz (pf_ssc rfl (u65 hr) T.z_sorted sc_in_order.nd (id_seq (pd_var 0)) (blkOk_by (own := [("chosen", 3)]) (by kernel_rfl)) rfl (fun s H C cl fp => (gd_name sc_in_order.nd)) (fun s H C cl fp => ptsd_nil) (fun s H C cl fp => (pd_tup (pad_cons (pd_B call_lenA cd_len T.z_len (pad_cons (pd_var 3) pad_nil)) (pad_cons (pd_var 3) pad_nil))))))) (sds_one (sd_retF (pf_lc rfl sc_in_order.nd (id_seq (pd_var 1)) (blkOk_by (own := [("pair", 2)]) (by kernel_rfl)) rfl (fun s H C cl fp => (gd_name sc_in_order.nd)) (fun s H C cl fp => ptsd_nil) (fun s H C cl fp => (pd_ix (pd_var 2) pd_int))))))
theorem sc_mask_of : FnScope ["chosen", "mask", "number"] ["chosen"] (defScope s_mask_of) := ⟨rfl, rfl, rfl, by decide +kernel, rfl, by decide +kernel, by decide +kernel⟩
def b_mask_of_1 : DEnv → SRes := (sAsg false ([1] ++ ([] ++ [2])) 1 (e2 dOr (eVar 1) (e2 dShl (eC (.int 1)) (eVar 2))))
def g_mask_of : DEnv → SRes := (sSeq (sAsg false [] 1 (eC (.int 0))) (sSeq (sFor [0] [2] (eIt (eVar 0)) g1 b_mask_of_1) (sRet [1] (eVar 1))))
def m_mask_of : List D → Res D := mOf 3 false g_mask_of
theorem w_mask_of (T : Tx P K mg A) : FnD P w K mg base 1 A.f_mask_of A.d_mask_of ["chosen"] false m_mask_of := fnd_of T.F_mask_of sc_mask_of fun cdv A outer s H E hr => (sds_cons (sd_asg false (i := 1) sc_mask_of.nd pd_int) (sds_cons (sd_for (passes_of rfl) rfl (id_seq (pd_var 0)) (gd_name sc_mask_of.nd) (sds_one (sd_asg false (i := 1) sc_mask_of.nd (pd_bin op_or od_orr (pd_var 1) (pd_bin op_shl od_shl pd_int (pd_var 2)))))) (sds_one (sd_ret (pd_var 1)))))
theorem sc_least : FnScope ["found", "kept", "masks", "chosen", "mask", "smaller"] ["found"] (defScope s_least) := ⟨rfl, rfl, rfl, by decide +kernel, rfl, by decide +kernel, by decide +kernel⟩
def l_least_1 : DEnv → Res D := (e2 dNe (e2 dAnd (eVar 4) (eVar 5)) (eVar 5))
def b_least_1 : DEnv → SRes := (sSeq (sAsg false ([3] ++ []) 4 (eL (callN 1 m_mask_of) (eCons (eVar 3) eNil))) (sIf (eTru (eL bAll (eCons (eFz (eLc [5] (eIt (eVar 2)) g1 tYesD l_least_1)) eNil))) (sSeq (sApp false [3] 1 (eVar 3)) (sApp false [4] 2 (eVar 4))) sNil))
def g_least : DEnv → SRes := (sSeq (sAsgF false [] 1 (eLst eNil)) (sSeq (sAsgF false [] 2 (eLst eNil)) (sSeq (sFor ([0] ++ []) [3] (eL (callF 1 m_in_order) (eCons (eVar 0) eNil)) g1 b_least_1) (sRetO 1))))
def m_least : List D → Res D := mOf 6 true g_least
theorem w_least (T : Tx P K mg A) : FnD P w K mg base 2 A.f_least A.d_least ["found"] true m_least := fnd_of T.F_least sc_least fun cdv A outer s H E hr => (sds_cons (sd_asgF false (i := 1) sc_least.nd (pf_lst pad_nil)) (sds_cons (sd_asgF false (i := 2) sc_least.nd (pf_lst pad_nil)) (sds_cons (sd_for (passes_of rfl) rfl (id_new (pf_call (ps := ["found"]) (takes_of rfl rfl rfl rfl) hr (by decide) (w_in_order T) T.m_in_order T.F_in_order.kp T.b_in_order (pad_cons (pd_var 0) pad_nil))) (gd_name sc_least.nd) (sds_cons (sd_asg false (i := 4) sc_least.nd (pd_call (ps := ["chosen"]) (takes_of rfl rfl rfl rfl) hr (by decide) (w_mask_of T) T.m_mask_of T.F_mask_of.kp T.b_mask_of (pad_cons (pd_var 3) pad_nil))) (sds_one (sd_if (ptd_tru (pd_B (cr_all rfl) cd_all T.z_all (pad_cons (pd_fz (pf_lc rfl sc_least.nd (id_seq (pd_var 2)) (blkOk_by (own := [("smaller", 5)]) (by kernel_rfl)) rfl (fun s H C cl fp => (gd_name sc_least.nd)) (fun s H C cl fp => ptsd_nil) (fun s H C cl fp => (pd_cmp (op_neD hr.units) od_ne (pd_bin op_and od_and (pd_var 4) (pd_var 5)) (pd_var 5) (by first | exact nomark _ | rfl))))) pad_nil))) (sds_cons (sd_app false 1 (pd_var 3)) (sds_one (sd_app false 2 (pd_var 4)))) sds_nil)))) (sds_one (sd_retO 1)))))
theorem sc_least_drops : FnScope ["seen", "manner", "verdicts", "drops", "chosen", "kept", "book", "refused", "number"] ["seen", "manner"] (defScope s_least_drops) := ⟨rfl, rfl, rfl, by decide +kernel, rfl, by decide +kernel, by decide +kernel⟩
def l_least_drops_1 : DEnv → Res D := (e2 dIx (eVar 2) (eVar 8))
def l_least_drops_2 : DEnv → Res D := (e2 dIx (eVar 2) (eVar 8))
def b_least_drops_1 : DEnv → SRes := (sSeq (sAsg false ([4] ++ (([2] ++ []) ++ [])) 5 (eL (callN 2 m_rest) (eCons (eVar 4) (eCons (eL bLen (eCons (eVar 2) eNil)) eNil)))) (sSeq (sAsg false ([0] ++ (([5] ++ minus (([8] ++ ([0] ++ [])) ++ ([2] ++ [8])) [8]) ++ [])) 6 (eL (mkD "Book" 3 m_Book_init) (eCons (e1 (dFld ["Book", "Seen", "Table"] "n") (eVar 0)) (eCons (eFz (eLc [8] (eIt (eVar 5)) g1 (eB (e2 dLt (eVar 8) (eL bLen (eCons (e1 (dFld ["Seen"] "yes") (eVar 0)) eNil)))) l_least_drops_1)) eNil)))) (sSeq (sAsg false ([5] ++ minus (([8] ++ ([0] ++ [])) ++ ([2] ++ [8])) [8]) 7 (eFz (eLc [8] (eIt (eVar 5)) g1 (eB (e2 dGe (eVar 8) (eL bLen (eCons (e1 (dFld ["Seen"] "yes") (eVar 0)) eNil)))) l_least_drops_2))) (sIf (eB (e2 dIsN (eL (callN 3 m_first_due) (eCons (eVar 6) (eCons (eVar 7) (eCons (eVar 1) eNil)))) (eC .non))) (sApp false [4] 3 (eVar 4)) sNil))))
def g_least_drops : DEnv → SRes := (sSeq (sAsg false ([0] ++ [0]) 2 (e2 dAdd (e1 (dFld ["Seen"] "yes") (eVar 0)) (e1 (dFld ["Seen"] "no") (eVar 0)))) (sSeq (sAsgF false [] 3 (eLst eNil)) (sSeq (sFor (([2] ++ []) ++ []) [4] (eL (callF 1 m_selections) (eCons (eL bLen (eCons (eVar 2) eNil)) eNil)) g1 b_least_drops_1) (sRetF ([3] ++ []) (eL (callF 1 m_least) (eCons (eVar 3) eNil))))))
def m_least_drops : List D → Res D := mOf 9 true g_least_drops
theorem w_least_drops (T : Tx P K mg A) : FnD P w K mg base 11 A.f_least_drops A.d_least_drops ["seen", "manner"] true m_least_drops := fnd_of T.F_least_drops sc_least_drops fun cdv A outer s H E hr => (sds_cons (sd_asg false (i := 2) sc_least_drops.nd (pd_bin op_addA od_add (pd_fld ["Seen"] (List.forall_mem_cons.2 ⟨⟨_, _, T.d_Seen, (.tail _ (.head _))⟩, (fun _ h => nomatch h)⟩) (pd_var 0)) (pd_fld ["Seen"] (List.forall_mem_cons.2 ⟨⟨_, _, T.d_Seen, (.tail _ (.tail _ (.head _)))⟩, (fun _ h => nomatch h)⟩) (pd_var 0)))) (sds_cons (sd_asgF false (i := 3) sc_least_drops.nd (pf_lst pad_nil)) (sds_cons (sd_for (passes_of rfl) rfl (id_new (pf_call (ps := ["count"]) (takes_of rfl rfl rfl rfl) hr (by decide) (w_selections T) T.m_selections T.F_selections.kp T.b_selections (pad_cons (pd_B call_lenA cd_len T.z_len (pad_cons (pd_var 2) pad_nil)) pad_nil))) (gd_name sc_least_drops.nd) (sds_cons (sd_asg false (i := 5) sc_least_drops.nd (pd_call (ps := ["chosen", "count"]) (takes_of rfl rfl rfl rfl) hr (by decide) (w_rest T) T.m_rest T.F_rest.kp T.b_rest (pad_cons (pd_var 4) (pad_cons (pd_B call_lenA cd_len T.z_len (pad_cons (pd_var 2) pad_nil)) pad_nil)))) (sds_cons (sd_asg false (i := 6) sc_least_drops.nd (pd_make (ps := ["self", "n", "rules"]) (takes_of rfl rfl rfl rfl) hr (by decide) T.mk_Book (w_Book_init T) T.g_Book T.b_Book_init (pad_cons (pd_fld ["Book", "Seen", "Table"] (List.forall_mem_cons.2 ⟨⟨_, _, T.d_Book, (.head _)⟩, (List.forall_mem_cons.2 ⟨⟨_, _, T.d_Seen, (.head _)⟩, (List.forall_mem_cons.2 ⟨⟨_, _, T.d_Table, (.head _)⟩, (fun _ h => nomatch h)⟩)⟩)⟩) (pd_var 0)) (pad_cons (pd_fz (pf_lc rfl sc_least_drops.nd (id_seq (pd_var 5)) (blkOk_by (own := [("number", 8)]) (by kernel_rfl)) rfl (fun s H C cl fp => (gd_name sc_least_drops.nd)) (fun s H C cl fp => (ptsd_one (ptd_cmp op_lt od_intb (pd_var 8) (pd_B call_lenA cd_len T.z_len (pad_cons (pd_fld ["Seen"] (List.forall_mem_cons.2 ⟨⟨_, _, T.d_Seen, (.tail _ (.head _))⟩, (fun _ h => nomatch h)⟩) (pd_var 0)) pad_nil)) (by first | exact nomark _ | rfl)))) (fun s H C cl fp => (pd_ix (pd_var 2) (pd_var 8))))) pad_nil)))) (sds_cons (sd_asgLcZ false (i := 7) rfl sc_least_drops.nd (id_seq (pd_var 5)) (blkOk_by (own := [("number", 8)]) (by kernel_rfl)) rfl (fun s H C cl fp => (gd_name sc_least_drops.nd)) (fun s H C cl fp => (ptsd_one (ptd_cmp op_ge od_intb (pd_var 8) (pd_B call_lenA cd_len T.z_len (pad_cons (pd_fld ["Seen"] (List.forall_mem_cons.2 ⟨⟨_, _, T.d_Seen, (.tail _ (.head _))⟩, (fun _ h => nomatch h)⟩) (pd_var 0)) pad_nil)) (by first | exact nomark _ | rfl)))) (fun s H C cl fp => (pd_ix (pd_var 2) (pd_var 8)))) (sds_one (sd_if (ptd_cmp op_isN od_isN (pd_call (ps := ["book", "pairs", "manner"]) (takes_of rfl rfl rfl rfl) hr (by decide) (w_first_due T) T.m_first_due T.F_first_due.kp T.b_first_due (pad_cons (pd_var 6) (pad_cons (pd_var 7) (pad_cons (pd_var 1) pad_nil)))) pd_non (by first | exact nomark _ | rfl)) (sds_one (sd_app false 3 (pd_var 4))) sds_nil)))))) (sds_one (sd_retF (pf_call (ps := ["found"]) (takes_of rfl rfl rfl rfl) hr (by decide) (w_least T) T.m_least T.F_least.kp T.b_least (pad_cons (pd_var 3) pad_nil)))))))
theorem sc_Table___contains__ : FnScope ["self", "pair", "facts", "claim"] ["self", "pair"] (defScope s_Table___contains__) := ⟨rfl, rfl, rfl, by decide +kernel, rfl, by decide +kernel, by decide +kernel⟩
def g_Table___contains__ : DEnv → SRes := (sSeq (sTgt false [1] ([2] ++ ([3] ++ [])) (gT 2 (gC g1 (gC g1 gN))) (eVar 1)) (sRet (((([0] ++ [2]) ++ [3]) ++ []) ++ []) (e2 dEq (e2 dAnd (e2 dShr (e2 dIx (e1 (dFld ["Table"] "rows") (eVar 0)) (eVar 2)) (eVar 3)) (eC (.int 1))) (eC (.int 1)))))
def m_Table___contains__ : List D → Res D := mOf 4 false g_Table___contains__
theorem w_Table___contains__ (T : Tx P K mg A) : FnD P w K mg base 1 A.f_Table___contains__ A.d_Table___contains__ ["self", "pair"] false m_Table___contains__ := fnd_of T.F_Table___contains__ sc_Table___contains__ fun cdv A outer s H E hr => (sds_cons (sd_tgt false (pd_var 1) (gd_tup rfl (gds_cons (gd_name sc_Table___contains__.nd) (gds_cons (gd_name sc_Table___contains__.nd) gds_nil)))) (sds_one (sd_ret (pd_cmp (op_eqD hr.units) od_eq (pd_bin op_and od_and (pd_bin op_shr od_shr (pd_ix (pd_fld ["Table"] (List.forall_mem_cons.2 ⟨⟨_, _, T.d_Table, (.tail _ (.head _))⟩, (fun _ h => nomatch h)⟩) (pd_var 0)) (pd_var 2)) (pd_var 3)) pd_int) pd_int (by first | exact nomark _ | rfl)))))
theorem sc_claims_of : FnScope ["table", "facts", "claim"] ["table", "facts"] (defScope s_claims_of) := ⟨rfl, rfl, rfl, by decide +kernel, rfl, by decide +kernel, by decide +kernel⟩
def l_claims_of_1 : DEnv → Res D := (eVar 2)
def g_claims_of : DEnv → SRes := (sRetF ((([0] ++ []) ++ []) ++ minus ((([1] ++ ([2] ++ [])) ++ [0]) ++ [2]) [2]) (eLc [2] (eL rng1 (eCons (eL bLen (eCons (e1 (dFld ["Table"] "rows") (eVar 0)) eNil)) eNil)) g1 (eB (e2 (dInO "Table" m_Table___contains__ false) (eTup (eCons (eVar 1) (eCons (eVar 2) eNil))) (eVar 0))) l_claims_of_1))
def m_claims_of : List D → Res D := mOf 3 true g_claims_of
theorem w_claims_of (T : Tx P K mg A) : FnD P w K mg base 2 A.f_claims_of A.d_claims_of ["table", "facts"] true m_claims_of := fnd_of T.F_claims_of sc_claims_of fun cdv A outer s H E hr => (sds_one (sd_retF (pf_lc rfl sc_claims_of.nd (id_of0 (id_range1 T.z_range (pad_cons (pd_B call_lenA cd_len T.z_len (pad_cons (pd_fld ["Table"] (List.forall_mem_cons.2 ⟨⟨_, _, T.d_Table, (.tail _ (.head _))⟩, (fun _ h => nomatch h)⟩) (pd_var 0)) pad_nil)) pad_nil))) (blkOk_by (own := [("claim", 2)]) (by kernel_rfl)) rfl (fun s H C cl fp => (gd_name sc_claims_of.nd)) (fun s H C cl fp => (ptsd_one (ptd_cmp (op_inO T.mm_Table___contains__.1 T.mm_Table___contains__.2 (w_Table___contains__ T) (hr.mono (by decide)) T.b_Table___contains__) (od_inO T.d_Table) (pd_tup (pad_cons (pd_var 1) (pad_cons (pd_var 2) pad_nil))) (pd_var 0) (by first | exact nomark _ | rfl)))) (fun s H C cl fp => (pd_var 2)))))
theorem sc_gap_in_row : FnScope ["table", "facts", "top", "meet", "claim"] ["table", "facts"] (defScope s_gap_in_row) := ⟨rfl, rfl, rfl, by decide +kernel, rfl, by decide +kernel, by decide +kernel⟩
def b_gap_in_row_1 : DEnv → SRes := (sSeq (sIf (eB (e2 (dInO "Table" m_Table___contains__ true) (eTup (eCons (eVar 1) (eCons (e2 dAnd (eVar 3) (eVar 4)) eNil))) (eVar 0))) (sRet ([] ++ ([1] ++ ([3] ++ ([4] ++ [])))) (eTup (eCons (eC (.str "meet")) (eCons (eVar 1) (eCons (eVar 3) (eCons (eVar 4) eNil)))))) sNil) (sAsg false ([3] ++ [4]) 3 (e2 dAnd (eVar 3) (eVar 4))))
def b_gap_in_row_2 : DEnv → SRes := (sIf (eAnd (eTru (eL (callN 2 m_within) (eCons (eVar 3) (eCons (eVar 4) eNil)))) (eB (e2 (dInO "Table" m_Table___contains__ true) (eTup (eCons (eVar 1) (eCons (eVar 4) eNil))) (eVar 0)))) (sRet ([] ++ ([1] ++ ([3] ++ ([4] ++ [])))) (eTup (eCons (eC (.str "more")) (eCons (eVar 1) (eCons (eVar 3) (eCons (eVar 4) eNil)))))) sNil)
def g_gap_in_row : DEnv → SRes := (sSeq (sAsg false ([0] ++ []) 2 (eL (callN 1 m_everything) (eCons (e1 (dFld ["Book", "Seen", "Table"] "n") (eVar 0)) eNil))) (sSeq (sIf (eB (e2 (dInO "Table" m_Table___contains__ true) (eTup (eCons (eVar 1) (eCons (eVar 2) eNil))) (eVar 0))) (sRet ([] ++ ([2] ++ ([2] ++ ([1] ++ [])))) (eTup (eCons (eC (.str "less")) (eCons (eVar 2) (eCons (eVar 2) (eCons (eVar 1) eNil)))))) sNil) (sSeq (sAsg false [2] 3 (eVar 2)) (sSeq (sFor ([0] ++ ([1] ++ [])) [4] (eL (callF 2 m_claims_of) (eCons (eVar 0) (eCons (eVar 1) eNil))) g1 b_gap_in_row_1) (sSeq (sForR [4] (eL rng1 (eCons (e2 dAdd (eVar 2) (eC (.int 1))) eNil)) g1 b_gap_in_row_2) (sRet [] (eC .non)))))))
def m_gap_in_row : List D → Res D := mOf 5 false g_gap_in_row
theorem w_gap_in_row (T : Tx P K mg A) : FnD P w K mg base 3 A.f_gap_in_row A.d_gap_in_row ["table", "facts"] false m_gap_in_row := fnd_of T.F_gap_in_row sc_gap_in_row fun cdv A outer s H E hr => (sds_cons (sd_asg false (i := 2) sc_gap_in_row.nd (pd_call (ps := ["n"]) (takes_of rfl rfl rfl rfl) hr (by decide) (w_everything T) T.m_everything T.F_everything.kp T.b_everything (pad_cons (pd_fld ["Book", "Seen", "Table"] (List.forall_mem_cons.2 ⟨⟨_, _, T.d_Book, (.head _)⟩, (List.forall_mem_cons.2 ⟨⟨_, _, T.d_Seen, (.head _)⟩, (List.forall_mem_cons.2 ⟨⟨_, _, T.d_Table, (.head _)⟩, (fun _ h => nomatch h)⟩)⟩)⟩) (pd_var 0)) pad_nil))) (sds_cons (sd_if (ptd_cmp (op_notInO T.mm_Table___contains__.1 T.mm_Table___contains__.2 (w_Table___contains__ T) (hr.mono (by decide)) T.b_Table___contains__) (od_inO T.d_Table) (pd_tup (pad_cons (pd_var 1) (pad_cons (pd_var 2) pad_nil))) (pd_var 0) (by first | exact nomark _ | rfl)) (sds_one (sd_ret (pd_tup (pad_cons pd_str (pad_cons (pd_var 2) (pad_cons (pd_var 2) (pad_cons (pd_var 1) pad_nil))))))) sds_nil) (sds_cons (sd_asg false (i := 3) sc_gap_in_row.nd (pd_var 2)) (sds_cons (sd_for (passes_of rfl) rfl (id_new (pf_call (ps := ["table", "facts"]) (takes_of rfl rfl rfl rfl) hr (by decide) (w_claims_of T) T.m_claims_of T.F_claims_of.kp T.b_claims_of (pad_cons (pd_var 0) (pad_cons (pd_var 1) pad_nil)))) (gd_name sc_gap_in_row.nd) (sds_cons (sd_if (ptd_cmp (op_notInO T.mm_Table___contains__.1 T.mm_Table___contains__.2 (w_Table___contains__ T) (hr.mono (by decide)) T.b_Table___contains__) (od_inO T.d_Table) (pd_tup (pad_cons (pd_var 1) (pad_cons (pd_bin op_and od_and (pd_var 3) (pd_var 4)) pad_nil))) (pd_var 0) (by first | exact nomark _ | rfl)) (sds_one (sd_ret (pd_tup (pad_cons pd_str (pad_cons (pd_var 1) (pad_cons (pd_var 3) (pad_cons (pd_var 4) pad_nil))))))) sds_nil) (sds_one (sd_asg false (i := 3) sc_gap_in_row.nd (pd_bin op_and od_and (pd_var 3) (pd_var 4)))))) (sds_cons (sd_forR (S := (([2] ++ []) ++ [])) (passes_of rfl) rfl (id_range1 T.z_range (pad_cons (pd_bin op_addA od_add (pd_var 2) pd_int) pad_nil)) (gd_name sc_gap_in_row.nd) (sds_one (sd_if (ptd_w (pwd_and (ptd_tru (pd_call (ps := ["first", "second"]) (takes_of rfl rfl rfl rfl) hr (by decide) (w_within T) T.m_within T.F_within.kp T.b_within (pad_cons (pd_var 3) (pad_cons (pd_var 4) pad_nil)))) (pwd_and1 (ptd_cmp (op_notInO T.mm_Table___contains__.1 T.mm_Table___contains__.2 (w_Table___contains__ T) (hr.mono (by decide)) T.b_Table___contains__) (od_inO T.d_Table) (pd_tup (pad_cons (pd_var 1) (pad_cons (pd_var 4) pad_nil))) (pd_var 0) (by first | exact nomark _ | rfl))))) (sds_one (sd_ret (pd_tup (pad_cons pd_str (pad_cons (pd_var 1) (pad_cons (pd_var 3) (pad_cons (pd_var 4) pad_nil))))))) sds_nil))) (sds_one (sd_ret pd_non)))))))
theorem sc_meet_of : FnScope ["table", "facts", "meet", "claim"] ["table", "facts"] (defScope s_meet_of) := ⟨rfl, rfl, rfl, by decide +kernel, rfl, by decide +kernel, by decide +kernel⟩
def b_meet_of_1 : DEnv → SRes := (sAsg false ([2] ++ [3]) 2 (e2 dAnd (eVar 2) (eVar 3)))
def g_meet_of : DEnv → SRes := (sSeq (sAsg false ([0] ++ []) 2 (eL (callN 1 m_everything) (eCons (e1 (dFld ["Book", "Seen", "Table"] "n") (eVar 0)) eNil))) (sSeq (sFor ([0] ++ ([1] ++ [])) [3] (eL (callF 2 m_claims_of) (eCons (eVar 0) (eCons (eVar 1) eNil))) g1 b_meet_of_1) (sRet [2] (eVar 2))))
def m_meet_of : List D → Res D := mOf 4 false g_meet_of
theorem w_meet_of (T : Tx P K mg A) : FnD P w K mg base 3 A.f_meet_of A.d_meet_of ["table", "facts"] false m_meet_of := fnd_of T.F_meet_of sc_meet_of fun cdv A outer s H E hr => (sds_cons (sd_asg false (i := 2) sc_meet_of.nd (pd_call (ps := ["n"]) (takes_of rfl rfl rfl rfl) hr (by decide) (w_everything T) T.m_everything T.F_everything.kp T.b_everything (pad_cons (pd_fld ["Book", "Seen", "Table"] (List.forall_mem_cons.2 ⟨⟨_, _, T.d_Book, (.head _)⟩, (List.forall_mem_cons.2 ⟨⟨_, _, T.d_Seen, (.head _)⟩, (List.forall_mem_cons.2 ⟨⟨_, _, T.d_Table, (.head _)⟩, (fun _ h => nomatch h)⟩)⟩)⟩) (pd_var 0)) pad_nil))) (sds_cons (sd_for (passes_of rfl) rfl (id_new (pf_call (ps := ["table", "facts"]) (takes_of rfl rfl rfl rfl) hr (by decide) (w_claims_of T) T.m_claims_of T.F_claims_of.kp T.b_claims_of (pad_cons (pd_var 0) (pad_cons (pd_var 1) pad_nil)))) (gd_name sc_meet_of.nd) (sds_one (sd_asg false (i := 2) sc_meet_of.nd (pd_bin op_and od_and (pd_var 2) (pd_var 3))))) (sds_one (sd_ret (pd_var 2)))))
theorem sc_gap_at_facts : FnScope ["meets", "facts", "manner", "meet", "by_cases", "in_steps", "through", "other", "other_meet"] ["meets", "facts", "manner"] (defScope s_gap_at_facts) := ⟨rfl, rfl, rfl, by decide +kernel, rfl, by decide +kernel, by decide +kernel⟩
def b_gap_at_facts_1 : DEnv → SRes := (sSeq (sIf (eAnd (eTru (eL (callN 2 m_within) (eCons (eVar 7) (eCons (eVar 1) eNil)))) (eNot (eTru (eL (callN 2 m_within) (eCons (eVar 8) (eCons (eVar 3) eNil)))))) (sRet ([] ++ ([1] ++ ([3] ++ ([7] ++ [])))) (eTup (eCons (eC (.str "less")) (eCons (eVar 1) (eCons (eVar 3) (eCons (eVar 7) eNil)))))) sNil) (sIf (eAnd (eTru (eVar 4)) (eNot (eTru (eL (callN 2 m_within) (eCons (e2 dIx (eVar 0) (e2 dOr (eVar 1) (eVar 7))) (eCons (e2 dOr (eVar 3) (eVar 8)) eNil)))))) (sRet ([] ++ ([1] ++ ([7] ++ (([3] ++ [8]) ++ [])))) (eTup (eCons (eC (.str "cases")) (eCons (eVar 1) (eCons (eVar 7) (eCons (e2 dOr (eVar 3) (eVar 8)) eNil)))))) sNil))
def g_gap_at_facts : DEnv → SRes := (sSeq (sTgt false ([2] ++ []) ([4] ++ ([5] ++ ([6] ++ []))) (gT 3 (gC g1 (gC g1 (gC g1 gN)))) (eL (callN 1 m_switches) (eCons (eVar 2) eNil))) (sSeq (sAsg false ([0] ++ [1]) 3 (e2 dIx (eVar 0) (eVar 1))) (sSeq (sIf (eAnd (eTru (eVar 6)) (eNot (eTru (eL (callN 2 m_within) (eCons (eVar 3) (eCons (eVar 1) eNil)))))) (sRet ([] ++ ([1] ++ [])) (eTup (eCons (eC (.str "same")) (eCons (eVar 1) eNil)))) sNil) (sSeq (sIf (eAnd (eTru (eVar 5)) (eNot (eTru (eL (callN 2 m_within) (eCons (eVar 3) (eCons (e2 dIx (eVar 0) (e2 dAnd (eVar 1) (eVar 3))) eNil)))))) (sRet ([] ++ ([1] ++ ([3] ++ (([0] ++ ([1] ++ [3])) ++ [])))) (eTup (eCons (eC (.str "step")) (eCons (eVar 1) (eCons (eVar 3) (eCons (e2 dIx (eVar 0) (e2 dAnd (eVar 1) (eVar 3))) eNil)))))) sNil) (sSeq (sFor ([0] ++ []) ([7] ++ ([8] ++ [])) (eL bEnumA (eCons (eVar 0) eNil)) (gT 2 (gC g1 (gC g1 gN))) b_gap_at_facts_1) (sRet [] (eC .non)))))))
def m_gap_at_facts : List D → Res D := mOf 9 false g_gap_at_facts
theorem w_gap_at_facts (T : Tx P K mg A) : FnD P w K mg base 4 A.f_gap_at_facts A.d_gap_at_facts ["meets", "facts", "manner"] false m_gap_at_facts := fnd_of T.F_gap_at_facts sc_gap_at_facts fun cdv A outer s H E hr => (sds_cons (sd_tgt false (pd_call (ps := ["manner"]) (takes_of rfl rfl rfl rfl) hr (by decide) (w_switches T) T.m_switches T.F_switches.kp T.b_switches (pad_cons (pd_var 2) pad_nil)) (gd_tup rfl (gds_cons (gd_name sc_gap_at_facts.nd) (gds_cons (gd_name sc_gap_at_facts.nd) (gds_cons (gd_name sc_gap_at_facts.nd) gds_nil))))) (sds_cons (sd_asg false (i := 3) sc_gap_at_facts.nd (pd_ix (pd_var 0) (pd_var 1))) (sds_cons (sd_if (ptd_w (pwd_and (ptd_tru (pd_var 6)) (pwd_and1 (ptd_not (ptd_tru (pd_call (ps := ["first", "second"]) (takes_of rfl rfl rfl rfl) hr (by decide) (w_within T) T.m_within T.F_within.kp T.b_within (pad_cons (pd_var 3) (pad_cons (pd_var 1) pad_nil)))))))) (sds_one (sd_ret (pd_tup (pad_cons pd_str (pad_cons (pd_var 1) pad_nil))))) sds_nil) (sds_cons (sd_if (ptd_w (pwd_and (ptd_tru (pd_var 5)) (pwd_and1 (ptd_not (ptd_tru (pd_call (ps := ["first", "second"]) (takes_of rfl rfl rfl rfl) hr (by decide) (w_within T) T.m_within T.F_within.kp T.b_within (pad_cons (pd_var 3) (pad_cons (pd_ix (pd_var 0) (pd_bin op_and od_and (pd_var 1) (pd_var 3))) pad_nil)))))))) (sds_one (sd_ret (pd_tup (pad_cons pd_str (pad_cons (pd_var 1) (pad_cons (pd_var 3) (pad_cons (pd_ix (pd_var 0) (pd_bin op_and od_and (pd_var 1) (pd_var 3))) pad_nil))))))) sds_nil) (sds_cons (sd_for (passes_of rfl) rfl (id_enumA T.z_enumerate (pad_cons (pd_var 0) pad_nil)) (gd_tup rfl (gds_cons (gd_name sc_gap_at_facts.nd) (gds_cons (gd_name sc_gap_at_facts.nd) gds_nil))) (sds_cons (sd_if (ptd_w (pwd_and (ptd_tru (pd_call (ps := ["first", "second"]) (takes_of rfl rfl rfl rfl) hr (by decide) (w_within T) T.m_within T.F_within.kp T.b_within (pad_cons (pd_var 7) (pad_cons (pd_var 1) pad_nil)))) (pwd_and1 (ptd_not (ptd_tru (pd_call (ps := ["first", "second"]) (takes_of rfl rfl rfl rfl) hr (by decide) (w_within T) T.m_within T.F_within.kp T.b_within (pad_cons (pd_var 8) (pad_cons (pd_var 3) pad_nil)))))))) (sds_one (sd_ret (pd_tup (pad_cons pd_str (pad_cons (pd_var 1) (pad_cons (pd_var 3) (pad_cons (pd_var 7) pad_nil))))))) sds_nil) (sds_one (sd_if (ptd_w (pwd_and (ptd_tru (pd_var 4)) (pwd_and1 (ptd_not (ptd_tru (pd_call (ps := ["first", "second"]) (takes_of rfl rfl rfl rfl) hr (by decide) (w_within T) T.m_within T.F_within.kp T.b_within (pad_cons (pd_ix (pd_var 0) (pd_bin op_or od_orr (pd_var 1) (pd_var 7))) (pad_cons (pd_bin op_or od_orr (pd_var 3) (pd_var 8)) pad_nil)))))))) (sds_one (sd_ret (pd_tup (pad_cons pd_str (pad_cons (pd_var 1) (pad_cons (pd_var 7) (pad_cons (pd_bin op_or od_orr (pd_var 3) (pd_var 8)) pad_nil))))))) sds_nil)))) (sds_one (sd_ret pd_non)))))))
theorem sc_gap : FnScope ["table", "manner", "top", "facts", "meets", "found"] ["table", "manner"] (defScope s_gap) := ⟨rfl, rfl, rfl, by decide +kernel, rfl, by decide +kernel, by decide +kernel⟩
def b_gap_1 : DEnv → SRes := (sSeq (sAsg false ([0] ++ ([3] ++ [])) 5 (eL (callN 2 m_gap_in_row) (eCons (eVar 0) (eCons (eVar 3) eNil)))) (sIf (eB (e2 dNotN (eVar 5) (eC .non))) (sRet [5] (eVar 5)) sNil))
def l_gap_1 : DEnv → Res D := (eL (callN 2 m_meet_of) (eCons (eVar 0) (eCons (eVar 3) eNil)))
def b_gap_2 : DEnv → SRes := (sSeq (sAsg false ([4] ++ ([3] ++ ([1] ++ []))) 5 (eL (callN 3 m_gap_at_facts) (eCons (eVar 4) (eCons (eVar 3) (eCons (eVar 1) eNil))))) (sIf (eB (e2 dNotN (eVar 5) (eC .non))) (sRet [5] (eVar 5)) sNil))
def g_gap : DEnv → SRes := (sSeq (sAsg false ([0] ++ []) 2 (eL (callN 1 m_everything) (eCons (e1 (dFld ["Book", "Seen", "Table"] "n") (eVar 0)) eNil))) (sSeq (sIf (eB (e2 (dInO "Table" m_Table___contains__ true) (eTup (eCons (eVar 2) (eCons (eVar 2) eNil))) (eVar 0))) (sRet ([] ++ []) (eTup (eCons (eC (.str "all")) eNil))) sNil) (sSeq (sForR [3] (eL rng1 (eCons (e2 dAdd (eVar 2) (eC (.int 1))) eNil)) g1 b_gap_1) (sSeq (sAsg false ((([2] ++ []) ++ []) ++ minus ([] ++ ([0] ++ ([3] ++ []))) [3]) 4 (eFz (eLc [3] (eL rng1 (eCons (e2 dAdd (eVar 2) (eC (.int 1))) eNil)) g1 tYesD l_gap_1))) (sSeq (sForR [3] (eL rng1 (eCons (e2 dAdd (eVar 2) (eC (.int 1))) eNil)) g1 b_gap_2) (sRet [] (eC .non)))))))
def m_gap : List D → Res D := mOf 6 false g_gap
theorem w_gap (T : Tx P K mg A) : FnD P w K mg base 5 A.f_gap A.d_gap ["table", "manner"] false m_gap := fnd_of T.F_gap sc_gap fun cdv A outer s H E hr => (sds_cons (sd_asg false (i := 2) sc_gap.nd (pd_call (ps := ["n"]) (takes_of rfl rfl rfl rfl) hr (by decide) (w_everything T) T.m_everything T.F_everything.kp T.b_everything (pad_cons (pd_fld ["Book", "Seen", "Table"] (List.forall_mem_cons.2 ⟨⟨_, _, T.d_Book, (.head _)⟩, (List.forall_mem_cons.2 ⟨⟨_, _, T.d_Seen, (.head _)⟩, (List.forall_mem_cons.2 ⟨⟨_, _, T.d_Table, (.head _)⟩, (fun _ h => nomatch h)⟩)⟩)⟩) (pd_var 0)) pad_nil))) (sds_cons (sd_if (ptd_cmp (op_notInO T.mm_Table___contains__.1 T.mm_Table___contains__.2 (w_Table___contains__ T) (hr.mono (by decide)) T.b_Table___contains__) (od_inO T.d_Table) (pd_tup (pad_cons (pd_var 2) (pad_cons (pd_var 2) pad_nil))) (pd_var 0) (by first | exact nomark _ | rfl)) (sds_one (sd_ret (pd_tup (pad_cons pd_str pad_nil)))) sds_nil) (sds_cons (sd_forR (S := (([2] ++ []) ++ [])) (passes_of rfl) rfl (id_range1 T.z_range (pad_cons (pd_bin op_addA od_add (pd_var 2) pd_int) pad_nil)) (gd_name sc_gap.nd) (sds_cons (sd_asg false (i := 5) sc_gap.nd (pd_call (ps := ["table", "facts"]) (takes_of rfl rfl rfl rfl) hr (by decide) (w_gap_in_row T) T.m_gap_in_row T.F_gap_in_row.kp T.b_gap_in_row (pad_cons (pd_var 0) (pad_cons (pd_var 3) pad_nil)))) (sds_one (sd_if (ptd_cmp op_notN od_notN (pd_var 5) pd_non (by first | exact nomark _ | rfl)) (sds_one (sd_ret (pd_var 5))) sds_nil)))) (sds_cons (sd_asgLcZ false (i := 4) rfl sc_gap.nd (id_of0 (id_range1 T.z_range (pad_cons (pd_bin op_addA od_add (pd_var 2) pd_int) pad_nil))) (blkOk_by (own := [("facts", 3)]) (by kernel_rfl)) rfl (fun s H C cl fp => (gd_name sc_gap.nd)) (fun s H C cl fp => ptsd_nil) (fun s H C cl fp => (pd_call (ps := ["table", "facts"]) (by exact takes0) hr (by decide) (w_meet_of T) T.m_meet_of T.F_meet_of.kp T.b_meet_of (pad_cons (pd_var 0) (pad_cons (pd_var 3) pad_nil))))) (sds_cons (sd_forR (S := (([2] ++ []) ++ [])) (passes_of rfl) rfl (id_range1 T.z_range (pad_cons (pd_bin op_addA od_add (pd_var 2) pd_int) pad_nil)) (gd_name sc_gap.nd) (sds_cons (sd_asg false (i := 5) sc_gap.nd (pd_call (ps := ["meets", "facts", "manner"]) (takes_of rfl rfl rfl rfl) hr (by decide) (w_gap_at_facts T) T.m_gap_at_facts T.F_gap_at_facts.kp T.b_gap_at_facts (pad_cons (pd_var 4) (pad_cons (pd_var 3) (pad_cons (pd_var 1) pad_nil))))) (sds_one (sd_if (ptd_cmp op_notN od_notN (pd_var 5) pd_non (by first | exact nomark _ | rfl)) (sds_one (sd_ret (pd_var 5))) sds_nil)))) (sds_one (sd_ret pd_non)))))))
theorem sc_Book_sub : FnScope ["self", "chosen", "number"] ["self", "chosen"] (defScope s_Book_sub) := ⟨rfl, rfl, rfl, by decide +kernel, rfl, by decide +kernel, by decide +kernel⟩
def l_Book_sub_1 : DEnv → Res D := (e2 dIx (e1 (dFld ["Book"] "rules") (eVar 0)) (eVar 2))
def g_Book_sub : DEnv → SRes := (sRet ([0] ++ (([1] ++ minus ([] ++ ([0] ++ [2])) [2]) ++ [])) (eL (mkD "Book" 3 m_Book_init) (eCons (e1 (dFld ["Book", "Seen", "Table"] "n") (eVar 0)) (eCons (eFz (eLc [2] (eIt (eVar 1)) g1 tYesD l_Book_sub_1)) eNil))))
def m_Book_sub : List D → Res D := mOf 3 false g_Book_sub
theorem w_Book_sub (T : Tx P K mg A) : FnD P w K mg base 5 A.f_Book_sub A.d_Book_sub ["self", "chosen"] false m_Book_sub := fnd_of T.F_Book_sub sc_Book_sub fun cdv A outer s H E hr => (sds_one (sd_ret (pd_make (ps := ["self", "n", "rules"]) (takes_of rfl rfl rfl rfl) hr (by decide) T.mk_Book (w_Book_init T) T.g_Book T.b_Book_init (pad_cons (pd_fld ["Book", "Seen", "Table"] (List.forall_mem_cons.2 ⟨⟨_, _, T.d_Book, (.head _)⟩, (List.forall_mem_cons.2 ⟨⟨_, _, T.d_Seen, (.head _)⟩, (List.forall_mem_cons.2 ⟨⟨_, _, T.d_Table, (.head _)⟩, (fun _ h => nomatch h)⟩)⟩)⟩) (pd_var 0)) (pad_cons (pd_fz (pf_lc rfl sc_Book_sub.nd (id_seq (pd_var 1)) (blkOk_by (own := [("number", 2)]) (by kernel_rfl)) rfl (fun s H C cl fp => (gd_name sc_Book_sub.nd)) (fun s H C cl fp => ptsd_nil) (fun s H C cl fp => (pd_ix (pd_fld ["Book"] (List.forall_mem_cons.2 ⟨⟨_, _, T.d_Book, (.tail _ (.head _))⟩, (fun _ h => nomatch h)⟩) (pd_var 0)) (pd_var 2))))) pad_nil)))))
theorem sc_Book_size : FnScope ["self"] ["self"] (defScope s_Book_size) := ⟨rfl, rfl, rfl, by decide +kernel, rfl, by decide +kernel, by decide +kernel⟩
def g_Book_size : DEnv → SRes := (sRet ([0] ++ []) (eL bLen (eCons (e1 (dFld ["Book"] "rules") (eVar 0)) eNil)))
def m_Book_size : List D → Res D := mOf 1 false g_Book_size
theorem w_Book_size (T : Tx P K mg A) : FnD P w K mg base 1 A.f_Book_size A.d_Book_size ["self"] false m_Book_size := fnd_of T.F_Book_size sc_Book_size fun cdv A outer s H E hr => (sds_one (sd_ret (pd_B call_lenA cd_len T.z_len (pad_cons (pd_fld ["Book"] (List.forall_mem_cons.2 ⟨⟨_, _, T.d_Book, (.tail _ (.head _))⟩, (fun _ h => nomatch h)⟩) (pd_var 0)) pad_nil))))
theorem sc_base : FnScope ["book", "manner", "chosen", "number", "others", "body", "head", "other"] ["book", "manner"] (defScope s_base) := ⟨rfl, rfl, rfl, by decide +kernel, rfl, by decide +kernel, by decide +kernel⟩
def l_base_1 : DEnv → Res D := (eVar 7)
def b_base_1 : DEnv → SRes := (sSeq (sAsg false (([2] ++ minus (([7] ++ [3]) ++ [7]) [7]) ++ []) 4 (eL bTuple (eCons (eFz (eLc [7] (eIt (eVar 2)) g1 (eB (e2 dNe (eVar 7) (eVar 3))) l_base_1)) eNil))) (sSeq (sTgt false ([0] ++ [3]) ([5] ++ ([6] ++ [])) (gT 2 (gC g1 (gC g1 gN))) (e2 dIx (e1 (dFld ["Book"] "rules") (eVar 0)) (eVar 3))) (sIf (eTru (eL (callN 4 m_is_due) (eCons (eMth "Book" "sub" (callN 2 m_Book_sub) (eVar 0) (eCons (eVar 4) eNil)) (eCons (eVar 5) (eCons (eVar 6) (eCons (eVar 1) eNil)))))) (sAsg false [4] 2 (eVar 4)) sNil)))
def g_base : DEnv → SRes := (sSeq (sAsg false [0] 2 (e1 tupRg (eProp "Book" m_Book_size (eVar 0)))) (sSeq (sForR [3] (e1 revN (eProp "Book" m_Book_size (eVar 0))) g1 b_base_1) (sRet [2] (eVar 2))))
def m_base : List D → Res D := mOf 8 false g_base
theorem w_base (T : Tx P K mg A) : FnD P w K mg base 10 A.f_base A.d_base ["book", "manner"] false m_base := fnd_of T.F_base sc_base fun cdv A outer s H E hr => (sds_cons (sd_asg false (i := 2) sc_base.nd (pd_tupRg rfl T.z_tuple T.z_range (pd_prop hr (by decide) T.d_Book T.pp_Book_size (w_Book_size T) T.b_Book_size (pd_var 0)))) (sds_cons (sd_forR (S := [0]) (passes_of rfl) rfl (id_revRange T.z_reversed T.z_range (pd_prop hr (by decide) T.d_Book T.pp_Book_size (w_Book_size T) T.b_Book_size (pd_var 0))) (gd_name sc_base.nd) (sds_cons (sd_asg false (i := 4) sc_base.nd (pd_T call_tuple_of cd_tuple T.z_tuple (pad_cons (pd_fz (pf_lc rfl sc_base.nd (id_seq (pd_var 2)) (blkOk_by (own := [("other", 7)]) (by kernel_rfl)) rfl (fun s H C cl fp => (gd_name sc_base.nd)) (fun s H C cl fp => (ptsd_one (ptd_cmp (op_neD hr.units) od_ne (pd_var 7) (pd_var 3) (by first | exact nomark _ | rfl)))) (fun s H C cl fp => (pd_var 7)))) pad_nil))) (sds_cons (sd_tgt false (pd_ix (pd_fld ["Book"] (List.forall_mem_cons.2 ⟨⟨_, _, T.d_Book, (.tail _ (.head _))⟩, (fun _ h => nomatch h)⟩) (pd_var 0)) (pd_var 3)) (gd_tup rfl (gds_cons (gd_name sc_base.nd) (gds_cons (gd_name sc_base.nd) gds_nil)))) (sds_one (sd_if (ptd_tru (pd_call (ps := ["book", "facts", "claim", "manner"]) (takes_of rfl rfl rfl rfl) hr (by decide) (w_is_due T) T.m_is_due T.F_is_due.kp T.b_is_due (pad_cons (pd_meth (ps := ["self", "chosen"]) (takes_of rfl rfl rfl rfl) hr (by decide) T.d_Book T.mm_Book_sub (w_Book_sub T) T.b_Book_sub (pd_var 0) (pad_cons (pd_var 4) pad_nil)) (pad_cons (pd_var 5) (pad_cons (pd_var 6) (pad_cons (pd_var 1) pad_nil)))))) (sds_one (sd_asg false (i := 2) sc_base.nd (pd_var 4))) sds_nil))))) (sds_one (sd_ret (pd_var 2)))))
theorem sc_book_of : FnScope ["table", "manner", "found", "book", "facts"] ["table", "manner"] (defScope s_book_of) := ⟨rfl, rfl, rfl, by decide +kernel, rfl, by decide +kernel, by decide +kernel⟩
def l_book_of_1 : DEnv → Res D := (eTup (eCons (eVar 4) (eCons (eL (callN 2 m_meet_of) (eCons (eVar 0) (eCons (eVar 4) eNil))) eNil)))
def g_book_of : DEnv → SRes := (sSeq (sAsg false ([0] ++ ([1] ++ [])) 2 (eL (callN 2 m_gap) (eCons (eVar 0) (eCons (eVar 1) eNil)))) (sSeq (sIf (eB (e2 dNotN (eVar 2) (eC .non))) sNever sNil) (sSeq (sAsg false ([0] ++ (((([0] ++ []) ++ []) ++ minus ([] ++ ([4] ++ (([0] ++ ([4] ++ [])) ++ []))) [4]) ++ [])) 3 (eL (mkD "Book" 3 m_Book_init) (eCons (e1 (dFld ["Book", "Seen", "Table"] "n") (eVar 0)) (eCons (eFz (eLc [4] (eL rng1 (eCons (eL bLen (eCons (e1 (dFld ["Table"] "rows") (eVar 0)) eNil)) eNil)) g1 tYesD l_book_of_1)) eNil)))) (sRet ([3] ++ (([3] ++ ([1] ++ [])) ++ [])) (eMth "Book" "sub" (callN 2 m_Book_sub) (eVar 3) (eCons (eL (callN 2 m_base) (eCons (eVar 3) (eCons (eVar 1) eNil))) eNil))))))
def m_book_of : List D → Res D := mOf 5 false g_book_of
theorem w_book_of (T : Tx P K mg A) : FnD P w K mg base 11 A.f_book_of A.d_book_of ["table", "manner"] false m_book_of := fnd_of T.F_book_of sc_book_of fun cdv A outer s H E hr => (sds_cons (sd_asg false (i := 2) sc_book_of.nd (pd_call (ps := ["table", "manner"]) (takes_of rfl rfl rfl rfl) hr (by decide) (w_gap T) T.m_gap T.F_gap.kp T.b_gap (pad_cons (pd_var 0) (pad_cons (pd_var 1) pad_nil)))) (sds_cons (sd_if (ptd_cmp op_notN od_notN (pd_var 2) pd_non (by first | exact nomark _ | rfl)) (sds_one sd_never) sds_nil) (sds_cons (sd_asg false (i := 3) sc_book_of.nd (pd_make (ps := ["self", "n", "rules"]) (takes_of rfl rfl rfl rfl) hr (by decide) T.mk_Book (w_Book_init T) T.g_Book T.b_Book_init (pad_cons (pd_fld ["Book", "Seen", "Table"] (List.forall_mem_cons.2 ⟨⟨_, _, T.d_Book, (.head _)⟩, (List.forall_mem_cons.2 ⟨⟨_, _, T.d_Seen, (.head _)⟩, (List.forall_mem_cons.2 ⟨⟨_, _, T.d_Table, (.head _)⟩, (fun _ h => nomatch h)⟩)⟩)⟩) (pd_var 0)) (pad_cons (pd_fz (pf_lc rfl sc_book_of.nd (id_of0 (id_range1 T.z_range (pad_cons (pd_B call_lenA cd_len T.z_len (pad_cons (pd_fld ["Table"] (List.forall_mem_cons.2 ⟨⟨_, _, T.d_Table, (.tail _ (.head _))⟩, (fun _ h => nomatch h)⟩) (pd_var 0)) pad_nil)) pad_nil))) (blkOk_by (own := [("facts", 4)]) (by kernel_rfl)) rfl (fun s H C cl fp => (gd_name sc_book_of.nd)) (fun s H C cl fp => ptsd_nil) (fun s H C cl fp => (pd_tup (pad_cons (pd_var 4) (pad_cons (pd_call (ps := ["table", "facts"]) (by exact takes0) hr (by decide) (w_meet_of T) T.m_meet_of T.F_meet_of.kp T.b_meet_of (pad_cons (pd_var 0) (pad_cons (pd_var 4) pad_nil))) pad_nil)))))) pad_nil)))) (sds_one (sd_ret (pd_meth (ps := ["self", "chosen"]) (takes_of rfl rfl rfl rfl) hr (by decide) T.d_Book T.mm_Book_sub (w_Book_sub T) T.b_Book_sub (pd_var 3) (pad_cons (pd_call (ps := ["book", "manner"]) (takes_of rfl rfl rfl rfl) hr (by decide) (w_base T) T.m_base T.F_base.kp T.b_base (pad_cons (pd_var 3) (pad_cons (pd_var 1) pad_nil))) pad_nil)))))))
theorem sc_Table_init : FnScope ["self", "n", "rows", "many", "place", "row"] ["self", "n", "rows"] (defScope s_Table_init) := ⟨rfl, rfl, rfl, by decide +kernel, rfl, by decide +kernel, by decide +kernel⟩
def b_Table_init_1 : DEnv → SRes := (sIf (eOr (eB (e2 dGe (eVar 4) (eVar 3))) (eNot (eB (eCh dLe dLt (eC (.int 0)) (eVar 5) (e2 dShl (eC (.int 1)) (eVar 3)))))) (sRaise "BadTable" ["place"] (eCons (eVar 4) eNil)) sNil)
def g_Table_init : DEnv → SRes := (sSeq (sIf (eNot (eB (eCh dLe dLe (eC (.int 1)) (eVar 1) (eC (.int 2))))) (sRaise "BadCount" ["number"] (eCons (eVar 1) eNil)) sNil) (sSeq (sAsg false (([1] ++ []) ++ []) 3 (e2 dAdd (eL (callN 1 m_everything) (eCons (eVar 1) eNil)) (eC (.int 1)))) (sSeq (sFor ([2] ++ []) ([4] ++ ([5] ++ [])) (eL bEnumA (eCons (eVar 2) eNil)) (gT 2 (gC g1 (gC g1 gN))) b_Table_init_1) (sSeq (sIf (eB (e2 dLt (eL bLen (eCons (eVar 2) eNil)) (eVar 3))) (sRaise "BadTable" ["place"] (eCons (eL bLen (eCons (eVar 2) eNil)) eNil)) sNil) (sSeq (sAttr false [1] ["Table"] 0 "n" (eVar 1)) (sAttr false ([2] ++ []) ["Table"] 0 "rows" (eL bTuple (eCons (eVar 2) eNil))))))))
def m_Table_init : List D → Res (List Str × List D) := mI 6 "Table" g_Table_init
theorem w_Table_init (T : Tx P K mg A) : FnI P w K mg base 3 A.f_Table_init A.d_Table_init ["self", "n", "rows"] A.c_Table m_Table_init := fni_of (c := "Table") T.F_Table_init sc_Table_init T.g_Table fun cdv A outer s H E hr => (sds_cons (sd_if (ptd_not (ptd_chain op_le od_intb op_le od_intb pd_int (pd_var 1) (pd_glob (v := (V.int 2)) T.kv_TABLE_LETTERS ⟨_, rfl⟩ (fun _ => .int 2) rfl))) (sds_one (sd_raise (ps := ["self", "number"]) rfl (takes_of rfl rfl rfl rfl) T.x_BadCount (x_BadCount T) hr (by decide) T.bx_BadCount rfl T.g_BadCount (pad_cons (pd_var 1) pad_nil))) sds_nil) (sds_cons (sd_asg false (i := 3) sc_Table_init.nd (pd_bin op_addA od_add (pd_call (ps := ["n"]) (takes_of rfl rfl rfl rfl) hr (by decide) (w_everything T) T.m_everything T.F_everything.kp T.b_everything (pad_cons (pd_var 1) pad_nil)) pd_int)) (sds_cons (sd_for (passes_of rfl) rfl (id_enumA T.z_enumerate (pad_cons (pd_var 2) pad_nil)) (gd_tup rfl (gds_cons (gd_name sc_Table_init.nd) (gds_cons (gd_name sc_Table_init.nd) gds_nil))) (sds_one (sd_if (ptd_w (pwd_or (ptd_cmp op_ge od_intb (pd_var 4) (pd_var 3) (by first | exact nomark _ | rfl)) (pwd_or1 (ptd_not (ptd_chain op_le od_intb op_lt od_intb pd_int (pd_var 5) (pd_bin op_shl od_shl pd_int (pd_var 3))))))) (sds_one (sd_raise (ps := ["self", "place"]) rfl (takes_of rfl rfl rfl rfl) T.x_BadTable (x_BadTable T) hr (by decide) T.bx_BadTable rfl T.g_BadTable (pad_cons (pd_var 4) pad_nil))) sds_nil))) (sds_cons (sd_if (ptd_cmp op_lt od_intb (pd_B call_lenA cd_len T.z_len (pad_cons (pd_var 2) pad_nil)) (pd_var 3) (by first | exact nomark _ | rfl)) (sds_one (sd_raise (ps := ["self", "place"]) rfl (takes_of rfl rfl rfl rfl) T.x_BadTable (x_BadTable T) hr (by decide) T.bx_BadTable rfl T.g_BadTable (pad_cons (pd_B call_lenA cd_len T.z_len (pad_cons (pd_var 2) pad_nil)) pad_nil))) sds_nil) (sds_cons (sd_attr false ["Table"] 0 (List.forall_mem_cons.2 ⟨⟨_, _, T.d_Table, (.head _)⟩, (fun _ h => nomatch h)⟩) (pd_var 1)) (sds_one (sd_attr false ["Table"] 0 (List.forall_mem_cons.2 ⟨⟨_, _, T.d_Table, (.tail _ (.head _))⟩, (fun _ h => nomatch h)⟩) (pd_T call_tuple_of cd_tuple T.z_tuple (pad_cons (pd_var 2) pad_nil)))))))))
theorem sc_table_of : FnScope ["book", "manner", "rows", "facts", "told", "claim"] ["book", "manner"] (defScope s_table_of) := ⟨rfl, rfl, rfl, by decide +kernel, rfl, by decide +kernel, by decide +kernel⟩
def l_table_of_1 : DEnv → Res D := (e2 dShl (eC (.int 1)) (eVar 5))
def b_table_of_1 : DEnv → SRes := (sSeq (sAsg false ([0] ++ ([3] ++ ([1] ++ []))) 4 (eL (callN 3 m_due) (eCons (eVar 0) (eCons (eVar 3) (eCons (eVar 1) eNil))))) (sApp false ((((([0] ++ []) ++ []) ++ []) ++ minus (([4] ++ ([5] ++ [])) ++ ([] ++ [5])) [5]) ++ []) 2 (eL bSum (eCons (eFz (eLc [5] (eL rng1 (eCons (e2 dAdd (eL (callN 1 m_everything) (eCons (e1 (dFld ["Book", "Seen", "Table"] "n") (eVar 0)) eNil)) (eC (.int 1))) eNil)) g1 (eTru (eL (callN 2 m_within) (eCons (eVar 4) (eCons (eVar 5) eNil)))) l_table_of_1)) eNil))))
def g_table_of : DEnv → SRes := (sSeq (sIf (eB (e2 dGt (e1 (dFld ["Book", "Seen", "Table"] "n") (eVar 0)) (eC (.int 2)))) (sRaise "BadCount" ["number"] (eCons (e1 (dFld ["Book", "Seen", "Table"] "n") (eVar 0)) eNil)) sNil) (sSeq (sAsgF false [] 2 (eLst eNil)) (sSeq (sForR [3] (eL rng1 (eCons (e2 dAdd (eL (callN 1 m_everything) (eCons (e1 (dFld ["Book", "Seen", "Table"] "n") (eVar 0)) eNil)) (eC (.int 1))) eNil)) g1 b_table_of_1) (sRet ([0] ++ ([2] ++ [])) (eL (mkD "Table" 3 m_Table_init) (eCons (e1 (dFld ["Book", "Seen", "Table"] "n") (eVar 0)) (eCons (eVar 2) eNil)))))))
def m_table_of : List D → Res D := mOf 6 false g_table_of
theorem w_table_of (T : Tx P K mg A) : FnD P w K mg base 9 A.f_table_of A.d_table_of ["book", "manner"] false m_table_of := fnd_of T.F_table_of sc_table_of fun cdv A outer s H E hr => (sds_cons (sd_if (ptd_cmp op_gt od_intb (pd_fld ["Book", "Seen", "Table"] (List.forall_mem_cons.2 ⟨⟨_, _, T.d_Book, (.head _)⟩, (List.forall_mem_cons.2 ⟨⟨_, _, T.d_Seen, (.head _)⟩, (List.forall_mem_cons.2 ⟨⟨_, _, T.d_Table, (.head _)⟩, (fun _ h => nomatch h)⟩)⟩)⟩) (pd_var 0)) (pd_glob (v := (V.int 2)) T.kv_TABLE_LETTERS ⟨_, rfl⟩ (fun _ => .int 2) rfl) (by first | exact nomark _ | rfl)) (sds_one (sd_raise (ps := ["self", "number"]) rfl (takes_of rfl rfl rfl rfl) T.x_BadCount (x_BadCount T) hr (by decide) T.bx_BadCount rfl T.g_BadCount (pad_cons (pd_fld ["Book", "Seen", "Table"] (List.forall_mem_cons.2 ⟨⟨_, _, T.d_Book, (.head _)⟩, (List.forall_mem_cons.2 ⟨⟨_, _, T.d_Seen, (.head _)⟩, (List.forall_mem_cons.2 ⟨⟨_, _, T.d_Table, (.head _)⟩, (fun _ h => nomatch h)⟩)⟩)⟩) (pd_var 0)) pad_nil))) sds_nil) (sds_cons (sd_asgF false (i := 2) sc_table_of.nd (pf_lst pad_nil)) (sds_cons (sd_forR (S := ((([0] ++ []) ++ []) ++ [])) (passes_of rfl) rfl (id_range1 T.z_range (pad_cons (pd_bin op_addA od_add (pd_call (ps := ["n"]) (takes_of rfl rfl rfl rfl) hr (by decide) (w_everything T) T.m_everything T.F_everything.kp T.b_everything (pad_cons (pd_fld ["Book", "Seen", "Table"] (List.forall_mem_cons.2 ⟨⟨_, _, T.d_Book, (.head _)⟩, (List.forall_mem_cons.2 ⟨⟨_, _, T.d_Seen, (.head _)⟩, (List.forall_mem_cons.2 ⟨⟨_, _, T.d_Table, (.head _)⟩, (fun _ h => nomatch h)⟩)⟩)⟩) (pd_var 0)) pad_nil)) pd_int) pad_nil)) (gd_name sc_table_of.nd) (sds_cons (sd_asg false (i := 4) sc_table_of.nd (pd_call (ps := ["book", "facts", "manner"]) (takes_of rfl rfl rfl rfl) hr (by decide) (w_due T) T.m_due T.F_due.kp T.b_due (pad_cons (pd_var 0) (pad_cons (pd_var 3) (pad_cons (pd_var 1) pad_nil))))) (sds_one (sd_app false 2 (pd_B (cr_sum rfl) cd_sum T.z_sum (pad_cons (pd_fz (pf_lc rfl sc_table_of.nd (id_of0 (id_range1 T.z_range (pad_cons (pd_bin op_addA od_add (pd_call (ps := ["n"]) (takes_of rfl rfl rfl rfl) hr (by decide) (w_everything T) T.m_everything T.F_everything.kp T.b_everything (pad_cons (pd_fld ["Book", "Seen", "Table"] (List.forall_mem_cons.2 ⟨⟨_, _, T.d_Book, (.head _)⟩, (List.forall_mem_cons.2 ⟨⟨_, _, T.d_Seen, (.head _)⟩, (List.forall_mem_cons.2 ⟨⟨_, _, T.d_Table, (.head _)⟩, (fun _ h => nomatch h)⟩)⟩)⟩) (pd_var 0)) pad_nil)) pd_int) pad_nil))) (blkOk_by (own := [("claim", 5)]) (by kernel_rfl)) rfl (fun s H C cl fp => (gd_name sc_table_of.nd)) (fun s H C cl fp => (ptsd_one (ptd_tru (pd_call (ps := ["first", "second"]) (by exact takes0) hr (by decide) (w_within T) T.m_within T.F_within.kp T.b_within (pad_cons (pd_var 4) (pad_cons (pd_var 5) pad_nil)))))) (fun s H C cl fp => (pd_bin op_shl od_shl pd_int (pd_var 5))))) pad_nil)))))) (sds_one (sd_ret (pd_make (ps := ["self", "n", "rows"]) (takes_of rfl rfl rfl rfl) hr (by decide) T.mk_Table (w_Table_init T) T.g_Table T.b_Table_init (pad_cons (pd_fld ["Book", "Seen", "Table"] (List.forall_mem_cons.2 ⟨⟨_, _, T.d_Book, (.head _)⟩, (List.forall_mem_cons.2 ⟨⟨_, _, T.d_Seen, (.head _)⟩, (List.forall_mem_cons.2 ⟨⟨_, _, T.d_Table, (.head _)⟩, (fun _ h => nomatch h)⟩)⟩)⟩) (pd_var 0)) (pad_cons (pd_var 2) pad_nil))))))))
theorem sc__law_told_back : FnScope ["n", "rules", "manner", "book", "again", "facts"] ["n", "rules", "manner"] (defScope s__law_told_back) := ⟨rfl, rfl, rfl, by decide +kernel, rfl, by decide +kernel, by decide +kernel⟩
def b__law_told_back_1 : DEnv → SRes := (sIf (eB (e2 dNe (eL (callN 4 m__law_due) (eCons (eVar 0) (eCons (eFz (eL bList (eCons (e1 (dFld ["Book"] "rules") (eVar 4)) eNil))) (eCons (eVar 5) (eCons (eVar 2) eNil))))) (eL (callN 4 m__law_due) (eCons (eVar 0) (eCons (eVar 1) (eCons (eVar 5) (eCons (eVar 2) eNil))))))) (sRet [] (eC (.bl false))) sNil)
def g__law_told_back : DEnv → SRes := (sSeq (sAsg false ([0] ++ (([1] ++ []) ++ [])) 3 (eL (mkD "Book" 3 m_Book_init) (eCons (eVar 0) (eCons (eFz (eL bList (eCons (eVar 1) eNil))) eNil)))) (sSeq (sAsg false (([3] ++ ([2] ++ [])) ++ ([2] ++ [])) 4 (eL (callN 2 m_book_of) (eCons (eL (callN 2 m_table_of) (eCons (eVar 3) (eCons (eVar 2) eNil))) (eCons (eVar 2) eNil)))) (sSeq (sIf (eB (e2 dNe (e1 (dFld ["Book", "Seen", "Table"] "n") (eVar 4)) (eVar 0))) (sRet [] (eC (.bl false))) sNil) (sSeq (sForR [5] (eL rng1 (eCons (e2 dShl (eC (.int 1)) (e2 dShl (eC (.int 1)) (eVar 0))) eNil)) g1 b__law_told_back_1) (sRet [] (eC (.bl true)))))))
def m__law_told_back : List D → Res D := mOf 6 false g__law_told_back
theorem w__law_told_back (T : Tx P K mg A) : FnD P w K mg base 12 A.f__law_told_back A.d__law_told_back ["n", "rules", "manner"] false m__law_told_back := fnd_of T.F__law_told_back sc__law_told_back fun cdv A outer s H E hr => (sds_cons (sd_asg false (i := 3) sc__law_told_back.nd (pd_make (ps := ["self", "n", "rules"]) (takes_of rfl rfl rfl rfl) hr (by decide) T.mk_Book (w_Book_init T) T.g_Book T.b_Book_init (pad_cons (pd_var 0) (pad_cons (pd_fz (pf_T call_list_of cf_list T.z_list (pad_cons (pd_var 1) pad_nil))) pad_nil)))) (sds_cons (sd_asg false (i := 4) sc__law_told_back.nd (pd_call (ps := ["table", "manner"]) (takes_of rfl rfl rfl rfl) hr (by decide) (w_book_of T) T.m_book_of T.F_book_of.kp T.b_book_of (pad_cons (pd_call (ps := ["book", "manner"]) (takes_of rfl rfl rfl rfl) hr (by decide) (w_table_of T) T.m_table_of T.F_table_of.kp T.b_table_of (pad_cons (pd_var 3) (pad_cons (pd_var 2) pad_nil))) (pad_cons (pd_var 2) pad_nil)))) (sds_cons (sd_if (ptd_cmp (op_neD hr.units) od_ne (pd_fld ["Book", "Seen", "Table"] (List.forall_mem_cons.2 ⟨⟨_, _, T.d_Book, (.head _)⟩, (List.forall_mem_cons.2 ⟨⟨_, _, T.d_Seen, (.head _)⟩, (List.forall_mem_cons.2 ⟨⟨_, _, T.d_Table, (.head _)⟩, (fun _ h => nomatch h)⟩)⟩)⟩) (pd_var 4)) (pd_var 0) (by first | exact nomark _ | rfl)) (sds_one (sd_ret pd_bl)) sds_nil) (sds_cons (sd_forR (S := (([] ++ ([] ++ [0])) ++ [])) (passes_of rfl) rfl (id_range1 T.z_range (pad_cons (pd_bin op_shl od_shl pd_int (pd_bin op_shl od_shl pd_int (pd_var 0))) pad_nil)) (gd_name sc__law_told_back.nd) (sds_one (sd_if (ptd_cmp (op_neD hr.units) od_ne (pd_call (ps := ["n", "rules", "facts", "manner"]) (takes_of rfl rfl rfl rfl) hr (by decide) (w__law_due T) T.m__law_due T.F__law_due.kp T.b__law_due (pad_cons (pd_var 0) (pad_cons (pd_fz (pf_T call_list_of cf_list T.z_list (pad_cons (pd_fld ["Book"] (List.forall_mem_cons.2 ⟨⟨_, _, T.d_Book, (.tail _ (.head _))⟩, (fun _ h => nomatch h)⟩) (pd_var 4)) pad_nil))) (pad_cons (pd_var 5) (pad_cons (pd_var 2) pad_nil))))) (pd_call (ps := ["n", "rules", "facts", "manner"]) (takes_of rfl rfl rfl rfl) hr (by decide) (w__law_due T) T.m__law_due T.F__law_due.kp T.b__law_due (pad_cons (pd_var 0) (pad_cons (pd_var 1) (pad_cons (pd_var 5) (pad_cons (pd_var 2) pad_nil))))) (by first | exact nomark _ | rfl)) (sds_one (sd_ret pd_bl)) sds_nil))) (sds_one (sd_ret pd_bl))))))
theorem sc_law : FnScope ["script", "letters", "n", "rules", "manners", "manner", "many", "facts", "claims", "kinds", "pairs", "k", "yes", "no", "seen", "back", "pair", "fitting", "claim", "told_v", "other"] ["script"] (defScope s_law) := ⟨rfl, rfl, rfl, by decide +kernel, rfl, by decide +kernel, by decide +kernel⟩
def b_law_1 : DEnv → SRes := (sSeq (sAsg false ([8] ++ [11]) 18 (e2 dIx (eVar 8) (eVar 11))) (sSeq (sIf (eB (e2 dEq (e2 dIx (eVar 9) (eVar 11)) (eC (.int 1)))) (sAsg false ([18] ++ ([2] ++ ([3] ++ (([7] ++ [11]) ++ ([5] ++ []))))) 18 (e2 dOr (eVar 18) (eL (callN 4 m__law_due) (eCons (eVar 2) (eCons (eVar 3) (eCons (e2 dIx (eVar 7) (eVar 11)) (eCons (eVar 5) eNil))))))) sNil) (sSeq (sIf (eB (e2 dEq (e2 dIx (eVar 9) (eVar 11)) (eC (.int 2)))) (sAsg false ([2] ++ ([3] ++ (([7] ++ [11]) ++ ([5] ++ [])))) 18 (eL (callN 4 m__law_due) (eCons (eVar 2) (eCons (eVar 3) (eCons (e2 dIx (eVar 7) (eVar 11)) (eCons (eVar 5) eNil)))))) sNil) (sApp false (([7] ++ [11]) ++ ([18] ++ [])) 10 (eTup (eCons (e2 dIx (eVar 7) (eVar 11)) (eCons (eVar 18) eNil)))))))
def l_law_1 : DEnv → Res D := (eVar 16)
def l_law_2 : DEnv → Res D := (eVar 16)
def l_law_3 : DEnv → Res D := (eL (callN 4 m__law_holds) (eCons (eVar 2) (eCons (eFz (eL bList (eCons (e1 (dFld ["Book"] "rules") (eVar 15)) eNil))) (eCons (eVar 16) (eCons (eVar 5) eNil)))))
def b_law_2 : DEnv → SRes := (sSeq (sAsg false ([14] ++ (([16] ++ []) ++ (([16] ++ []) ++ ([5] ++ [])))) 19 (eL (callN 4 m_status) (eCons (eVar 14) (eCons (e2 dIx (eVar 16) (eC (.int 0))) (eCons (e2 dIx (eVar 16) (eC (.int 1))) (eCons (eVar 5) eNil)))))) (sSeq (sIf (eOr (eNot (eTru (e1 (dIsi "str") (eVar 19)))) (eB (e2 dNe (eVar 19) (eL (callN 5 m__law_status) (eCons (eVar 2) (eCons (eVar 12) (eCons (eVar 13) (eCons (eVar 16) (eCons (eVar 5) eNil))))))))) (sRet [] (eC (.bl false))) sNil) (sSeq (sIf (eAnd (eB (e2 dEq (eVar 19) (eC (.str "yes")))) (eNot (eTru (eL (callN 4 m__law_holds) (eCons (eVar 2) (eCons (eVar 3) (eCons (eVar 16) (eCons (eVar 5) eNil)))))))) (sRet [] (eC (.bl false))) sNil) (sIf (eAnd (eB (e2 dEq (eVar 19) (eC (.str "no")))) (eTru (eL (callN 4 m__law_holds) (eCons (eVar 2) (eCons (eVar 3) (eCons (eVar 16) (eCons (eVar 5) eNil))))))) (sRet [] (eC (.bl false))) sNil))))
def l_law_4 : DEnv → Res D := (eVar 20)
def g_law : DEnv → SRes := (sSeq (sAsg false ([] ++ ([] ++ ([] ++ ([] ++ [])))) 1 (eFz (eLst (eCons (eC (.int 2)) (eCons (eC (.int 1)) (eCons (eC (.int 3)) (eCons (eC (.int 2)) eNil))))))) (sSeq (sAsg false ([1] ++ (([0] ++ ([] ++ [])) ++ [])) 2 (e2 dIx (eVar 1) (e2 dMod (eL (callN 2 m__law_cell) (eCons (eVar 0) (eCons (eC (.int 0)) eNil))) (eC (.int 4))))) (sSeq (sAsg false ([0] ++ ([] ++ ([2] ++ ((([] ++ (([0] ++ ([] ++ [])) ++ [])) ++ []) ++ [])))) 3 (eFz (eL (callF 4 m__law_rules) (eCons (eVar 0) (eCons (eC (.int 1)) (eCons (eVar 2) (eCons (e2 dMod (e2 dAdd (eC (.int 3)) (e2 dDiv (eL (callN 2 m__law_cell) (eCons (eVar 0) (eCons (eC (.int 0)) eNil))) (eC (.int 4)))) (eC (.int 6))) eNil))))))) (sSeq (sAsg false ([] ++ ([] ++ ([] ++ ([] ++ ([] ++ ([] ++ ([] ++ ([] ++ [])))))))) 4 (eFz (eLst (eCons (eC (.str "once")) (eCons (eC (.str "cases")) (eCons (eC (.str "steps")) (eCons (eC (.str "both")) (eCons (eC (.str "once+")) (eCons (eC (.str "cases+")) (eCons (eC (.str "steps+")) (eCons (eC (.str "both+")) eNil))))))))))) (sSeq (sAsg false ([4] ++ ((([0] ++ ([] ++ [])) ++ []) ++ [])) 5 (e2 dIx (eVar 4) (e2 dMod (e2 dDiv (eL (callN 2 m__law_cell) (eCons (eVar 0) (eCons (eC (.int 0)) eNil))) (eC (.int 24))) (eC (.int 8))))) (sSeq (sAsg false (([] ++ ([0] ++ ([] ++ []))) ++ []) 6 (e2 dMod (e2 dAdd (eC (.int 5)) (eL (callN 2 m__law_cell) (eCons (eVar 0) (eCons (eC (.int 3)) eNil)))) (eC (.int 9)))) (sSeq (sAsg false ([0] ++ ([] ++ (([6] ++ []) ++ (([] ++ ([] ++ [2])) ++ [])))) 7 (eFz (eL (callF 4 m__law_numbers) (eCons (eVar 0) (eCons (eC (.int 4)) (eCons (e2 dAdd (eVar 6) (eC (.int 3))) (eCons (e2 dShl (eC (.int 1)) (e2 dShl (eC (.int 1)) (eVar 2))) eNil))))))) (sSeq (sAsg false ([0] ++ ([] ++ (([6] ++ []) ++ (([] ++ ([] ++ [2])) ++ [])))) 8 (eFz (eL (callF 4 m__law_numbers) (eCons (eVar 0) (eCons (eC (.int 5)) (eCons (e2 dAdd (eVar 6) (eC (.int 3))) (eCons (e2 dShl (eC (.int 1)) (e2 dShl (eC (.int 1)) (eVar 2))) eNil))))))) (sSeq (sAsg false ([0] ++ ([] ++ (([6] ++ []) ++ ([] ++ [])))) 9 (eFz (eL (callF 4 m__law_numbers) (eCons (eVar 0) (eCons (eC (.int 6)) (eCons (e2 dAdd (eVar 6) (eC (.int 3))) (eCons (eC (.int 4)) eNil))))))) (sSeq (sAsgF false [] 10 (eLst eNil)) (sSeq (sForR [11] (eL rng1 (eCons (e2 dAdd (eVar 6) (eC (.int 3))) eNil)) g1 b_law_1) (sSeq (sAsg false (([10] ++ [] ++ [6]) ++ minus (([2] ++ ([3] ++ ([16] ++ ([5] ++ [])))) ++ [16]) [16]) 12 (eFz (eLc [16] (e3 dSlL (eVar 10) eNoP (eP (eVar 6))) g1 (eTru (eL (callN 4 m__law_holds) (eCons (eVar 2) (eCons (eVar 3) (eCons (eVar 16) (eCons (eVar 5) eNil)))))) l_law_1))) (sSeq (sAsg false (([10] ++ [] ++ [6]) ++ minus (([2] ++ ([3] ++ ([16] ++ ([5] ++ [])))) ++ [16]) [16]) 13 (eFz (eLc [16] (e3 dSlL (eVar 10) eNoP (eP (eVar 6))) g1 (eNot (eTru (eL (callN 4 m__law_holds) (eCons (eVar 2) (eCons (eVar 3) (eCons (eVar 16) (eCons (eVar 5) eNil))))))) l_law_2))) (sSeq (sAsg false ([2] ++ (([12] ++ []) ++ (([13] ++ []) ++ []))) 14 (eL (mkD "Seen" 4 m_Seen_init) (eCons (eVar 2) (eCons (eFz (eL bList (eCons (eVar 12) eNil))) (eCons (eFz (eL bList (eCons (eVar 13) eNil))) eNil))))) (sSeq (sIf (eOr (eB (e2 dNe (e1 (dFld ["Seen"] "yes") (eVar 14)) (eL bTuple (eCons (eVar 12) eNil)))) (eOr (eB (e2 dNe (e1 (dFld ["Seen"] "no") (eVar 14)) (eL bTuple (eCons (eVar 13) eNil)))) (eB (e2 dNotN (eL (callN 2 m_conflict) (eCons (eVar 14) (eCons (eVar 5) eNil))) (eC .non))))) (sRet [] (eC (.bl false))) sNil) (sSeq (sAsg false ([14] ++ ([5] ++ [])) 15 (eL (callN 2 m_fitting_book) (eCons (eVar 14) (eCons (eVar 5) eNil)))) (sSeq (sIf (eOr (eB (e2 dIsN (eVar 15) (eC .non))) (eOr (eB (e2 dNe (e1 (dFld ["Book", "Seen", "Table"] "n") (eVar 15)) (eVar 2))) (eTru (eL (callN 4 m__law_some) (eCons (eVar 2) (eCons (eFz (eL bList (eCons (e1 (dFld ["Book"] "rules") (eVar 15)) eNil))) (eCons (eVar 13) (eCons (eVar 5) eNil)))))))) (sRet [] (eC (.bl false))) sNil) (sSeq (sIf (eNot (eTru (eL bAll (eCons (eFz (eLc [16] (eIt (eVar 12)) g1 tYesD l_law_3)) eNil)))) (sRet [] (eC (.bl false))) sNil) (sSeq (sFor [10] [16] (eIt (eVar 10)) g1 b_law_2) (sSeq (sAsg false ([4] ++ minus (([2] ++ ([12] ++ ([13] ++ ([20] ++ [])))) ++ [20]) [20]) 17 (eFz (eLc [20] (eIt (eVar 4)) g1 (eNot (eTru (eL (callN 4 m__law_some) (eCons (eVar 2) (eCons (eVar 12) (eCons (eVar 13) (eCons (eVar 20) eNil))))))) l_law_4))) (sSeq (sIf (eOr (eB (e2 dNe (eL (callN 1 m_fitting_manners) (eCons (eVar 14) eNil)) (eL bTuple (eCons (eVar 17) eNil)))) (eB (e2 dNotIn (eVar 5) (eVar 17)))) (sRet [] (eC (.bl false))) sNil) (sSeq (sIf (eAnd (eB (e2 dLt (eVar 6) (eC (.int 8)))) (eB (e2 dNe (eFz (eL (callF 2 m_least_drops) (eCons (eVar 14) (eCons (eVar 5) eNil)))) (eFz (eLst (eCons (eTup eNil) eNil)))))) (sRet [] (eC (.bl false))) sNil) (sRet (([2] ++ []) ++ ([2] ++ ([3] ++ ([5] ++ [])))) (eOrV (e2 dEq (eVar 2) (eC (.int 3))) (eL (callN 3 m__law_told_back) (eCons (eVar 2) (eCons (eVar 3) (eCons (eVar 5) eNil))))))))))))))))))))))))))))
def m_law : List D → Res D := mOf 21 false g_law
theorem w_law (T : Tx P K mg A) : FnD P w K mg base 13 A.f_law A.d_law ["script"] false m_law := fnd_of T.F_law sc_law fun cdv A outer s H E hr => (sds_cons (sd_asg false (i := 1) sc_law.nd (pd_fz (pf_lst (pad_cons pd_int (pad_cons pd_int (pad_cons pd_int (pad_cons pd_int pad_nil))))))) (sds_cons (sd_asg false (i := 2) sc_law.nd (pd_ix (pd_var 1) (pd_bin op_mod od_mod (pd_call (ps := ["script", "k"]) (takes_of rfl rfl rfl rfl) hr (by decide) (w__law_cell T) T.m__law_cell T.F__law_cell.kp T.b__law_cell (pad_cons (pd_var 0) (pad_cons pd_int pad_nil))) pd_int))) (sds_cons (sd_asg false (i := 3) sc_law.nd (pd_fz (pf_call (ps := ["script", "at", "n", "count"]) (takes_of rfl rfl rfl rfl) hr (by decide) (w__law_rules T) T.m__law_rules T.F__law_rules.kp T.b__law_rules (pad_cons (pd_var 0) (pad_cons pd_int (pad_cons (pd_var 2) (pad_cons (pd_bin op_mod od_mod (pd_bin op_addA od_add pd_int (pd_bin op_fdiv od_div (pd_call (ps := ["script", "k"]) (takes_of rfl rfl rfl rfl) hr (by decide) (w__law_cell T) T.m__law_cell T.F__law_cell.kp T.b__law_cell (pad_cons (pd_var 0) (pad_cons pd_int pad_nil))) pd_int)) pd_int) pad_nil))))))) (sds_cons (sd_asg false (i := 4) sc_law.nd (pd_fz (pf_lst (pad_cons pd_str (pad_cons pd_str (pad_cons pd_str (pad_cons pd_str (pad_cons pd_str (pad_cons pd_str (pad_cons pd_str (pad_cons pd_str pad_nil))))))))))) (sds_cons (sd_asg false (i := 5) sc_law.nd (pd_ix (pd_var 4) (pd_bin op_mod od_mod (pd_bin op_fdiv od_div (pd_call (ps := ["script", "k"]) (takes_of rfl rfl rfl rfl) hr (by decide) (w__law_cell T) T.m__law_cell T.F__law_cell.kp T.b__law_cell (pad_cons (pd_var 0) (pad_cons pd_int pad_nil))) pd_int) pd_int))) (sds_cons (sd_asg false (i := 6) sc_law.nd (pd_bin op_mod od_mod (pd_bin op_addA od_add pd_int (pd_call (ps := ["script", "k"]) (takes_of rfl rfl rfl rfl) hr (by decide) (w__law_cell T) T.m__law_cell T.F__law_cell.kp T.b__law_cell (pad_cons (pd_var 0) (pad_cons pd_int pad_nil)))) pd_int)) (sds_cons (sd_asg false (i := 7) sc_law.nd (pd_fz (pf_call (ps := ["script", "at", "count", "bound"]) (takes_of rfl rfl rfl rfl) hr (by decide) (w__law_numbers T) T.m__law_numbers T.F__law_numbers.kp T.b__law_numbers (pad_cons (pd_var 0) (pad_cons pd_int (pad_cons (pd_bin op_addA od_add (pd_var 6) pd_int) (pad_cons (pd_bin op_shl od_shl pd_int (pd_bin op_shl od_shl pd_int (pd_var 2))) pad_nil))))))) (sds_cons (sd_asg false (i := 8) sc_law.nd (pd_fz (pf_call (ps := ["script", "at", "count", "bound"]) (takes_of rfl rfl rfl rfl) hr (by decide) (w__law_numbers T) T.m__law_numbers T.F__law_numbers.kp T.b__law_numbers (pad_cons (pd_var 0) (pad_cons pd_int (pad_cons (pd_bin op_addA od_add (pd_var 6) pd_int) (pad_cons (pd_bin op_shl od_shl pd_int (pd_bin op_shl od_shl pd_int (pd_var 2))) pad_nil))))))) (sds_cons (sd_asg false (i := 9) sc_law.nd (pd_fz (pf_call (ps := ["script", "at", "count", "bound"]) (takes_of rfl rfl rfl rfl) hr (by decide) (w__law_numbers T) T.m__law_numbers T.F__law_numbers.kp T.b__law_numbers (pad_cons (pd_var 0) (pad_cons pd_int (pad_cons (pd_bin op_addA od_add (pd_var 6) pd_int) (pad_cons pd_int pad_nil))))))) (sds_cons (sd_asgF false (i := 10) sc_law.nd (pf_lst pad_nil)) (sds_cons (sd_forR (S := (([6] ++ []) ++ [])) (passes_of rfl) rfl (id_range1 T.z_range (pad_cons (pd_bin op_addA od_add (pd_var 6) pd_int) pad_nil)) (gd_name sc_law.nd) (sds_cons (sd_asg false (i := 18) sc_law.nd (pd_ix (pd_var 8) (pd_var 11))) (sds_cons (sd_if (ptd_cmp (op_eqD hr.units) od_eq (pd_ix (pd_var 9) (pd_var 11)) pd_int (by first | exact nomark _ | rfl)) (sds_one (sd_asg false (i := 18) sc_law.nd (pd_bin op_or od_orr (pd_var 18) (pd_call (ps := ["n", "rules", "facts", "manner"]) (takes_of rfl rfl rfl rfl) hr (by decide) (w__law_due T) T.m__law_due T.F__law_due.kp T.b__law_due (pad_cons (pd_var 2) (pad_cons (pd_var 3) (pad_cons (pd_ix (pd_var 7) (pd_var 11)) (pad_cons (pd_var 5) pad_nil)))))))) sds_nil) (sds_cons (sd_if (ptd_cmp (op_eqD hr.units) od_eq (pd_ix (pd_var 9) (pd_var 11)) pd_int (by first | exact nomark _ | rfl)) (sds_one (sd_asg false (i := 18) sc_law.nd (pd_call (ps := ["n", "rules", "facts", "manner"]) (takes_of rfl rfl rfl rfl) hr (by decide) (w__law_due T) T.m__law_due T.F__law_due.kp T.b__law_due (pad_cons (pd_var 2) (pad_cons (pd_var 3) (pad_cons (pd_ix (pd_var 7) (pd_var 11)) (pad_cons (pd_var 5) pad_nil))))))) sds_nil) (sds_one (sd_app false 10 (pd_tup (pad_cons (pd_ix (pd_var 7) (pd_var 11)) (pad_cons (pd_var 18) pad_nil))))))))) (sds_cons (sd_asg false (i := 12) sc_law.nd (pd_fz (pf_lc rfl sc_law.nd (id_new (pf_sl (pd_var 10) pod_none (pod_some (pd_var 6)))) (blkOk_by (own := [("pair", 16)]) (by kernel_rfl)) rfl (fun s H C cl fp => (gd_name sc_law.nd)) (fun s H C cl fp => (ptsd_one (ptd_tru (pd_call (ps := ["n", "rules", "pair", "manner"]) (by exact takes0) hr (by decide) (w__law_holds T) T.m__law_holds T.F__law_holds.kp T.b__law_holds (pad_cons (pd_var 2) (pad_cons (pd_var 3) (pad_cons (pd_var 16) (pad_cons (pd_var 5) pad_nil)))))))) (fun s H C cl fp => (pd_var 16))))) (sds_cons (sd_asg false (i := 13) sc_law.nd (pd_fz (pf_lc rfl sc_law.nd (id_new (pf_sl (pd_var 10) pod_none (pod_some (pd_var 6)))) (blkOk_by (own := [("pair", 16)]) (by kernel_rfl)) rfl (fun s H C cl fp => (gd_name sc_law.nd)) (fun s H C cl fp => (ptsd_one (ptd_not (ptd_tru (pd_call (ps := ["n", "rules", "pair", "manner"]) (by exact takes0) hr (by decide) (w__law_holds T) T.m__law_holds T.F__law_holds.kp T.b__law_holds (pad_cons (pd_var 2) (pad_cons (pd_var 3) (pad_cons (pd_var 16) (pad_cons (pd_var 5) pad_nil))))))))) (fun s H C cl fp => (pd_var 16))))) (sds_cons (sd_asg false (i := 14) sc_law.nd (pd_make (ps := ["self", "n", "yes", "no"]) (takes_of rfl rfl rfl rfl) hr (by decide) T.mk_Seen (w_Seen_init T) T.g_Seen T.b_Seen_init (pad_cons (pd_var 2) (pad_cons (pd_fz (pf_T call_list_of cf_list T.z_list (pad_cons (pd_var 12) pad_nil))) (pad_cons (pd_fz (pf_T call_list_of cf_list T.z_list (pad_cons (pd_var 13) pad_nil))) pad_nil))))) (sds_cons (sd_if (ptd_w (pwd_or (ptd_cmp (op_neD hr.units) od_ne (pd_fld ["Seen"] (List.forall_mem_cons.2 ⟨⟨_, _, T.d_Seen, (.tail _ (.head _))⟩, (fun _ h => nomatch h)⟩) (pd_var 14)) (pd_T call_tuple_of cd_tuple T.z_tuple (pad_cons (pd_var 12) pad_nil)) (by first | exact nomark _ | rfl)) (pwd_or (ptd_cmp (op_neD hr.units) od_ne (pd_fld ["Seen"] (List.forall_mem_cons.2 ⟨⟨_, _, T.d_Seen, (.tail _ (.tail _ (.head _)))⟩, (fun _ h => nomatch h)⟩) (pd_var 14)) (pd_T call_tuple_of cd_tuple T.z_tuple (pad_cons (pd_var 13) pad_nil)) (by first | exact nomark _ | rfl)) (pwd_or1 (ptd_cmp op_notN od_notN (pd_call (ps := ["seen", "manner"]) (takes_of rfl rfl rfl rfl) hr (by decide) (w_conflict T) T.m_conflict T.F_conflict.kp T.b_conflict (pad_cons (pd_var 14) (pad_cons (pd_var 5) pad_nil))) pd_non (by first | exact nomark _ | rfl)))))) (sds_one (sd_ret pd_bl)) sds_nil) (sds_cons (sd_asg false (i := 15) sc_law.nd (pd_call (ps := ["seen", "manner"]) (takes_of rfl rfl rfl rfl) hr (by decide) (w_fitting_book T) T.m_fitting_book T.F_fitting_book.kp T.b_fitting_book (pad_cons (pd_var 14) (pad_cons (pd_var 5) pad_nil)))) (sds_cons (sd_if (ptd_w (pwd_or (ptd_cmp op_isN od_isN (pd_var 15) pd_non (by first | exact nomark _ | rfl)) (pwd_or (ptd_cmp (op_neD hr.units) od_ne (pd_fld ["Book", "Seen", "Table"] (List.forall_mem_cons.2 ⟨⟨_, _, T.d_Book, (.head _)⟩, (List.forall_mem_cons.2 ⟨⟨_, _, T.d_Seen, (.head _)⟩, (List.forall_mem_cons.2 ⟨⟨_, _, T.d_Table, (.head _)⟩, (fun _ h => nomatch h)⟩)⟩)⟩) (pd_var 15)) (pd_var 2) (by first | exact nomark _ | rfl)) (pwd_or1 (ptd_tru (pd_call (ps := ["n", "rules", "pairs", "manner"]) (takes_of rfl rfl rfl rfl) hr (by decide) (w__law_some T) T.m__law_some T.F__law_some.kp T.b__law_some (pad_cons (pd_var 2) (pad_cons (pd_fz (pf_T call_list_of cf_list T.z_list (pad_cons (pd_fld ["Book"] (List.forall_mem_cons.2 ⟨⟨_, _, T.d_Book, (.tail _ (.head _))⟩, (fun _ h => nomatch h)⟩) (pd_var 15)) pad_nil))) (pad_cons (pd_var 13) (pad_cons (pd_var 5) pad_nil)))))))))) (sds_one (sd_ret pd_bl)) sds_nil) (sds_cons (sd_if (ptd_not (ptd_tru (pd_B (cr_all rfl) cd_all T.z_all (pad_cons (pd_fz (pf_lc rfl sc_law.nd (id_seq (pd_var 12)) (blkOk_by (own := [("pair", 16)]) (by kernel_rfl)) rfl (fun s H C cl fp => (gd_name sc_law.nd)) (fun s H C cl fp => ptsd_nil) (fun s H C cl fp => (pd_call (ps := ["n", "rules", "pair", "manner"]) (by exact takes0) hr (by decide) (w__law_holds T) T.m__law_holds T.F__law_holds.kp T.b__law_holds (pad_cons (pd_var 2) (pad_cons (pd_fz (pf_T call_list_of cf_list T.z_list (pad_cons (pd_fld ["Book"] (List.forall_mem_cons.2 ⟨⟨_, _, T.d_Book, (.tail _ (.head _))⟩, (fun _ h => nomatch h)⟩) (pd_var 15)) pad_nil))) (pad_cons (pd_var 16) (pad_cons (pd_var 5) pad_nil)))))))) pad_nil)))) (sds_one (sd_ret pd_bl)) sds_nil) (sds_cons (sd_for (passes_of rfl) rfl (id_seq (pd_var 10)) (gd_name sc_law.nd) (sds_cons (sd_asg false (i := 19) sc_law.nd (pd_call (ps := ["seen", "facts", "claim", "manner"]) (takes_of rfl rfl rfl rfl) hr (by decide) (w_status T) T.m_status T.F_status.kp T.b_status (pad_cons (pd_var 14) (pad_cons (pd_ix (pd_var 16) pd_int) (pad_cons (pd_ix (pd_var 16) pd_int) (pad_cons (pd_var 5) pad_nil)))))) (sds_cons (sd_if (ptd_w (pwd_or (ptd_not (ptd_tru (pd_isi "str" T.z_isinstance T.z_str (pd_var 19)))) (pwd_or1 (ptd_cmp (op_neD hr.units) od_ne (pd_var 19) (pd_call (ps := ["n", "yes", "no", "pair", "manner"]) (takes_of rfl rfl rfl rfl) hr (by decide) (w__law_status T) T.m__law_status T.F__law_status.kp T.b__law_status (pad_cons (pd_var 2) (pad_cons (pd_var 12) (pad_cons (pd_var 13) (pad_cons (pd_var 16) (pad_cons (pd_var 5) pad_nil)))))) (by first | exact nomark _ | rfl))))) (sds_one (sd_ret pd_bl)) sds_nil) (sds_cons (sd_if (ptd_w (pwd_and (ptd_cmp (op_eqD hr.units) od_eq (pd_var 19) pd_str (by first | exact nomark _ | rfl)) (pwd_and1 (ptd_not (ptd_tru (pd_call (ps := ["n", "rules", "pair", "manner"]) (takes_of rfl rfl rfl rfl) hr (by decide) (w__law_holds T) T.m__law_holds T.F__law_holds.kp T.b__law_holds (pad_cons (pd_var 2) (pad_cons (pd_var 3) (pad_cons (pd_var 16) (pad_cons (pd_var 5) pad_nil)))))))))) (sds_one (sd_ret pd_bl)) sds_nil) (sds_one (sd_if (ptd_w (pwd_and (ptd_cmp (op_eqD hr.units) od_eq (pd_var 19) pd_str (by first | exact nomark _ | rfl)) (pwd_and1 (ptd_tru (pd_call (ps := ["n", "rules", "pair", "manner"]) (takes_of rfl rfl rfl rfl) hr (by decide) (w__law_holds T) T.m__law_holds T.F__law_holds.kp T.b__law_holds (pad_cons (pd_var 2) (pad_cons (pd_var 3) (pad_cons (pd_var 16) (pad_cons (pd_var 5) pad_nil))))))))) (sds_one (sd_ret pd_bl)) sds_nil)))))) (sds_cons (sd_asgLcZ false (i := 17) rfl sc_law.nd (id_seq (pd_var 4)) (blkOk_by (own := [("other", 20)]) (by kernel_rfl)) rfl (fun s H C cl fp => (gd_name sc_law.nd)) (fun s H C cl fp => (ptsd_one (ptd_not (ptd_tru (pd_call (ps := ["n", "rules", "pairs", "manner"]) (by exact takes0) hr (by decide) (w__law_some T) T.m__law_some T.F__law_some.kp T.b__law_some (pad_cons (pd_var 2) (pad_cons (pd_var 12) (pad_cons (pd_var 13) (pad_cons (pd_var 20) pad_nil))))))))) (fun s H C cl fp => (pd_var 20))) (sds_cons (sd_if (ptd_w (pwd_or (ptd_cmp (op_neD hr.units) od_ne (pd_call (ps := ["seen"]) (takes_of rfl rfl rfl rfl) hr (by decide) (w_fitting_manners T) T.m_fitting_manners T.F_fitting_manners.kp T.b_fitting_manners (pad_cons (pd_var 14) pad_nil)) (pd_T call_tuple_of cd_tuple T.z_tuple (pad_cons (pd_var 17) pad_nil)) (by first | exact nomark _ | rfl)) (pwd_or1 (ptd_cmp (op_notinA (u65 hr)) od_notin (pd_var 5) (pd_var 17) (by first | exact nomark _ | rfl))))) (sds_one (sd_ret pd_bl)) sds_nil) (sds_cons (sd_if (ptd_w (pwd_and (ptd_cmp op_lt od_intb (pd_var 6) pd_int (by first | exact nomark _ | rfl)) (pwd_and1 (ptd_cmp (op_neD hr.units) od_ne (pd_fz (pf_call (ps := ["seen", "manner"]) (takes_of rfl rfl rfl rfl) hr (by decide) (w_least_drops T) T.m_least_drops T.F_least_drops.kp T.b_least_drops (pad_cons (pd_var 14) (pad_cons (pd_var 5) pad_nil)))) (pd_fz (pf_lst (pad_cons (pd_tup pad_nil) pad_nil))) (by first | exact nomark _ | rfl))))) (sds_one (sd_ret pd_bl)) sds_nil) (sds_one (sd_ret (pd_or (pd_cmp (op_eqD hr.units) od_eq (pd_var 2) pd_int (by first | exact nomark _ | rfl)) (pd_one (pd_call (ps := ["n", "rules", "manner"]) (takes_of rfl rfl rfl rfl) hr (by decide) (w__law_told_back T) T.m__law_told_back T.F__law_told_back.kp T.b__law_told_back (pad_cons (pd_var 2) (pad_cons (pd_var 3) (pad_cons (pd_var 5) pad_nil))))))))))))))))))))))))))))))
end
/-! ### what the top has written -/
theorem all_mk {l : PySem.W.OpenLaw} {w : World} {K : PySem.W.Frag} {h : Heap} {mg : Str → Option Value} {fa : Addr} (X : K.In h) (G : h.Ns mainGlobals mg) (hfa : mg "law" = some (.ref fa))
    {C_Seen : Addr}
    {C_Book : Addr}
    {C_Table : Addr}
    {f1 : Addr} {od1 an1 : Option Addr} {sl1 : Array (Option Value)} {oc1 kV1 dc1 pm1 cd1 ct1 : Value}
    {f2 : Addr} {od2 an2 : Option Addr} {sl2 : Array (Option Value)} {oc2 kV2 dc2 pm2 cd2 ct2 : Value}
    {f3 : Addr} {od3 an3 : Option Addr} {sl3 : Array (Option Value)} {oc3 kV3 dc3 pm3 cd3 ct3 : Value}
    {f4 : Addr} {od4 an4 : Option Addr} {sl4 : Array (Option Value)} {oc4 kV4 dc4 pm4 cd4 ct4 : Value}
    {f5 : Addr} {od5 an5 : Option Addr} {sl5 : Array (Option Value)} {oc5 kV5 dc5 pm5 cd5 ct5 : Value}
    {f6 : Addr} {od6 an6 : Option Addr} {sl6 : Array (Option Value)} {oc6 kV6 dc6 pm6 cd6 ct6 : Value}
    {f7 : Addr} {od7 an7 : Option Addr} {sl7 : Array (Option Value)} {oc7 kV7 dc7 pm7 cd7 ct7 : Value}
    {f8 : Addr} {od8 an8 : Option Addr} {sl8 : Array (Option Value)} {oc8 kV8 dc8 pm8 cd8 ct8 : Value}
    {f9 : Addr} {od9 an9 : Option Addr} {sl9 : Array (Option Value)} {oc9 kV9 dc9 pm9 cd9 ct9 : Value}
    {f10 : Addr} {od10 an10 : Option Addr} {sl10 : Array (Option Value)} {oc10 kV10 dc10 pm10 cd10 ct10 : Value}
    {f11 : Addr} {od11 an11 : Option Addr} {sl11 : Array (Option Value)} {oc11 kV11 dc11 pm11 cd11 ct11 : Value}
    {f12 : Addr} {od12 an12 : Option Addr} {sl12 : Array (Option Value)} {oc12 kV12 dc12 pm12 cd12 ct12 : Value}
    {f13 : Addr} {od13 an13 : Option Addr} {sl13 : Array (Option Value)} {oc13 kV13 dc13 pm13 cd13 ct13 : Value}
    {f14 : Addr} {od14 an14 : Option Addr} {sl14 : Array (Option Value)} {oc14 kV14 dc14 pm14 cd14 ct14 : Value}
    {f15 : Addr} {od15 an15 : Option Addr} {sl15 : Array (Option Value)} {oc15 kV15 dc15 pm15 cd15 ct15 : Value}
    {f16 : Addr} {od16 an16 : Option Addr} {sl16 : Array (Option Value)} {oc16 kV16 dc16 pm16 cd16 ct16 : Value}
    {f17 : Addr} {od17 an17 : Option Addr} {sl17 : Array (Option Value)} {oc17 kV17 dc17 pm17 cd17 ct17 : Value}
    {f18 : Addr} {od18 an18 : Option Addr} {sl18 : Array (Option Value)} {oc18 kV18 dc18 pm18 cd18 ct18 : Value}
    {f19 : Addr} {od19 an19 : Option Addr} {sl19 : Array (Option Value)} {oc19 kV19 dc19 pm19 cd19 ct19 : Value}
    {f20 : Addr} {od20 an20 : Option Addr} {sl20 : Array (Option Value)} {oc20 kV20 dc20 pm20 cd20 ct20 : Value}
    {f21 : Addr} {od21 an21 : Option Addr} {sl21 : Array (Option Value)} {oc21 kV21 dc21 pm21 cd21 ct21 : Value}
    {f22 : Addr} {od22 an22 : Option Addr} {sl22 : Array (Option Value)} {oc22 kV22 dc22 pm22 cd22 ct22 : Value}
    {f23 : Addr} {od23 an23 : Option Addr} {sl23 : Array (Option Value)} {oc23 kV23 dc23 pm23 cd23 ct23 : Value}
    {f24 : Addr} {od24 an24 : Option Addr} {sl24 : Array (Option Value)} {oc24 kV24 dc24 pm24 cd24 ct24 : Value}
    {f25 : Addr} {od25 an25 : Option Addr} {sl25 : Array (Option Value)} {oc25 kV25 dc25 pm25 cd25 ct25 : Value}
    {f26 : Addr} {od26 an26 : Option Addr} {sl26 : Array (Option Value)} {oc26 kV26 dc26 pm26 cd26 ct26 : Value}
    {f27 : Addr} {od27 an27 : Option Addr} {sl27 : Array (Option Value)} {oc27 kV27 dc27 pm27 cd27 ct27 : Value}
    {f28 : Addr} {od28 an28 : Option Addr} {sl28 : Array (Option Value)} {oc28 kV28 dc28 pm28 cd28 ct28 : Value}
    {f29 : Addr} {od29 an29 : Option Addr} {sl29 : Array (Option Value)} {oc29 kV29 dc29 pm29 cd29 ct29 : Value}
    {f30 : Addr} {od30 an30 : Option Addr} {sl30 : Array (Option Value)} {oc30 kV30 dc30 pm30 cd30 ct30 : Value}
    {f31 : Addr} {od31 an31 : Option Addr} {sl31 : Array (Option Value)} {oc31 kV31 dc31 pm31 cd31 ct31 : Value}
    {f32 : Addr} {od32 an32 : Option Addr} {sl32 : Array (Option Value)} {oc32 kV32 dc32 pm32 cd32 ct32 : Value}
    {f33 : Addr} {od33 an33 : Option Addr} {sl33 : Array (Option Value)} {oc33 kV33 dc33 pm33 cd33 ct33 : Value}
    {f34 : Addr} {od34 an34 : Option Addr} {sl34 : Array (Option Value)} {oc34 kV34 dc34 pm34 cd34 ct34 : Value}
    {f35 : Addr} {od35 an35 : Option Addr} {sl35 : Array (Option Value)} {oc35 kV35 dc35 pm35 cd35 ct35 : Value}
    {f36 : Addr} {od36 an36 : Option Addr} {sl36 : Array (Option Value)} {oc36 kV36 dc36 pm36 cd36 ct36 : Value}
    {f37 : Addr} {od37 an37 : Option Addr} {sl37 : Array (Option Value)} {oc37 kV37 dc37 pm37 cd37 ct37 : Value}
    {f38 : Addr} {od38 an38 : Option Addr} {sl38 : Array (Option Value)} {oc38 kV38 dc38 pm38 cd38 ct38 : Value}
    {f39 : Addr} {od39 an39 : Option Addr} {sl39 : Array (Option Value)} {oc39 kV39 dc39 pm39 cd39 ct39 : Value}
    {f40 : Addr} {od40 an40 : Option Addr} {sl40 : Array (Option Value)} {oc40 kV40 dc40 pm40 cd40 ct40 : Value}
    {f41 : Addr} {od41 an41 : Option Addr} {sl41 : Array (Option Value)} {oc41 kV41 dc41 pm41 cd41 ct41 : Value}
    {f42 : Addr} {od42 an42 : Option Addr} {sl42 : Array (Option Value)} {oc42 kV42 dc42 pm42 cd42 ct42 : Value}
    {f43 : Addr} {od43 an43 : Option Addr} {sl43 : Array (Option Value)} {oc43 kV43 dc43 pm43 cd43 ct43 : Value}
    {f44 : Addr} {od44 an44 : Option Addr} {sl44 : Array (Option Value)} {oc44 kV44 dc44 pm44 cd44 ct44 : Value}
    {f45 : Addr} {od45 an45 : Option Addr} {sl45 : Array (Option Value)} {oc45 kV45 dc45 pm45 cd45 ct45 : Value}
    {P_Book_size : Addr} {R_Book_size : List Value}
    {f46 : Addr} {od46 an46 : Option Addr} {sl46 : Array (Option Value)} {oc46 kV46 dc46 pm46 cd46 ct46 : Value}
    {f47 : Addr} {od47 an47 : Option Addr} {sl47 : Array (Option Value)} {oc47 kV47 dc47 pm47 cd47 ct47 : Value}
    {f48 : Addr} {od48 an48 : Option Addr} {sl48 : Array (Option Value)} {oc48 kV48 dc48 pm48 cd48 ct48 : Value}
    {f49 : Addr} {od49 an49 : Option Addr} {sl49 : Array (Option Value)} {oc49 kV49 dc49 pm49 cd49 ct49 : Value}
    {f50 : Addr} {od50 an50 : Option Addr} {sl50 : Array (Option Value)} {oc50 kV50 dc50 pm50 cd50 ct50 : Value}
    {f51 : Addr} {od51 an51 : Option Addr} {sl51 : Array (Option Value)} {oc51 kV51 dc51 pm51 cd51 ct51 : Value}
    {U_Book_MOST_LETTERS : Tok}
    {U_Book_MOST_RULES : Tok}
    {Q_MANNERS : Addr} {qd_MANNERS : Option Addr} {qs_MANNERS : Array (Option Value)} {qi_MANNERS : Array Value} {qn_MANNERS : Nat}
    {C_BadCount : Addr}
    {fx_BadCount cda_BadCount cc_BadCount : Addr} {odx_BadCount cld_BadCount : Option Addr} {slx_BadCount csl_BadCount : Array (Option Value)} {ocx_BadCount dcx_BadCount pmx_BadCount ctx_BadCount ccl_BadCount of1_BadCount : Value} {of2_BadCount oo1_BadCount : Option Addr} {of3_BadCount : Array Value} {of4_BadCount oo3_BadCount : Array (Option Value)} {of5_BadCount : Tok} {oo2_BadCount : ClassData}
    {C_TooMany : Addr}
    {fx_TooMany cda_TooMany cc_TooMany : Addr} {odx_TooMany cld_TooMany : Option Addr} {slx_TooMany csl_TooMany : Array (Option Value)} {ocx_TooMany dcx_TooMany pmx_TooMany ctx_TooMany ccl_TooMany of1_TooMany : Value} {of2_TooMany oo1_TooMany : Option Addr} {of3_TooMany : Array Value} {of4_TooMany oo3_TooMany : Array (Option Value)} {of5_TooMany : Tok} {oo2_TooMany : ClassData}
    {C_BadVerdict : Addr}
    {fx_BadVerdict cda_BadVerdict cc_BadVerdict : Addr} {odx_BadVerdict cld_BadVerdict : Option Addr} {slx_BadVerdict csl_BadVerdict : Array (Option Value)} {ocx_BadVerdict dcx_BadVerdict pmx_BadVerdict ctx_BadVerdict ccl_BadVerdict of1_BadVerdict : Value} {of2_BadVerdict oo1_BadVerdict : Option Addr} {of3_BadVerdict : Array Value} {of4_BadVerdict oo3_BadVerdict : Array (Option Value)} {of5_BadVerdict : Tok} {oo2_BadVerdict : ClassData}
    {C_BadRule : Addr}
    {fx_BadRule cda_BadRule cc_BadRule : Addr} {odx_BadRule cld_BadRule : Option Addr} {slx_BadRule csl_BadRule : Array (Option Value)} {ocx_BadRule dcx_BadRule pmx_BadRule ctx_BadRule ccl_BadRule of1_BadRule : Value} {of2_BadRule oo1_BadRule : Option Addr} {of3_BadRule : Array Value} {of4_BadRule oo3_BadRule : Array (Option Value)} {of5_BadRule : Tok} {oo2_BadRule : ClassData}
    {C_UnknownManner : Addr}
    {fx_UnknownManner cda_UnknownManner cc_UnknownManner : Addr} {odx_UnknownManner cld_UnknownManner : Option Addr} {slx_UnknownManner csl_UnknownManner : Array (Option Value)} {ocx_UnknownManner dcx_UnknownManner pmx_UnknownManner ctx_UnknownManner ccl_UnknownManner of1_UnknownManner : Value} {of2_UnknownManner oo1_UnknownManner : Option Addr} {of3_UnknownManner : Array Value} {of4_UnknownManner oo3_UnknownManner : Array (Option Value)} {of5_UnknownManner : Tok} {oo2_UnknownManner : ClassData}
    {C_NoFit : Addr}
    {fx_NoFit cda_NoFit cc_NoFit : Addr} {odx_NoFit cld_NoFit : Option Addr} {slx_NoFit csl_NoFit : Array (Option Value)} {ocx_NoFit dcx_NoFit pmx_NoFit ctx_NoFit ccl_NoFit of1_NoFit : Value} {of2_NoFit oo1_NoFit : Option Addr} {of3_NoFit : Array Value} {of4_NoFit oo3_NoFit : Array (Option Value)} {of5_NoFit : Tok} {oo2_NoFit : ClassData}
    {C_BadTable : Addr}
    {fx_BadTable cda_BadTable cc_BadTable : Addr} {odx_BadTable cld_BadTable : Option Addr} {slx_BadTable csl_BadTable : Array (Option Value)} {ocx_BadTable dcx_BadTable pmx_BadTable ctx_BadTable ccl_BadTable of1_BadTable : Value} {of2_BadTable oo1_BadTable : Option Addr} {of3_BadTable : Array Value} {of4_BadTable oo3_BadTable : Array (Option Value)} {of5_BadTable : Tok} {oo2_BadTable : ClassData}
    {Tk_VERDICT_LIMIT : Tok}
    {Tk_SELECTION_LIMIT : Tok}
    {Tk_TABLE_LETTERS : Tok}
    (aC_Seen : PySem.W.nsIn K mainGlobals "Seen" = some (some (.ref C_Seen)))
    (aC_Book : PySem.W.nsIn K mainGlobals "Book" = some (some (.ref C_Book)))
    (aC_Table : PySem.W.nsIn K mainGlobals "Table" = some (some (.ref C_Table)))
    (a1 : PySem.W.nsIn K mainGlobals "_law_cell" = some (some (.ref f1)))
    (l1 : K.lookup f1 = some ⟨oc1, od1, .func (PySem.W.fnOf "_law_cell" "_law_cell" (defArgs s__law_cell) (defBody s__law_cell) (defScope s__law_cell) .none kV1 dc1 pm1 an1 cd1 ct1), sl1⟩)
    (c1 : PySem.W.codeIn K cd1 "_law_cell" = true)
    (k1 : PySem.W.keepIn K (.ref f1) = true)
    (a2 : PySem.W.nsIn K mainGlobals "_law_numbers" = some (some (.ref f2)))
    (l2 : K.lookup f2 = some ⟨oc2, od2, .func (PySem.W.fnOf "_law_numbers" "_law_numbers" (defArgs s__law_numbers) (defBody s__law_numbers) (defScope s__law_numbers) .none kV2 dc2 pm2 an2 cd2 ct2), sl2⟩)
    (c2 : PySem.W.codeIn K cd2 "_law_numbers" = true)
    (k2 : PySem.W.keepIn K (.ref f2) = true)
    (a3 : PySem.W.nsIn K mainGlobals "_law_rules" = some (some (.ref f3)))
    (l3 : K.lookup f3 = some ⟨oc3, od3, .func (PySem.W.fnOf "_law_rules" "_law_rules" (defArgs s__law_rules) (defBody s__law_rules) (defScope s__law_rules) .none kV3 dc3 pm3 an3 cd3 ct3), sl3⟩)
    (c3 : PySem.W.codeIn K cd3 "_law_rules" = true)
    (k3 : PySem.W.keepIn K (.ref f3) = true)
    (a4 : PySem.W.nsIn K mainGlobals "_law_meet" = some (some (.ref f4)))
    (l4 : K.lookup f4 = some ⟨oc4, od4, .func (PySem.W.fnOf "_law_meet" "_law_meet" (defArgs s__law_meet) (defBody s__law_meet) (defScope s__law_meet) .none kV4 dc4 pm4 an4 cd4 ct4), sl4⟩)
    (c4 : PySem.W.codeIn K cd4 "_law_meet" = true)
    (k4 : PySem.W.keepIn K (.ref f4) = true)
    (a5 : PySem.W.nsIn K mainGlobals "_law_due" = some (some (.ref f5)))
    (l5 : K.lookup f5 = some ⟨oc5, od5, .func (PySem.W.fnOf "_law_due" "_law_due" (defArgs s__law_due) (defBody s__law_due) (defScope s__law_due) .none kV5 dc5 pm5 an5 cd5 ct5), sl5⟩)
    (c5 : PySem.W.codeIn K cd5 "_law_due" = true)
    (k5 : PySem.W.keepIn K (.ref f5) = true)
    (a6 : PySem.W.nsIn K mainGlobals "_law_holds" = some (some (.ref f6)))
    (l6 : K.lookup f6 = some ⟨oc6, od6, .func (PySem.W.fnOf "_law_holds" "_law_holds" (defArgs s__law_holds) (defBody s__law_holds) (defScope s__law_holds) .none kV6 dc6 pm6 an6 cd6 ct6), sl6⟩)
    (c6 : PySem.W.codeIn K cd6 "_law_holds" = true)
    (k6 : PySem.W.keepIn K (.ref f6) = true)
    (a7 : PySem.W.nsIn K mainGlobals "everything" = some (some (.ref f7)))
    (l7 : K.lookup f7 = some ⟨oc7, od7, .func (PySem.W.fnOf "everything" "everything" (defArgs s_everything) (defBody s_everything) (defScope s_everything) .none kV7 dc7 pm7 an7 cd7 ct7), sl7⟩)
    (c7 : PySem.W.codeIn K cd7 "everything" = true)
    (k7 : PySem.W.keepIn K (.ref f7) = true)
    (a8 : PySem.W.nsIn K mainGlobals "is_prop" = some (some (.ref f8)))
    (l8 : K.lookup f8 = some ⟨oc8, od8, .func (PySem.W.fnOf "is_prop" "is_prop" (defArgs s_is_prop) (defBody s_is_prop) (defScope s_is_prop) .none kV8 dc8 pm8 an8 cd8 ct8), sl8⟩)
    (c8 : PySem.W.codeIn K cd8 "is_prop" = true)
    (k8 : PySem.W.keepIn K (.ref f8) = true)
    (a9 : PySem.W.findIn K (.ref C_Seen) "__init__" = some (some (.ref f9)))
    (l9 : K.lookup f9 = some ⟨oc9, od9, .func (PySem.W.fnOf "__init__" "Seen.__init__" (defArgs s_Seen_init) (defBody s_Seen_init) (defScope s_Seen_init) .none kV9 dc9 pm9 an9 cd9 ct9), sl9⟩)
    (c9 : PySem.W.codeIn K cd9 "Seen.__init__" = true)
    (k9 : PySem.W.keepIn K (.ref f9) = true)
    (i9 : PySem.W.isFn K (.ref f9) = true)
    (mk_Seen : PySem.W.makesIn K C_Seen = true)
    (kc_Seen : PySem.W.keepIn K (.ref C_Seen) = true)
    (a10 : PySem.W.findIn K (.ref C_Book) "__init__" = some (some (.ref f10)))
    (l10 : K.lookup f10 = some ⟨oc10, od10, .func (PySem.W.fnOf "__init__" "Book.__init__" (defArgs s_Book_init) (defBody s_Book_init) (defScope s_Book_init) .none kV10 dc10 pm10 an10 cd10 ct10), sl10⟩)
    (c10 : PySem.W.codeIn K cd10 "Book.__init__" = true)
    (k10 : PySem.W.keepIn K (.ref f10) = true)
    (i10 : PySem.W.isFn K (.ref f10) = true)
    (mk_Book : PySem.W.makesIn K C_Book = true)
    (kc_Book : PySem.W.keepIn K (.ref C_Book) = true)
    (a11 : PySem.W.nsIn K mainGlobals "within" = some (some (.ref f11)))
    (l11 : K.lookup f11 = some ⟨oc11, od11, .func (PySem.W.fnOf "within" "within" (defArgs s_within) (defBody s_within) (defScope s_within) .none kV11 dc11 pm11 an11 cd11 ct11), sl11⟩)
    (c11 : PySem.W.codeIn K cd11 "within" = true)
    (k11 : PySem.W.keepIn K (.ref f11) = true)
    (a12 : PySem.W.nsIn K mainGlobals "switches" = some (some (.ref f12)))
    (l12 : K.lookup f12 = some ⟨oc12, od12, .func (PySem.W.fnOf "switches" "switches" (defArgs s_switches) (defBody s_switches) (defScope s_switches) .none kV12 dc12 pm12 an12 cd12 ct12), sl12⟩)
    (c12 : PySem.W.codeIn K cd12 "switches" = true)
    (k12 : PySem.W.keepIn K (.ref f12) = true)
    (a13 : PySem.W.findIn K (.ref C_Book) "__iter__" = some (some (.ref f13)))
    (l13 : K.lookup f13 = some ⟨oc13, od13, .func (PySem.W.fnOf "__iter__" "Book.__iter__" (defArgs s_Book_iter) (defBody s_Book_iter) (defScope s_Book_iter) .none kV13 dc13 pm13 an13 cd13 ct13), sl13⟩)
    (c13 : PySem.W.codeIn K cd13 "Book.__iter__" = true)
    (k13 : PySem.W.keepIn K (.ref f13) = true)
    (i13 : PySem.W.isFn K (.ref f13) = true)
    (a14 : PySem.W.nsIn K mainGlobals "meet_heads" = some (some (.ref f14)))
    (l14 : K.lookup f14 = some ⟨oc14, od14, .func (PySem.W.fnOf "meet_heads" "meet_heads" (defArgs s_meet_heads) (defBody s_meet_heads) (defScope s_meet_heads) .none kV14 dc14 pm14 an14 cd14 ct14), sl14⟩)
    (c14 : PySem.W.codeIn K cd14 "meet_heads" = true)
    (k14 : PySem.W.keepIn K (.ref f14) = true)
    (a15 : PySem.W.nsIn K mainGlobals "steps" = some (some (.ref f15)))
    (l15 : K.lookup f15 = some ⟨oc15, od15, .func (PySem.W.fnOf "steps" "steps" (defArgs s_steps) (defBody s_steps) (defScope s_steps) .none kV15 dc15 pm15 an15 cd15 ct15), sl15⟩)
    (c15 : PySem.W.codeIn K cd15 "steps" = true)
    (k15 : PySem.W.keepIn K (.ref f15) = true)
    (a16 : PySem.W.nsIn K mainGlobals "settle" = some (some (.ref f16)))
    (l16 : K.lookup f16 = some ⟨oc16, od16, .func (PySem.W.fnOf "settle" "settle" (defArgs s_settle) (defBody s_settle) (defScope s_settle) .none kV16 dc16 pm16 an16 cd16 ct16), sl16⟩)
    (c16 : PySem.W.codeIn K cd16 "settle" = true)
    (k16 : PySem.W.keepIn K (.ref f16) = true)
    (a17 : PySem.W.nsIn K mainGlobals "output" = some (some (.ref f17)))
    (l17 : K.lookup f17 = some ⟨oc17, od17, .func (PySem.W.fnOf "output" "output" (defArgs s_output) (defBody s_output) (defScope s_output) .none kV17 dc17 pm17 an17 cd17 ct17), sl17⟩)
    (c17 : PySem.W.codeIn K cd17 "output" = true)
    (k17 : PySem.W.keepIn K (.ref f17) = true)
    (a18 : PySem.W.nsIn K mainGlobals "worlds_of" = some (some (.ref f18)))
    (l18 : K.lookup f18 = some ⟨oc18, od18, .func (PySem.W.fnOf "worlds_of" "worlds_of" (defArgs s_worlds_of) (defBody s_worlds_of) (defScope s_worlds_of) .none kV18 dc18 pm18 an18 cd18 ct18), sl18⟩)
    (c18 : PySem.W.codeIn K cd18 "worlds_of" = true)
    (k18 : PySem.W.keepIn K (.ref f18) = true)
    (a19 : PySem.W.nsIn K mainGlobals "is_stable" = some (some (.ref f19)))
    (l19 : K.lookup f19 = some ⟨oc19, od19, .func (PySem.W.fnOf "is_stable" "is_stable" (defArgs s_is_stable) (defBody s_is_stable) (defScope s_is_stable) .none kV19 dc19 pm19 an19 cd19 ct19), sl19⟩)
    (c19 : PySem.W.codeIn K cd19 "is_stable" = true)
    (k19 : PySem.W.keepIn K (.ref f19) = true)
    (a20 : PySem.W.nsIn K mainGlobals "due" = some (some (.ref f20)))
    (l20 : K.lookup f20 = some ⟨oc20, od20, .func (PySem.W.fnOf "due" "due" (defArgs s_due) (defBody s_due) (defScope s_due) .none kV20 dc20 pm20 an20 cd20 ct20), sl20⟩)
    (c20 : PySem.W.codeIn K cd20 "due" = true)
    (k20 : PySem.W.keepIn K (.ref f20) = true)
    (a21 : PySem.W.nsIn K mainGlobals "is_due" = some (some (.ref f21)))
    (l21 : K.lookup f21 = some ⟨oc21, od21, .func (PySem.W.fnOf "is_due" "is_due" (defArgs s_is_due) (defBody s_is_due) (defScope s_is_due) .none kV21 dc21 pm21 an21 cd21 ct21), sl21⟩)
    (c21 : PySem.W.codeIn K cd21 "is_due" = true)
    (k21 : PySem.W.keepIn K (.ref f21) = true)
    (a22 : PySem.W.nsIn K mainGlobals "first_due" = some (some (.ref f22)))
    (l22 : K.lookup f22 = some ⟨oc22, od22, .func (PySem.W.fnOf "first_due" "first_due" (defArgs s_first_due) (defBody s_first_due) (defScope s_first_due) .none kV22 dc22 pm22 an22 cd22 ct22), sl22⟩)
    (c22 : PySem.W.codeIn K cd22 "first_due" = true)
    (k22 : PySem.W.keepIn K (.ref f22) = true)
    (a23 : PySem.W.nsIn K mainGlobals "conflict" = some (some (.ref f23)))
    (l23 : K.lookup f23 = some ⟨oc23, od23, .func (PySem.W.fnOf "conflict" "conflict" (defArgs s_conflict) (defBody s_conflict) (defScope s_conflict) .none kV23 dc23 pm23 an23 cd23 ct23), sl23⟩)
    (c23 : PySem.W.codeIn K cd23 "conflict" = true)
    (k23 : PySem.W.keepIn K (.ref f23) = true)
    (a24 : PySem.W.nsIn K mainGlobals "fitting_book" = some (some (.ref f24)))
    (l24 : K.lookup f24 = some ⟨oc24, od24, .func (PySem.W.fnOf "fitting_book" "fitting_book" (defArgs s_fitting_book) (defBody s_fitting_book) (defScope s_fitting_book) .none kV24 dc24 pm24 an24 cd24 ct24), sl24⟩)
    (c24 : PySem.W.codeIn K cd24 "fitting_book" = true)
    (k24 : PySem.W.keepIn K (.ref f24) = true)
    (a25 : PySem.W.nsIn K mainGlobals "_law_some" = some (some (.ref f25)))
    (l25 : K.lookup f25 = some ⟨oc25, od25, .func (PySem.W.fnOf "_law_some" "_law_some" (defArgs s__law_some) (defBody s__law_some) (defScope s__law_some) .none kV25 dc25 pm25 an25 cd25 ct25), sl25⟩)
    (c25 : PySem.W.codeIn K cd25 "_law_some" = true)
    (k25 : PySem.W.keepIn K (.ref f25) = true)
    (a26 : PySem.W.findIn K (.ref C_Book) "with_rule" = some (some (.ref f26)))
    (l26 : K.lookup f26 = some ⟨oc26, od26, .func (PySem.W.fnOf "with_rule" "Book.with_rule" (defArgs s_Book_with_rule) (defBody s_Book_with_rule) (defScope s_Book_with_rule) .none kV26 dc26 pm26 an26 cd26 ct26), sl26⟩)
    (c26 : PySem.W.codeIn K cd26 "Book.with_rule" = true)
    (k26 : PySem.W.keepIn K (.ref f26) = true)
    (i26 : PySem.W.isFn K (.ref f26) = true)
    (a27 : PySem.W.nsIn K mainGlobals "status_by" = some (some (.ref f27)))
    (l27 : K.lookup f27 = some ⟨oc27, od27, .func (PySem.W.fnOf "status_by" "status_by" (defArgs s_status_by) (defBody s_status_by) (defScope s_status_by) .none kV27 dc27 pm27 an27 cd27 ct27), sl27⟩)
    (c27 : PySem.W.codeIn K cd27 "status_by" = true)
    (k27 : PySem.W.keepIn K (.ref f27) = true)
    (a28 : PySem.W.nsIn K mainGlobals "checked_book" = some (some (.ref f28)))
    (l28 : K.lookup f28 = some ⟨oc28, od28, .func (PySem.W.fnOf "checked_book" "checked_book" (defArgs s_checked_book) (defBody s_checked_book) (defScope s_checked_book) .none kV28 dc28 pm28 an28 cd28 ct28), sl28⟩)
    (c28 : PySem.W.codeIn K cd28 "checked_book" = true)
    (k28 : PySem.W.keepIn K (.ref f28) = true)
    (a29 : PySem.W.nsIn K mainGlobals "status" = some (some (.ref f29)))
    (l29 : K.lookup f29 = some ⟨oc29, od29, .func (PySem.W.fnOf "status" "status" (defArgs s_status) (defBody s_status) (defScope s_status) .none kV29 dc29 pm29 an29 cd29 ct29), sl29⟩)
    (c29 : PySem.W.codeIn K cd29 "status" = true)
    (k29 : PySem.W.keepIn K (.ref f29) = true)
    (a30 : PySem.W.nsIn K mainGlobals "_law_status" = some (some (.ref f30)))
    (l30 : K.lookup f30 = some ⟨oc30, od30, .func (PySem.W.fnOf "_law_status" "_law_status" (defArgs s__law_status) (defBody s__law_status) (defScope s__law_status) .none kV30 dc30 pm30 an30 cd30 ct30), sl30⟩)
    (c30 : PySem.W.codeIn K cd30 "_law_status" = true)
    (k30 : PySem.W.keepIn K (.ref f30) = true)
    (a31 : PySem.W.nsIn K mainGlobals "fitting_manners" = some (some (.ref f31)))
    (l31 : K.lookup f31 = some ⟨oc31, od31, .func (PySem.W.fnOf "fitting_manners" "fitting_manners" (defArgs s_fitting_manners) (defBody s_fitting_manners) (defScope s_fitting_manners) .none kV31 dc31 pm31 an31 cd31 ct31), sl31⟩)
    (c31 : PySem.W.codeIn K cd31 "fitting_manners" = true)
    (k31 : PySem.W.keepIn K (.ref f31) = true)
    (a32 : PySem.W.nsIn K mainGlobals "selections" = some (some (.ref f32)))
    (l32 : K.lookup f32 = some ⟨oc32, od32, .func (PySem.W.fnOf "selections" "selections" (defArgs s_selections) (defBody s_selections) (defScope s_selections) .none kV32 dc32 pm32 an32 cd32 ct32), sl32⟩)
    (c32 : PySem.W.codeIn K cd32 "selections" = true)
    (k32 : PySem.W.keepIn K (.ref f32) = true)
    (a33 : PySem.W.nsIn K mainGlobals "rest" = some (some (.ref f33)))
    (l33 : K.lookup f33 = some ⟨oc33, od33, .func (PySem.W.fnOf "rest" "rest" (defArgs s_rest) (defBody s_rest) (defScope s_rest) .none kV33 dc33 pm33 an33 cd33 ct33), sl33⟩)
    (c33 : PySem.W.codeIn K cd33 "rest" = true)
    (k33 : PySem.W.keepIn K (.ref f33) = true)
    (a34 : PySem.W.nsIn K mainGlobals "in_order" = some (some (.ref f34)))
    (l34 : K.lookup f34 = some ⟨oc34, od34, .func (PySem.W.fnOf "in_order" "in_order" (defArgs s_in_order) (defBody s_in_order) (defScope s_in_order) .none kV34 dc34 pm34 an34 cd34 ct34), sl34⟩)
    (c34 : PySem.W.codeIn K cd34 "in_order" = true)
    (k34 : PySem.W.keepIn K (.ref f34) = true)
    (a35 : PySem.W.nsIn K mainGlobals "mask_of" = some (some (.ref f35)))
    (l35 : K.lookup f35 = some ⟨oc35, od35, .func (PySem.W.fnOf "mask_of" "mask_of" (defArgs s_mask_of) (defBody s_mask_of) (defScope s_mask_of) .none kV35 dc35 pm35 an35 cd35 ct35), sl35⟩)
    (c35 : PySem.W.codeIn K cd35 "mask_of" = true)
    (k35 : PySem.W.keepIn K (.ref f35) = true)
    (a36 : PySem.W.nsIn K mainGlobals "least" = some (some (.ref f36)))
    (l36 : K.lookup f36 = some ⟨oc36, od36, .func (PySem.W.fnOf "least" "least" (defArgs s_least) (defBody s_least) (defScope s_least) .none kV36 dc36 pm36 an36 cd36 ct36), sl36⟩)
    (c36 : PySem.W.codeIn K cd36 "least" = true)
    (k36 : PySem.W.keepIn K (.ref f36) = true)
    (a37 : PySem.W.nsIn K mainGlobals "least_drops" = some (some (.ref f37)))
    (l37 : K.lookup f37 = some ⟨oc37, od37, .func (PySem.W.fnOf "least_drops" "least_drops" (defArgs s_least_drops) (defBody s_least_drops) (defScope s_least_drops) .none kV37 dc37 pm37 an37 cd37 ct37), sl37⟩)
    (c37 : PySem.W.codeIn K cd37 "least_drops" = true)
    (k37 : PySem.W.keepIn K (.ref f37) = true)
    (a38 : PySem.W.findIn K (.ref C_Table) "__contains__" = some (some (.ref f38)))
    (l38 : K.lookup f38 = some ⟨oc38, od38, .func (PySem.W.fnOf "__contains__" "Table.__contains__" (defArgs s_Table___contains__) (defBody s_Table___contains__) (defScope s_Table___contains__) .none kV38 dc38 pm38 an38 cd38 ct38), sl38⟩)
    (c38 : PySem.W.codeIn K cd38 "Table.__contains__" = true)
    (k38 : PySem.W.keepIn K (.ref f38) = true)
    (i38 : PySem.W.isFn K (.ref f38) = true)
    (a39 : PySem.W.nsIn K mainGlobals "claims_of" = some (some (.ref f39)))
    (l39 : K.lookup f39 = some ⟨oc39, od39, .func (PySem.W.fnOf "claims_of" "claims_of" (defArgs s_claims_of) (defBody s_claims_of) (defScope s_claims_of) .none kV39 dc39 pm39 an39 cd39 ct39), sl39⟩)
    (c39 : PySem.W.codeIn K cd39 "claims_of" = true)
    (k39 : PySem.W.keepIn K (.ref f39) = true)
    (a40 : PySem.W.nsIn K mainGlobals "gap_in_row" = some (some (.ref f40)))
    (l40 : K.lookup f40 = some ⟨oc40, od40, .func (PySem.W.fnOf "gap_in_row" "gap_in_row" (defArgs s_gap_in_row) (defBody s_gap_in_row) (defScope s_gap_in_row) .none kV40 dc40 pm40 an40 cd40 ct40), sl40⟩)
    (c40 : PySem.W.codeIn K cd40 "gap_in_row" = true)
    (k40 : PySem.W.keepIn K (.ref f40) = true)
    (a41 : PySem.W.nsIn K mainGlobals "meet_of" = some (some (.ref f41)))
    (l41 : K.lookup f41 = some ⟨oc41, od41, .func (PySem.W.fnOf "meet_of" "meet_of" (defArgs s_meet_of) (defBody s_meet_of) (defScope s_meet_of) .none kV41 dc41 pm41 an41 cd41 ct41), sl41⟩)
    (c41 : PySem.W.codeIn K cd41 "meet_of" = true)
    (k41 : PySem.W.keepIn K (.ref f41) = true)
    (a42 : PySem.W.nsIn K mainGlobals "gap_at_facts" = some (some (.ref f42)))
    (l42 : K.lookup f42 = some ⟨oc42, od42, .func (PySem.W.fnOf "gap_at_facts" "gap_at_facts" (defArgs s_gap_at_facts) (defBody s_gap_at_facts) (defScope s_gap_at_facts) .none kV42 dc42 pm42 an42 cd42 ct42), sl42⟩)
    (c42 : PySem.W.codeIn K cd42 "gap_at_facts" = true)
    (k42 : PySem.W.keepIn K (.ref f42) = true)
    (a43 : PySem.W.nsIn K mainGlobals "gap" = some (some (.ref f43)))
    (l43 : K.lookup f43 = some ⟨oc43, od43, .func (PySem.W.fnOf "gap" "gap" (defArgs s_gap) (defBody s_gap) (defScope s_gap) .none kV43 dc43 pm43 an43 cd43 ct43), sl43⟩)
    (c43 : PySem.W.codeIn K cd43 "gap" = true)
    (k43 : PySem.W.keepIn K (.ref f43) = true)
    (a44 : PySem.W.findIn K (.ref C_Book) "sub" = some (some (.ref f44)))
    (l44 : K.lookup f44 = some ⟨oc44, od44, .func (PySem.W.fnOf "sub" "Book.sub" (defArgs s_Book_sub) (defBody s_Book_sub) (defScope s_Book_sub) .none kV44 dc44 pm44 an44 cd44 ct44), sl44⟩)
    (c44 : PySem.W.codeIn K cd44 "Book.sub" = true)
    (k44 : PySem.W.keepIn K (.ref f44) = true)
    (i44 : PySem.W.isFn K (.ref f44) = true)
    (pa_Book_size : PySem.W.findIn K (.ref C_Book) "size" = some (some (.ref P_Book_size)))
    (pb_Book_size : PySem.W.specialIn K (.ref P_Book_size) "__get__" = some (some (.builtin "property.__get__")))
    (pc_Book_size : PySem.W.takesIn K (.ref P_Book_size) = some true)
    (pd_Book_size : PySem.W.recIn K P_Book_size "property" = some (.ref f45 :: R_Book_size))
    (l45 : K.lookup f45 = some ⟨oc45, od45, .func (PySem.W.fnOf "size" "Book.size" (defArgs s_Book_size) (defBody s_Book_size) (defScope s_Book_size) .none kV45 dc45 pm45 an45 cd45 ct45), sl45⟩)
    (c45 : PySem.W.codeIn K cd45 "Book.size" = true)
    (k45 : PySem.W.keepIn K (.ref f45) = true)
    (a46 : PySem.W.nsIn K mainGlobals "base" = some (some (.ref f46)))
    (l46 : K.lookup f46 = some ⟨oc46, od46, .func (PySem.W.fnOf "base" "base" (defArgs s_base) (defBody s_base) (defScope s_base) .none kV46 dc46 pm46 an46 cd46 ct46), sl46⟩)
    (c46 : PySem.W.codeIn K cd46 "base" = true)
    (k46 : PySem.W.keepIn K (.ref f46) = true)
    (a47 : PySem.W.nsIn K mainGlobals "book_of" = some (some (.ref f47)))
    (l47 : K.lookup f47 = some ⟨oc47, od47, .func (PySem.W.fnOf "book_of" "book_of" (defArgs s_book_of) (defBody s_book_of) (defScope s_book_of) .none kV47 dc47 pm47 an47 cd47 ct47), sl47⟩)
    (c47 : PySem.W.codeIn K cd47 "book_of" = true)
    (k47 : PySem.W.keepIn K (.ref f47) = true)
    (a48 : PySem.W.findIn K (.ref C_Table) "__init__" = some (some (.ref f48)))
    (l48 : K.lookup f48 = some ⟨oc48, od48, .func (PySem.W.fnOf "__init__" "Table.__init__" (defArgs s_Table_init) (defBody s_Table_init) (defScope s_Table_init) .none kV48 dc48 pm48 an48 cd48 ct48), sl48⟩)
    (c48 : PySem.W.codeIn K cd48 "Table.__init__" = true)
    (k48 : PySem.W.keepIn K (.ref f48) = true)
    (i48 : PySem.W.isFn K (.ref f48) = true)
    (mk_Table : PySem.W.makesIn K C_Table = true)
    (kc_Table : PySem.W.keepIn K (.ref C_Table) = true)
    (a49 : PySem.W.nsIn K mainGlobals "table_of" = some (some (.ref f49)))
    (l49 : K.lookup f49 = some ⟨oc49, od49, .func (PySem.W.fnOf "table_of" "table_of" (defArgs s_table_of) (defBody s_table_of) (defScope s_table_of) .none kV49 dc49 pm49 an49 cd49 ct49), sl49⟩)
    (c49 : PySem.W.codeIn K cd49 "table_of" = true)
    (k49 : PySem.W.keepIn K (.ref f49) = true)
    (a50 : PySem.W.nsIn K mainGlobals "_law_told_back" = some (some (.ref f50)))
    (l50 : K.lookup f50 = some ⟨oc50, od50, .func (PySem.W.fnOf "_law_told_back" "_law_told_back" (defArgs s__law_told_back) (defBody s__law_told_back) (defScope s__law_told_back) .none kV50 dc50 pm50 an50 cd50 ct50), sl50⟩)
    (c50 : PySem.W.codeIn K cd50 "_law_told_back" = true)
    (k50 : PySem.W.keepIn K (.ref f50) = true)
    (a51 : PySem.W.nsIn K mainGlobals "law" = some (some (.ref f51)))
    (l51 : K.lookup f51 = some ⟨oc51, od51, .func (PySem.W.fnOf "law" "law" (defArgs s_law) (defBody s_law) (defScope s_law) .none kV51 dc51 pm51 an51 cd51 ct51), sl51⟩)
    (c51 : PySem.W.codeIn K cd51 "law" = true)
    (k51 : PySem.W.keepIn K (.ref f51) = true)
    (pg_Seen : PySem.W.plainGet K C_Seen Str.empty = true)
    (hd_Seen : PySem.W.hasDictIn K C_Seen = true)
    (po_Seen : PySem.W.plainOver K C_Seen = true)
    (sa_Seen : PySem.W.findIn K (.ref C_Seen) "__setattr__" = some (some (.builtin "object.__setattr__")))
    (n_Seen_no : PySem.W.findIn K (.ref C_Seen) "no" = some none)
    (n_Seen_yes : PySem.W.findIn K (.ref C_Seen) "yes" = some none)
    (n_Seen_n : PySem.W.findIn K (.ref C_Seen) "n" = some none)
    (pg_Book : PySem.W.plainGet K C_Book Str.empty = true)
    (hd_Book : PySem.W.hasDictIn K C_Book = true)
    (po_Book : PySem.W.plainOver K C_Book = true)
    (sa_Book : PySem.W.findIn K (.ref C_Book) "__setattr__" = some (some (.builtin "object.__setattr__")))
    (n_Book_rules : PySem.W.findIn K (.ref C_Book) "rules" = some none)
    (n_Book_n : PySem.W.findIn K (.ref C_Book) "n" = some none)
    (rd_Book : PySem.W.readsIn K C_Book (.type "type") = true)
    (ga_Book : PySem.W.specialIn K (.ref C_Book) "__getattribute__" = some (some (.builtin "type.__getattribute__")))
    (pg_Table : PySem.W.plainGet K C_Table Str.empty = true)
    (hd_Table : PySem.W.hasDictIn K C_Table = true)
    (po_Table : PySem.W.plainOver K C_Table = true)
    (sa_Table : PySem.W.findIn K (.ref C_Table) "__setattr__" = some (some (.builtin "object.__setattr__")))
    (n_Table_rows : PySem.W.findIn K (.ref C_Table) "rows" = some none)
    (n_Table_n : PySem.W.findIn K (.ref C_Table) "n" = some none)
    (cv_Book_MOST_LETTERS : PySem.W.findCls K (.ref C_Book) (.type "type") "MOST_LETTERS" = some (.val (Value.int 4 U_Book_MOST_LETTERS)))
    (cv_Book_MOST_RULES : PySem.W.findCls K (.ref C_Book) (.type "type") "MOST_RULES" = some (.val (Value.int 16 U_Book_MOST_RULES)))
    (qa_MANNERS : PySem.W.nsIn K mainGlobals "MANNERS" = some (some (.ref Q_MANNERS)))
    (ql_MANNERS : K.lookup Q_MANNERS = some ⟨.type "tuple", qd_MANNERS, .seq qi_MANNERS qn_MANNERS, qs_MANNERS⟩)
    (qt_MANNERS : absDs qi_MANNERS.toList = some k_MANNERS)
    (qz_MANNERS : qi_MANNERS.size ≤ lim)
    (z_combinations : PySem.W.nsIn K mainGlobals "combinations" = some (some (.type "itertools.combinations")))
    (qt_top : (l.prog.main.scope.names.lookup ("super" : Str)).isSome = false)
    (qt_file : l.prog.main.file = "/claim/cut.py")
    (th_any : PySem.W.nsIn K cStatics "thirdparty.any" = some none)
    (aC_BadCount : PySem.W.nsIn K mainGlobals "BadCount" = some (some (.ref C_BadCount)))
    (xk_BadCount : PySem.W.keepIn K (.ref C_BadCount) = true)
    (xe_BadCount : PySem.W.subIn K (.ref C_BadCount) (.type "BaseException") = some true)
    (xt_BadCount : PySem.W.typeIn K (.ref C_BadCount) = some (.type "type"))
    (ix_BadCount : PySem.W.findIn K (.ref C_BadCount) "__init__" = some (some (.ref fx_BadCount)))
    (lx_BadCount : K.lookup fx_BadCount = some ⟨ocx_BadCount, odx_BadCount, .func (PySem.W.fnX "__init__" "BadCount.__init__" (defArgs s_BadCount_init) (defBody s_BadCount_init) (defScope s_BadCount_init) [("__class__", cc_BadCount)] .none .none dcx_BadCount pmx_BadCount none (.ref cda_BadCount) ctx_BadCount), slx_BadCount⟩)
    (cx_BadCount : PySem.W.codeIn K (.ref cda_BadCount) "BadCount.__init__" = true)
    (lf_BadCount : K.lookup cda_BadCount = some ⟨of1_BadCount, of2_BadCount, .fields of3_BadCount, of4_BadCount⟩)
    (qt_f_BadCount : of3_BadCount[2]? = some (.str "/claim/cut.py" of5_BadCount))
    (lc_BadCount : K.lookup cc_BadCount = some ⟨ccl_BadCount, cld_BadCount, .cell (some (.ref C_BadCount)), csl_BadCount⟩)
    (lo_BadCount : K.lookup C_BadCount = some ⟨.type "type", oo1_BadCount, .cls oo2_BadCount, oo3_BadCount⟩)
    (qt_o_BadCount : oexOk C_BadCount oo2_BadCount oo3_BadCount = true)
    (sx_BadCount : PySem.W.findIn K (.ref C_BadCount) "__setattr__" = some (some (.builtin "object.__setattr__")))
    (ms_BadCount : PySem.W.mroIn K C_BadCount (.ref C_BadCount) = some true)
    (si_BadCount : PySem.W.ks_superIn K C_BadCount C_BadCount "__init__" = some (some (.builtin "ValueError.__init__")))
    (sb_BadCount : PySem.W.subIn K (.ref C_BadCount) (.type "ValueError") = some true)
    (tx_BadCount : PySem.W.typeIn K (.ref fx_BadCount) = some (.type "function"))
    (xn_BadCount_number : PySem.W.findIn K (.ref C_BadCount) "number" = some none)
    (aC_TooMany : PySem.W.nsIn K mainGlobals "TooMany" = some (some (.ref C_TooMany)))
    (xk_TooMany : PySem.W.keepIn K (.ref C_TooMany) = true)
    (xe_TooMany : PySem.W.subIn K (.ref C_TooMany) (.type "BaseException") = some true)
    (xt_TooMany : PySem.W.typeIn K (.ref C_TooMany) = some (.type "type"))
    (ix_TooMany : PySem.W.findIn K (.ref C_TooMany) "__init__" = some (some (.ref fx_TooMany)))
    (lx_TooMany : K.lookup fx_TooMany = some ⟨ocx_TooMany, odx_TooMany, .func (PySem.W.fnX "__init__" "TooMany.__init__" (defArgs s_TooMany_init) (defBody s_TooMany_init) (defScope s_TooMany_init) [("__class__", cc_TooMany)] .none .none dcx_TooMany pmx_TooMany none (.ref cda_TooMany) ctx_TooMany), slx_TooMany⟩)
    (cx_TooMany : PySem.W.codeIn K (.ref cda_TooMany) "TooMany.__init__" = true)
    (lf_TooMany : K.lookup cda_TooMany = some ⟨of1_TooMany, of2_TooMany, .fields of3_TooMany, of4_TooMany⟩)
    (qt_f_TooMany : of3_TooMany[2]? = some (.str "/claim/cut.py" of5_TooMany))
    (lc_TooMany : K.lookup cc_TooMany = some ⟨ccl_TooMany, cld_TooMany, .cell (some (.ref C_TooMany)), csl_TooMany⟩)
    (lo_TooMany : K.lookup C_TooMany = some ⟨.type "type", oo1_TooMany, .cls oo2_TooMany, oo3_TooMany⟩)
    (qt_o_TooMany : oexOk C_TooMany oo2_TooMany oo3_TooMany = true)
    (sx_TooMany : PySem.W.findIn K (.ref C_TooMany) "__setattr__" = some (some (.builtin "object.__setattr__")))
    (ms_TooMany : PySem.W.mroIn K C_TooMany (.ref C_TooMany) = some true)
    (si_TooMany : PySem.W.ks_superIn K C_TooMany C_TooMany "__init__" = some (some (.builtin "ValueError.__init__")))
    (sb_TooMany : PySem.W.subIn K (.ref C_TooMany) (.type "ValueError") = some true)
    (tx_TooMany : PySem.W.typeIn K (.ref fx_TooMany) = some (.type "function"))
    (xn_TooMany_limit : PySem.W.findIn K (.ref C_TooMany) "limit" = some none)
    (aC_BadVerdict : PySem.W.nsIn K mainGlobals "BadVerdict" = some (some (.ref C_BadVerdict)))
    (xk_BadVerdict : PySem.W.keepIn K (.ref C_BadVerdict) = true)
    (xe_BadVerdict : PySem.W.subIn K (.ref C_BadVerdict) (.type "BaseException") = some true)
    (xt_BadVerdict : PySem.W.typeIn K (.ref C_BadVerdict) = some (.type "type"))
    (ix_BadVerdict : PySem.W.findIn K (.ref C_BadVerdict) "__init__" = some (some (.ref fx_BadVerdict)))
    (lx_BadVerdict : K.lookup fx_BadVerdict = some ⟨ocx_BadVerdict, odx_BadVerdict, .func (PySem.W.fnX "__init__" "BadVerdict.__init__" (defArgs s_BadVerdict_init) (defBody s_BadVerdict_init) (defScope s_BadVerdict_init) [("__class__", cc_BadVerdict)] .none .none dcx_BadVerdict pmx_BadVerdict none (.ref cda_BadVerdict) ctx_BadVerdict), slx_BadVerdict⟩)
    (cx_BadVerdict : PySem.W.codeIn K (.ref cda_BadVerdict) "BadVerdict.__init__" = true)
    (lf_BadVerdict : K.lookup cda_BadVerdict = some ⟨of1_BadVerdict, of2_BadVerdict, .fields of3_BadVerdict, of4_BadVerdict⟩)
    (qt_f_BadVerdict : of3_BadVerdict[2]? = some (.str "/claim/cut.py" of5_BadVerdict))
    (lc_BadVerdict : K.lookup cc_BadVerdict = some ⟨ccl_BadVerdict, cld_BadVerdict, .cell (some (.ref C_BadVerdict)), csl_BadVerdict⟩)
    (lo_BadVerdict : K.lookup C_BadVerdict = some ⟨.type "type", oo1_BadVerdict, .cls oo2_BadVerdict, oo3_BadVerdict⟩)
    (qt_o_BadVerdict : oexOk C_BadVerdict oo2_BadVerdict oo3_BadVerdict = true)
    (sx_BadVerdict : PySem.W.findIn K (.ref C_BadVerdict) "__setattr__" = some (some (.builtin "object.__setattr__")))
    (ms_BadVerdict : PySem.W.mroIn K C_BadVerdict (.ref C_BadVerdict) = some true)
    (si_BadVerdict : PySem.W.ks_superIn K C_BadVerdict C_BadVerdict "__init__" = some (some (.builtin "ValueError.__init__")))
    (sb_BadVerdict : PySem.W.subIn K (.ref C_BadVerdict) (.type "ValueError") = some true)
    (tx_BadVerdict : PySem.W.typeIn K (.ref fx_BadVerdict) = some (.type "function"))
    (xn_BadVerdict_number : PySem.W.findIn K (.ref C_BadVerdict) "number" = some none)
    (aC_BadRule : PySem.W.nsIn K mainGlobals "BadRule" = some (some (.ref C_BadRule)))
    (xk_BadRule : PySem.W.keepIn K (.ref C_BadRule) = true)
    (xe_BadRule : PySem.W.subIn K (.ref C_BadRule) (.type "BaseException") = some true)
    (xt_BadRule : PySem.W.typeIn K (.ref C_BadRule) = some (.type "type"))
    (ix_BadRule : PySem.W.findIn K (.ref C_BadRule) "__init__" = some (some (.ref fx_BadRule)))
    (lx_BadRule : K.lookup fx_BadRule = some ⟨ocx_BadRule, odx_BadRule, .func (PySem.W.fnX "__init__" "BadRule.__init__" (defArgs s_BadRule_init) (defBody s_BadRule_init) (defScope s_BadRule_init) [("__class__", cc_BadRule)] .none .none dcx_BadRule pmx_BadRule none (.ref cda_BadRule) ctx_BadRule), slx_BadRule⟩)
    (cx_BadRule : PySem.W.codeIn K (.ref cda_BadRule) "BadRule.__init__" = true)
    (lf_BadRule : K.lookup cda_BadRule = some ⟨of1_BadRule, of2_BadRule, .fields of3_BadRule, of4_BadRule⟩)
    (qt_f_BadRule : of3_BadRule[2]? = some (.str "/claim/cut.py" of5_BadRule))
    (lc_BadRule : K.lookup cc_BadRule = some ⟨ccl_BadRule, cld_BadRule, .cell (some (.ref C_BadRule)), csl_BadRule⟩)
    (lo_BadRule : K.lookup C_BadRule = some ⟨.type "type", oo1_BadRule, .cls oo2_BadRule, oo3_BadRule⟩)
    (qt_o_BadRule : oexOk C_BadRule oo2_BadRule oo3_BadRule = true)
    (sx_BadRule : PySem.W.findIn K (.ref C_BadRule) "__setattr__" = some (some (.builtin "object.__setattr__")))
    (ms_BadRule : PySem.W.mroIn K C_BadRule (.ref C_BadRule) = some true)
    (si_BadRule : PySem.W.ks_superIn K C_BadRule C_BadRule "__init__" = some (some (.builtin "ValueError.__init__")))
    (sb_BadRule : PySem.W.subIn K (.ref C_BadRule) (.type "ValueError") = some true)
    (tx_BadRule : PySem.W.typeIn K (.ref fx_BadRule) = some (.type "function"))
    (xn_BadRule_number : PySem.W.findIn K (.ref C_BadRule) "number" = some none)
    (aC_UnknownManner : PySem.W.nsIn K mainGlobals "UnknownManner" = some (some (.ref C_UnknownManner)))
    (xk_UnknownManner : PySem.W.keepIn K (.ref C_UnknownManner) = true)
    (xe_UnknownManner : PySem.W.subIn K (.ref C_UnknownManner) (.type "BaseException") = some true)
    (xt_UnknownManner : PySem.W.typeIn K (.ref C_UnknownManner) = some (.type "type"))
    (ix_UnknownManner : PySem.W.findIn K (.ref C_UnknownManner) "__init__" = some (some (.ref fx_UnknownManner)))
    (lx_UnknownManner : K.lookup fx_UnknownManner = some ⟨ocx_UnknownManner, odx_UnknownManner, .func (PySem.W.fnX "__init__" "UnknownManner.__init__" (defArgs s_UnknownManner_init) (defBody s_UnknownManner_init) (defScope s_UnknownManner_init) [("__class__", cc_UnknownManner)] .none .none dcx_UnknownManner pmx_UnknownManner none (.ref cda_UnknownManner) ctx_UnknownManner), slx_UnknownManner⟩)
    (cx_UnknownManner : PySem.W.codeIn K (.ref cda_UnknownManner) "UnknownManner.__init__" = true)
    (lf_UnknownManner : K.lookup cda_UnknownManner = some ⟨of1_UnknownManner, of2_UnknownManner, .fields of3_UnknownManner, of4_UnknownManner⟩)
    (qt_f_UnknownManner : of3_UnknownManner[2]? = some (.str "/claim/cut.py" of5_UnknownManner))
    (lc_UnknownManner : K.lookup cc_UnknownManner = some ⟨ccl_UnknownManner, cld_UnknownManner, .cell (some (.ref C_UnknownManner)), csl_UnknownManner⟩)
    (lo_UnknownManner : K.lookup C_UnknownManner = some ⟨.type "type", oo1_UnknownManner, .cls oo2_UnknownManner, oo3_UnknownManner⟩)
    (qt_o_UnknownManner : oexOk C_UnknownManner oo2_UnknownManner oo3_UnknownManner = true)
    (sx_UnknownManner : PySem.W.findIn K (.ref C_UnknownManner) "__setattr__" = some (some (.builtin "object.__setattr__")))
    (ms_UnknownManner : PySem.W.mroIn K C_UnknownManner (.ref C_UnknownManner) = some true)
    (si_UnknownManner : PySem.W.ks_superIn K C_UnknownManner C_UnknownManner "__init__" = some (some (.builtin "ValueError.__init__")))
    (sb_UnknownManner : PySem.W.subIn K (.ref C_UnknownManner) (.type "ValueError") = some true)
    (tx_UnknownManner : PySem.W.typeIn K (.ref fx_UnknownManner) = some (.type "function"))
    (xn_UnknownManner_manner : PySem.W.findIn K (.ref C_UnknownManner) "manner" = some none)
    (aC_NoFit : PySem.W.nsIn K mainGlobals "NoFit" = some (some (.ref C_NoFit)))
    (xk_NoFit : PySem.W.keepIn K (.ref C_NoFit) = true)
    (xe_NoFit : PySem.W.subIn K (.ref C_NoFit) (.type "BaseException") = some true)
    (xt_NoFit : PySem.W.typeIn K (.ref C_NoFit) = some (.type "type"))
    (ix_NoFit : PySem.W.findIn K (.ref C_NoFit) "__init__" = some (some (.ref fx_NoFit)))
    (lx_NoFit : K.lookup fx_NoFit = some ⟨ocx_NoFit, odx_NoFit, .func (PySem.W.fnX "__init__" "NoFit.__init__" (defArgs s_NoFit_init) (defBody s_NoFit_init) (defScope s_NoFit_init) [("__class__", cc_NoFit)] .none .none dcx_NoFit pmx_NoFit none (.ref cda_NoFit) ctx_NoFit), slx_NoFit⟩)
    (cx_NoFit : PySem.W.codeIn K (.ref cda_NoFit) "NoFit.__init__" = true)
    (lf_NoFit : K.lookup cda_NoFit = some ⟨of1_NoFit, of2_NoFit, .fields of3_NoFit, of4_NoFit⟩)
    (qt_f_NoFit : of3_NoFit[2]? = some (.str "/claim/cut.py" of5_NoFit))
    (lc_NoFit : K.lookup cc_NoFit = some ⟨ccl_NoFit, cld_NoFit, .cell (some (.ref C_NoFit)), csl_NoFit⟩)
    (lo_NoFit : K.lookup C_NoFit = some ⟨.type "type", oo1_NoFit, .cls oo2_NoFit, oo3_NoFit⟩)
    (qt_o_NoFit : oexOk C_NoFit oo2_NoFit oo3_NoFit = true)
    (sx_NoFit : PySem.W.findIn K (.ref C_NoFit) "__setattr__" = some (some (.builtin "object.__setattr__")))
    (ms_NoFit : PySem.W.mroIn K C_NoFit (.ref C_NoFit) = some true)
    (si_NoFit : PySem.W.ks_superIn K C_NoFit C_NoFit "__init__" = some (some (.builtin "ValueError.__init__")))
    (sb_NoFit : PySem.W.subIn K (.ref C_NoFit) (.type "ValueError") = some true)
    (tx_NoFit : PySem.W.typeIn K (.ref fx_NoFit) = some (.type "function"))
    (xn_NoFit_number : PySem.W.findIn K (.ref C_NoFit) "number" = some none)
    (aC_BadTable : PySem.W.nsIn K mainGlobals "BadTable" = some (some (.ref C_BadTable)))
    (xk_BadTable : PySem.W.keepIn K (.ref C_BadTable) = true)
    (xe_BadTable : PySem.W.subIn K (.ref C_BadTable) (.type "BaseException") = some true)
    (xt_BadTable : PySem.W.typeIn K (.ref C_BadTable) = some (.type "type"))
    (ix_BadTable : PySem.W.findIn K (.ref C_BadTable) "__init__" = some (some (.ref fx_BadTable)))
    (lx_BadTable : K.lookup fx_BadTable = some ⟨ocx_BadTable, odx_BadTable, .func (PySem.W.fnX "__init__" "BadTable.__init__" (defArgs s_BadTable_init) (defBody s_BadTable_init) (defScope s_BadTable_init) [("__class__", cc_BadTable)] .none .none dcx_BadTable pmx_BadTable none (.ref cda_BadTable) ctx_BadTable), slx_BadTable⟩)
    (cx_BadTable : PySem.W.codeIn K (.ref cda_BadTable) "BadTable.__init__" = true)
    (lf_BadTable : K.lookup cda_BadTable = some ⟨of1_BadTable, of2_BadTable, .fields of3_BadTable, of4_BadTable⟩)
    (qt_f_BadTable : of3_BadTable[2]? = some (.str "/claim/cut.py" of5_BadTable))
    (lc_BadTable : K.lookup cc_BadTable = some ⟨ccl_BadTable, cld_BadTable, .cell (some (.ref C_BadTable)), csl_BadTable⟩)
    (lo_BadTable : K.lookup C_BadTable = some ⟨.type "type", oo1_BadTable, .cls oo2_BadTable, oo3_BadTable⟩)
    (qt_o_BadTable : oexOk C_BadTable oo2_BadTable oo3_BadTable = true)
    (sx_BadTable : PySem.W.findIn K (.ref C_BadTable) "__setattr__" = some (some (.builtin "object.__setattr__")))
    (ms_BadTable : PySem.W.mroIn K C_BadTable (.ref C_BadTable) = some true)
    (si_BadTable : PySem.W.ks_superIn K C_BadTable C_BadTable "__init__" = some (some (.builtin "ValueError.__init__")))
    (sb_BadTable : PySem.W.subIn K (.ref C_BadTable) (.type "ValueError") = some true)
    (tx_BadTable : PySem.W.typeIn K (.ref fx_BadTable) = some (.type "function"))
    (xn_BadTable_place : PySem.W.findIn K (.ref C_BadTable) "place" = some none)
    (kv_VERDICT_LIMIT : PySem.W.nsIn K mainGlobals "VERDICT_LIMIT" = some (some (Value.int 8 Tk_VERDICT_LIMIT)))
    (kv_SELECTION_LIMIT : PySem.W.nsIn K mainGlobals "SELECTION_LIMIT" = some (some (Value.int 7 Tk_SELECTION_LIMIT)))
    (kv_TABLE_LETTERS : PySem.W.nsIn K mainGlobals "TABLE_LETTERS" = some (some (Value.int 2 Tk_TABLE_LETTERS)))
    (z_len : PySem.W.nsIn K mainGlobals "len" = some none)
    (z_int : PySem.W.nsIn K mainGlobals "int" = some none)
    (z_abs : PySem.W.nsIn K mainGlobals "abs" = some none)
    (z_range : PySem.W.nsIn K mainGlobals "range" = some none)
    (z_enumerate : PySem.W.nsIn K mainGlobals "enumerate" = some none)
    (z_tuple : PySem.W.nsIn K mainGlobals "tuple" = some none)
    (z_list : PySem.W.nsIn K mainGlobals "list" = some none)
    (z_iter : PySem.W.nsIn K mainGlobals "iter" = some none)
    (z_any : PySem.W.nsIn K mainGlobals "any" = some none)
    (z_all : PySem.W.nsIn K mainGlobals "all" = some none)
    (z_isinstance : PySem.W.nsIn K mainGlobals "isinstance" = some none)
    (z_str : PySem.W.nsIn K mainGlobals "str" = some none)
    (z_sorted : PySem.W.nsIn K mainGlobals "sorted" = some none)
    (z_reversed : PySem.W.nsIn K mainGlobals "reversed" = some none)
    (z_sum : PySem.W.nsIn K mainGlobals "sum" = some none)
    (z_super : PySem.W.nsIn K mainGlobals "super" = some none)
    (M : ∀ ns : List Int, ns.length ≤ 63 → (∀ z ∈ ns, Builtin.Int.intBits z ≤ 1048576) → m_law [.lst (ns.map .int)] = .ok (.bl true)) :
    ∃ fd : FuncData, (∀ (s : Shared) (v : Value), BindsTo s fd ⟨[v], []⟩ [("script", v)]) ∧ ∀ base : Heap, K.In base → base.Ns mainGlobals mg → FnOk l.prog w K mg base (L2.CX l.prog w) 13 fa fd ["script"] (spLaw K) := by
  have e := hfa.symm.trans (PySem.W.mg_of X G a51)
  cases e
  have F1 := fun_mk (st := s__law_cell) l1 c1 k1
  have F2 := fun_mk (st := s__law_numbers) l2 c2 k2
  have F3 := fun_mk (st := s__law_rules) l3 c3 k3
  have F4 := fun_mk (st := s__law_meet) l4 c4 k4
  have F5 := fun_mk (st := s__law_due) l5 c5 k5
  have F6 := fun_mk (st := s__law_holds) l6 c6 k6
  have F7 := fun_mk (st := s_everything) l7 c7 k7
  have F8 := fun_mk (st := s_is_prop) l8 c8 k8
  have F9 := fun_mk (st := s_Seen_init) l9 c9 k9
  have F10 := fun_mk (st := s_Book_init) l10 c10 k10
  have F11 := fun_mk (st := s_within) l11 c11 k11
  have F12 := fun_mk (st := s_switches) l12 c12 k12
  have F13 := fun_mk (st := s_Book_iter) l13 c13 k13
  have F14 := fun_mk (st := s_meet_heads) l14 c14 k14
  have F15 := fun_mk (st := s_steps) l15 c15 k15
  have F16 := fun_mk (st := s_settle) l16 c16 k16
  have F17 := fun_mk (st := s_output) l17 c17 k17
  have F18 := fun_mk (st := s_worlds_of) l18 c18 k18
  have F19 := fun_mk (st := s_is_stable) l19 c19 k19
  have F20 := fun_mk (st := s_due) l20 c20 k20
  have F21 := fun_mk (st := s_is_due) l21 c21 k21
  have F22 := fun_mk (st := s_first_due) l22 c22 k22
  have F23 := fun_mk (st := s_conflict) l23 c23 k23
  have F24 := fun_mk (st := s_fitting_book) l24 c24 k24
  have F25 := fun_mk (st := s__law_some) l25 c25 k25
  have F26 := fun_mk (st := s_Book_with_rule) l26 c26 k26
  have F27 := fun_mk (st := s_status_by) l27 c27 k27
  have F28 := fun_mk (st := s_checked_book) l28 c28 k28
  have F29 := fun_mk (st := s_status) l29 c29 k29
  have F30 := fun_mk (st := s__law_status) l30 c30 k30
  have F31 := fun_mk (st := s_fitting_manners) l31 c31 k31
  have F32 := fun_mk (st := s_selections) l32 c32 k32
  have F33 := fun_mk (st := s_rest) l33 c33 k33
  have F34 := fun_mk (st := s_in_order) l34 c34 k34
  have F35 := fun_mk (st := s_mask_of) l35 c35 k35
  have F36 := fun_mk (st := s_least) l36 c36 k36
  have F37 := fun_mk (st := s_least_drops) l37 c37 k37
  have F38 := fun_mk (st := s_Table___contains__) l38 c38 k38
  have F39 := fun_mk (st := s_claims_of) l39 c39 k39
  have F40 := fun_mk (st := s_gap_in_row) l40 c40 k40
  have F41 := fun_mk (st := s_meet_of) l41 c41 k41
  have F42 := fun_mk (st := s_gap_at_facts) l42 c42 k42
  have F43 := fun_mk (st := s_gap) l43 c43 k43
  have F44 := fun_mk (st := s_Book_sub) l44 c44 k44
  have F45 := fun_mk (st := s_Book_size) l45 c45 k45
  have F46 := fun_mk (st := s_base) l46 c46 k46
  have F47 := fun_mk (st := s_book_of) l47 c47 k47
  have F48 := fun_mk (st := s_Table_init) l48 c48 k48
  have F49 := fun_mk (st := s_table_of) l49 c49 k49
  have F50 := fun_mk (st := s__law_told_back) l50 c50 k50
  have F51 := fun_mk (st := s_law) l51 c51 k51
  have T : Tx l.prog K mg ⟨C_Seen, C_Book, C_Table, f1, _, f2, _, f3, _, f4, _, f5, _, f6, _, f7, _, f8, _, f9, _, f10, _, f11, _, f12, _, f13, _, f14, _, f15, _, f16, _, f17, _, f18, _, f19, _, f20, _, f21, _, f22, _, f23, _, f24, _, f25, _, f26, _, f27, _, f28, _, f29, _, f30, _, f31, _, f32, _, f33, _, f34, _, f35, _, f36, _, f37, _, f38, _, f39, _, f40, _, f41, _, f42, _, f43, _, f44, _, f45, _, P_Book_size, f46, _, f47, _, f48, _, f49, _, f50, _, fa, _, _, _, Q_MANNERS, _, qi_MANNERS, qn_MANNERS, C_BadCount, fx_BadCount, _, C_TooMany, fx_TooMany, _, C_BadVerdict, fx_BadVerdict, _, C_BadRule, fx_BadRule, _, C_UnknownManner, fx_UnknownManner, _, C_NoFit, fx_NoFit, _, C_BadTable, fx_BadTable, _, Tk_VERDICT_LIMIT, Tk_SELECTION_LIMIT, Tk_TABLE_LETTERS⟩ := ⟨F1,
    F1.binds (ps := ["script", "k"]) fun _ _ _ _ _ _ us hl => match us, hl with | [_, _], _ => rfl,
    PySem.W.mg_of X G a1,
    F2,
    F2.binds (ps := ["script", "at", "count", "bound"]) fun _ _ _ _ _ _ us hl => match us, hl with | [_, _, _, _], _ => rfl,
    PySem.W.mg_of X G a2,
    F3,
    F3.binds (ps := ["script", "at", "n", "count"]) fun _ _ _ _ _ _ us hl => match us, hl with | [_, _, _, _], _ => rfl,
    PySem.W.mg_of X G a3,
    F4,
    F4.binds (ps := ["n", "rules", "case"]) fun _ _ _ _ _ _ us hl => match us, hl with | [_, _, _], _ => rfl,
    PySem.W.mg_of X G a4,
    F5,
    F5.binds (ps := ["n", "rules", "facts", "manner"]) fun _ _ _ _ _ _ us hl => match us, hl with | [_, _, _, _], _ => rfl,
    PySem.W.mg_of X G a5,
    F6,
    F6.binds (ps := ["n", "rules", "pair", "manner"]) fun _ _ _ _ _ _ us hl => match us, hl with | [_, _, _, _], _ => rfl,
    PySem.W.mg_of X G a6,
    F7,
    F7.binds (ps := ["n"]) fun _ _ _ _ _ _ us hl => match us, hl with | [_], _ => rfl,
    PySem.W.mg_of X G a7,
    F8,
    F8.binds (ps := ["n", "prop"]) fun _ _ _ _ _ _ us hl => match us, hl with | [_, _], _ => rfl,
    PySem.W.mg_of X G a8,
    F9,
    F9.binds (ps := ["self", "n", "yes", "no"]) fun _ _ _ _ _ _ us hl => match us, hl with | [_, _, _, _], _ => rfl,
    ⟨mk_Seen, a9, i9, kc_Seen⟩,
    F10,
    F10.binds (ps := ["self", "n", "rules"]) fun _ _ _ _ _ _ us hl => match us, hl with | [_, _, _], _ => rfl,
    ⟨mk_Book, a10, i10, kc_Book⟩,
    F11,
    F11.binds (ps := ["first", "second"]) fun _ _ _ _ _ _ us hl => match us, hl with | [_, _], _ => rfl,
    PySem.W.mg_of X G a11,
    F12,
    F12.binds (ps := ["manner"]) fun _ _ _ _ _ _ us hl => match us, hl with | [_], _ => rfl,
    PySem.W.mg_of X G a12,
    F13,
    F13.binds (ps := ["self"]) fun _ _ _ _ _ _ us hl => match us, hl with | [_], _ => rfl,
    a13,
    i13,
    F14,
    F14.binds (ps := ["book", "case"]) fun _ _ _ _ _ _ us hl => match us, hl with | [_, _], _ => rfl,
    PySem.W.mg_of X G a14,
    F15,
    F15.binds (ps := ["book", "facts"]) fun _ _ _ _ _ _ us hl => match us, hl with | [_, _], _ => rfl,
    PySem.W.mg_of X G a15,
    F16,
    F16.binds (ps := ["book", "facts"]) fun _ _ _ _ _ _ us hl => match us, hl with | [_, _], _ => rfl,
    PySem.W.mg_of X G a16,
    F17,
    F17.binds (ps := ["book", "case", "manner"]) fun _ _ _ _ _ _ us hl => match us, hl with | [_, _, _], _ => rfl,
    PySem.W.mg_of X G a17,
    F18,
    F18.binds (ps := ["prop"]) fun _ _ _ _ _ _ us hl => match us, hl with | [_], _ => rfl,
    PySem.W.mg_of X G a18,
    F19,
    F19.binds (ps := ["book", "case"]) fun _ _ _ _ _ _ us hl => match us, hl with | [_, _], _ => rfl,
    PySem.W.mg_of X G a19,
    F20,
    F20.binds (ps := ["book", "facts", "manner"]) fun _ _ _ _ _ _ us hl => match us, hl with | [_, _, _], _ => rfl,
    PySem.W.mg_of X G a20,
    F21,
    F21.binds (ps := ["book", "facts", "claim", "manner"]) fun _ _ _ _ _ _ us hl => match us, hl with | [_, _, _, _], _ => rfl,
    PySem.W.mg_of X G a21,
    F22,
    F22.binds (ps := ["book", "pairs", "manner"]) fun _ _ _ _ _ _ us hl => match us, hl with | [_, _, _], _ => rfl,
    PySem.W.mg_of X G a22,
    F23,
    F23.binds (ps := ["seen", "manner"]) fun _ _ _ _ _ _ us hl => match us, hl with | [_, _], _ => rfl,
    PySem.W.mg_of X G a23,
    F24,
    F24.binds (ps := ["seen", "manner"]) fun _ _ _ _ _ _ us hl => match us, hl with | [_, _], _ => rfl,
    PySem.W.mg_of X G a24,
    F25,
    F25.binds (ps := ["n", "rules", "pairs", "manner"]) fun _ _ _ _ _ _ us hl => match us, hl with | [_, _, _, _], _ => rfl,
    PySem.W.mg_of X G a25,
    F26,
    F26.binds (ps := ["self", "body", "head"]) fun _ _ _ _ _ _ us hl => match us, hl with | [_, _, _], _ => rfl,
    ⟨a26, i26, k26⟩,
    F27,
    F27.binds (ps := ["book", "refused", "pair", "manner"]) fun _ _ _ _ _ _ us hl => match us, hl with | [_, _, _, _], _ => rfl,
    PySem.W.mg_of X G a27,
    F28,
    F28.binds (ps := ["seen", "manner"]) fun _ _ _ _ _ _ us hl => match us, hl with | [_, _], _ => rfl,
    PySem.W.mg_of X G a28,
    F29,
    F29.binds (ps := ["seen", "facts", "claim", "manner"]) fun _ _ _ _ _ _ us hl => match us, hl with | [_, _, _, _], _ => rfl,
    PySem.W.mg_of X G a29,
    F30,
    F30.binds (ps := ["n", "yes", "no", "pair", "manner"]) fun _ _ _ _ _ _ us hl => match us, hl with | [_, _, _, _, _], _ => rfl,
    PySem.W.mg_of X G a30,
    F31,
    F31.binds (ps := ["seen"]) fun _ _ _ _ _ _ us hl => match us, hl with | [_], _ => rfl,
    PySem.W.mg_of X G a31,
    F32,
    F32.binds (ps := ["count"]) fun _ _ _ _ _ _ us hl => match us, hl with | [_], _ => rfl,
    PySem.W.mg_of X G a32,
    F33,
    F33.binds (ps := ["chosen", "count"]) fun _ _ _ _ _ _ us hl => match us, hl with | [_, _], _ => rfl,
    PySem.W.mg_of X G a33,
    F34,
    F34.binds (ps := ["found"]) fun _ _ _ _ _ _ us hl => match us, hl with | [_], _ => rfl,
    PySem.W.mg_of X G a34,
    F35,
    F35.binds (ps := ["chosen"]) fun _ _ _ _ _ _ us hl => match us, hl with | [_], _ => rfl,
    PySem.W.mg_of X G a35,
    F36,
    F36.binds (ps := ["found"]) fun _ _ _ _ _ _ us hl => match us, hl with | [_], _ => rfl,
    PySem.W.mg_of X G a36,
    F37,
    F37.binds (ps := ["seen", "manner"]) fun _ _ _ _ _ _ us hl => match us, hl with | [_, _], _ => rfl,
    PySem.W.mg_of X G a37,
    F38,
    F38.binds (ps := ["self", "pair"]) fun _ _ _ _ _ _ us hl => match us, hl with | [_, _], _ => rfl,
    ⟨a38, i38, k38⟩,
    F39,
    F39.binds (ps := ["table", "facts"]) fun _ _ _ _ _ _ us hl => match us, hl with | [_, _], _ => rfl,
    PySem.W.mg_of X G a39,
    F40,
    F40.binds (ps := ["table", "facts"]) fun _ _ _ _ _ _ us hl => match us, hl with | [_, _], _ => rfl,
    PySem.W.mg_of X G a40,
    F41,
    F41.binds (ps := ["table", "facts"]) fun _ _ _ _ _ _ us hl => match us, hl with | [_, _], _ => rfl,
    PySem.W.mg_of X G a41,
    F42,
    F42.binds (ps := ["meets", "facts", "manner"]) fun _ _ _ _ _ _ us hl => match us, hl with | [_, _, _], _ => rfl,
    PySem.W.mg_of X G a42,
    F43,
    F43.binds (ps := ["table", "manner"]) fun _ _ _ _ _ _ us hl => match us, hl with | [_, _], _ => rfl,
    PySem.W.mg_of X G a43,
    F44,
    F44.binds (ps := ["self", "chosen"]) fun _ _ _ _ _ _ us hl => match us, hl with | [_, _], _ => rfl,
    ⟨a44, i44, k44⟩,
    F45,
    F45.binds (ps := ["self"]) fun _ _ _ _ _ _ us hl => match us, hl with | [_], _ => rfl,
    ⟨pa_Book_size, pb_Book_size, pc_Book_size, ⟨_, pd_Book_size⟩⟩,
    F46,
    F46.binds (ps := ["book", "manner"]) fun _ _ _ _ _ _ us hl => match us, hl with | [_, _], _ => rfl,
    PySem.W.mg_of X G a46,
    F47,
    F47.binds (ps := ["table", "manner"]) fun _ _ _ _ _ _ us hl => match us, hl with | [_, _], _ => rfl,
    PySem.W.mg_of X G a47,
    F48,
    F48.binds (ps := ["self", "n", "rows"]) fun _ _ _ _ _ _ us hl => match us, hl with | [_, _, _], _ => rfl,
    ⟨mk_Table, a48, i48, kc_Table⟩,
    F49,
    F49.binds (ps := ["book", "manner"]) fun _ _ _ _ _ _ us hl => match us, hl with | [_, _], _ => rfl,
    PySem.W.mg_of X G a49,
    F50,
    F50.binds (ps := ["n", "rules", "manner"]) fun _ _ _ _ _ _ us hl => match us, hl with | [_, _, _], _ => rfl,
    PySem.W.mg_of X G a50,
    F51,
    F51.binds (ps := ["script"]) fun _ _ _ _ _ _ us hl => match us, hl with | [_], _ => rfl,
    PySem.W.mg_of X G a51,
    PySem.W.mg_of X G aC_Seen,
    ⟨PySem.W.mg_of X G aC_Seen, ⟨pg_Seen, hd_Seen, po_Seen, sa_Seen⟩, (List.forall_mem_cons.2 ⟨n_Seen_n, (List.forall_mem_cons.2 ⟨n_Seen_yes, (List.forall_mem_cons.2 ⟨n_Seen_no, (fun _ h => nomatch h)⟩)⟩)⟩)⟩,
    PySem.W.mg_of X G aC_Book,
    ⟨PySem.W.mg_of X G aC_Book, ⟨pg_Book, hd_Book, po_Book, sa_Book⟩, (List.forall_mem_cons.2 ⟨n_Book_n, (List.forall_mem_cons.2 ⟨n_Book_rules, (fun _ h => nomatch h)⟩)⟩)⟩,
    ⟨rd_Book, ga_Book⟩,
    PySem.W.mg_of X G aC_Table,
    ⟨PySem.W.mg_of X G aC_Table, ⟨pg_Table, hd_Table, po_Table, sa_Table⟩, (List.forall_mem_cons.2 ⟨n_Table_n, (List.forall_mem_cons.2 ⟨n_Table_rows, (fun _ h => nomatch h)⟩)⟩)⟩,
    ⟨cv_Book_MOST_LETTERS, ⟨_, rfl⟩⟩,
    ⟨cv_Book_MOST_RULES, ⟨_, rfl⟩⟩,
    ⟨PySem.W.mg_of X G qa_MANNERS, ql_MANNERS, rfl, rfl, qt_MANNERS, qz_MANNERS⟩,
    PySem.W.mg_of X G z_combinations,
    qt_top,
    PySem.W.mg_of X G aC_BadCount,
    (qt_file ▸ funX_mk (st := s_BadCount_init) lx_BadCount cx_BadCount (fileIn_by lf_BadCount qt_f_BadCount) lc_BadCount (oexC_by (oexIn_by lo_BadCount qt_o_BadCount) sx_BadCount xe_BadCount xt_BadCount xk_BadCount) ms_BadCount th_any si_BadCount sb_BadCount ix_BadCount tx_BadCount),
    (funX_mk (st := s_BadCount_init) lx_BadCount cx_BadCount (fileIn_by lf_BadCount qt_f_BadCount) lc_BadCount (oexC_by (oexIn_by lo_BadCount qt_o_BadCount) sx_BadCount xe_BadCount xt_BadCount xk_BadCount) ms_BadCount th_any si_BadCount sb_BadCount ix_BadCount tx_BadCount).binds (ps := ["self", "number"]) fun _ _ _ _ _ us hl => match us, hl with | [_, _], _ => rfl,
    xn_BadCount_number,
    PySem.W.mg_of X G aC_TooMany,
    (qt_file ▸ funX_mk (st := s_TooMany_init) lx_TooMany cx_TooMany (fileIn_by lf_TooMany qt_f_TooMany) lc_TooMany (oexC_by (oexIn_by lo_TooMany qt_o_TooMany) sx_TooMany xe_TooMany xt_TooMany xk_TooMany) ms_TooMany th_any si_TooMany sb_TooMany ix_TooMany tx_TooMany),
    (funX_mk (st := s_TooMany_init) lx_TooMany cx_TooMany (fileIn_by lf_TooMany qt_f_TooMany) lc_TooMany (oexC_by (oexIn_by lo_TooMany qt_o_TooMany) sx_TooMany xe_TooMany xt_TooMany xk_TooMany) ms_TooMany th_any si_TooMany sb_TooMany ix_TooMany tx_TooMany).binds (ps := ["self", "limit"]) fun _ _ _ _ _ us hl => match us, hl with | [_, _], _ => rfl,
    xn_TooMany_limit,
    PySem.W.mg_of X G aC_BadVerdict,
    (qt_file ▸ funX_mk (st := s_BadVerdict_init) lx_BadVerdict cx_BadVerdict (fileIn_by lf_BadVerdict qt_f_BadVerdict) lc_BadVerdict (oexC_by (oexIn_by lo_BadVerdict qt_o_BadVerdict) sx_BadVerdict xe_BadVerdict xt_BadVerdict xk_BadVerdict) ms_BadVerdict th_any si_BadVerdict sb_BadVerdict ix_BadVerdict tx_BadVerdict),
    (funX_mk (st := s_BadVerdict_init) lx_BadVerdict cx_BadVerdict (fileIn_by lf_BadVerdict qt_f_BadVerdict) lc_BadVerdict (oexC_by (oexIn_by lo_BadVerdict qt_o_BadVerdict) sx_BadVerdict xe_BadVerdict xt_BadVerdict xk_BadVerdict) ms_BadVerdict th_any si_BadVerdict sb_BadVerdict ix_BadVerdict tx_BadVerdict).binds (ps := ["self", "number"]) fun _ _ _ _ _ us hl => match us, hl with | [_, _], _ => rfl,
    xn_BadVerdict_number,
    PySem.W.mg_of X G aC_BadRule,
    (qt_file ▸ funX_mk (st := s_BadRule_init) lx_BadRule cx_BadRule (fileIn_by lf_BadRule qt_f_BadRule) lc_BadRule (oexC_by (oexIn_by lo_BadRule qt_o_BadRule) sx_BadRule xe_BadRule xt_BadRule xk_BadRule) ms_BadRule th_any si_BadRule sb_BadRule ix_BadRule tx_BadRule),
    (funX_mk (st := s_BadRule_init) lx_BadRule cx_BadRule (fileIn_by lf_BadRule qt_f_BadRule) lc_BadRule (oexC_by (oexIn_by lo_BadRule qt_o_BadRule) sx_BadRule xe_BadRule xt_BadRule xk_BadRule) ms_BadRule th_any si_BadRule sb_BadRule ix_BadRule tx_BadRule).binds (ps := ["self", "number"]) fun _ _ _ _ _ us hl => match us, hl with | [_, _], _ => rfl,
    xn_BadRule_number,
    PySem.W.mg_of X G aC_UnknownManner,
    (qt_file ▸ funX_mk (st := s_UnknownManner_init) lx_UnknownManner cx_UnknownManner (fileIn_by lf_UnknownManner qt_f_UnknownManner) lc_UnknownManner (oexC_by (oexIn_by lo_UnknownManner qt_o_UnknownManner) sx_UnknownManner xe_UnknownManner xt_UnknownManner xk_UnknownManner) ms_UnknownManner th_any si_UnknownManner sb_UnknownManner ix_UnknownManner tx_UnknownManner),
    (funX_mk (st := s_UnknownManner_init) lx_UnknownManner cx_UnknownManner (fileIn_by lf_UnknownManner qt_f_UnknownManner) lc_UnknownManner (oexC_by (oexIn_by lo_UnknownManner qt_o_UnknownManner) sx_UnknownManner xe_UnknownManner xt_UnknownManner xk_UnknownManner) ms_UnknownManner th_any si_UnknownManner sb_UnknownManner ix_UnknownManner tx_UnknownManner).binds (ps := ["self", "manner"]) fun _ _ _ _ _ us hl => match us, hl with | [_, _], _ => rfl,
    xn_UnknownManner_manner,
    PySem.W.mg_of X G aC_NoFit,
    (qt_file ▸ funX_mk (st := s_NoFit_init) lx_NoFit cx_NoFit (fileIn_by lf_NoFit qt_f_NoFit) lc_NoFit (oexC_by (oexIn_by lo_NoFit qt_o_NoFit) sx_NoFit xe_NoFit xt_NoFit xk_NoFit) ms_NoFit th_any si_NoFit sb_NoFit ix_NoFit tx_NoFit),
    (funX_mk (st := s_NoFit_init) lx_NoFit cx_NoFit (fileIn_by lf_NoFit qt_f_NoFit) lc_NoFit (oexC_by (oexIn_by lo_NoFit qt_o_NoFit) sx_NoFit xe_NoFit xt_NoFit xk_NoFit) ms_NoFit th_any si_NoFit sb_NoFit ix_NoFit tx_NoFit).binds (ps := ["self", "number"]) fun _ _ _ _ _ us hl => match us, hl with | [_, _], _ => rfl,
    xn_NoFit_number,
    PySem.W.mg_of X G aC_BadTable,
    (qt_file ▸ funX_mk (st := s_BadTable_init) lx_BadTable cx_BadTable (fileIn_by lf_BadTable qt_f_BadTable) lc_BadTable (oexC_by (oexIn_by lo_BadTable qt_o_BadTable) sx_BadTable xe_BadTable xt_BadTable xk_BadTable) ms_BadTable th_any si_BadTable sb_BadTable ix_BadTable tx_BadTable),
    (funX_mk (st := s_BadTable_init) lx_BadTable cx_BadTable (fileIn_by lf_BadTable qt_f_BadTable) lc_BadTable (oexC_by (oexIn_by lo_BadTable qt_o_BadTable) sx_BadTable xe_BadTable xt_BadTable xk_BadTable) ms_BadTable th_any si_BadTable sb_BadTable ix_BadTable tx_BadTable).binds (ps := ["self", "place"]) fun _ _ _ _ _ us hl => match us, hl with | [_, _], _ => rfl,
    xn_BadTable_place,
    PySem.W.mg_of X G kv_VERDICT_LIMIT,
    PySem.W.mg_of X G kv_SELECTION_LIMIT,
    PySem.W.mg_of X G kv_TABLE_LETTERS,
    PySem.W.mg_none_of X G z_len,
    PySem.W.mg_none_of X G z_int,
    PySem.W.mg_none_of X G z_abs,
    PySem.W.mg_none_of X G z_range,
    PySem.W.mg_none_of X G z_enumerate,
    PySem.W.mg_none_of X G z_tuple,
    PySem.W.mg_none_of X G z_list,
    PySem.W.mg_none_of X G z_iter,
    PySem.W.mg_none_of X G z_any,
    PySem.W.mg_none_of X G z_all,
    PySem.W.mg_none_of X G z_isinstance,
    PySem.W.mg_none_of X G z_str,
    PySem.W.mg_none_of X G z_sorted,
    PySem.W.mg_none_of X G z_reversed,
    PySem.W.mg_none_of X G z_sum,
    PySem.W.mg_none_of X G z_super⟩
  exact ⟨_, fun s v => .of_eq rfl, fun base _ _ => law_imp (w_law T) M⟩
end K97
set_option Elab.async false
set_option linter.all false
set_option maxRecDepth 100000
set_option maxHeartbeats 400000
namespace K97
open PySem PySem.Spec PyProof.Rows L2 DL Cb Du
/-! ### the script's numbers -/
def cell (ns : List Int) (k : Nat) : Int := match ns[k]? with
  | some i => if i < 0 then -i else i
  | none => 0
theorem cell_nn (ns : List Int) (k : Nat) : 0 ≤ cell ns k := by
  unfold cell
  split
  · split <;> omega
  · omega
theorem m_cell (ns : List Int) (k : Nat) : m__law_cell [.lst (ns.map .int), .int k] = .ok (.int (cell ns k)) := by
  unfold m__law_cell mOf g__law_cell cell
  by_cases h : k < ns.length
  · have e : (ns.map D.int)[k]? = some (.int ns[k]) := by rw [List.getElem?_map, List.getElem?_eq_getElem h]; rfl
    simp [atI_at e, List.getElem?_eq_getElem h]
    simp [h]
  · rw [List.getElem?_eq_none (by omega)]
    simp [h]
theorem numbers_turn (ns : List Int) (k cnt i : Nat) (c bound l : Int) (xs : List Int) (s7 s8 : Slot) (hi : i < cnt) (hc : cnt ≤ 100) (hk : k ≤ 100) (hx : xs.length = i) (b0 : 0 < bound) (b1 : bound < 1073741824) :
    ∃ (x l' : Int) (s8' : Slot), 0 ≤ x ∧ x < bound ∧ b__law_numbers_1 [.d (.lst (ns.map .int)), .d (.int k), .d (.int cnt), .d (.int bound), .d (.int c), .own false (xs.map .int), .d (.int l), .d (.int (0 + (i : Nat))), s8] =
      .nx [.d (.lst (ns.map .int)), .d (.int k), .d (.int cnt), .d (.int bound), .d (.int c), .own false ((xs ++ [x]).map .int), .d (.int l'), .d (.int (0 + (i : Nat))), s8'] := by
  have hl : xs.length < lim := lim_lt (by omega)
  unfold b__law_numbers_1
  by_cases h : 0 < l
  · refine ⟨l % bound, l / bound, s8, Int.emod_nonneg _ (by omega), Int.emod_lt_of_pos _ b0, ?_⟩
    simp [h, cDiv_ok b0 b1, cMod_ok b0, hl]
  · let mixed : Int := ((c % 999983 + 37 * k + 1) * (7919 * (i : Int) + 611 * k + 104729)) % 1000003
    refine ⟨mixed * (mixed + 31) % 1000033 % bound, l, .d (.int mixed), Int.emod_nonneg _ (by omega), Int.emod_lt_of_pos _ b0, ?_⟩
    · have e1 : cMul 37 (k : Int) = true := cMul_l (by decide) (by decide)
      have e2 : cMul 7919 (i : Int) = true := cMul_l (by decide) (by decide)
      have e3 : cMul 611 (k : Int) = true := cMul_l (by decide) (by decide)
      have e4 : ∀ a : Int, cMul (a % 1000003) (a % 1000003 + 31) = true := fun a => by
        have h1 : a % 1000003 < 1000003 := Int.emod_lt_of_pos _ (by omega)
        have h2 : 0 ≤ a % 1000003 := Int.emod_nonneg _ (by omega)
        exact cMul_l (by unfold big; omega) (by unfold big; omega)
      have e5 : ∀ b : Int, cMul (c % 999983 + 37 * k + 1) b = true := fun b => by
        have h1 : c % 999983 < 999983 := Int.emod_lt_of_pos _ (by omega)
        have h2 : 0 ≤ c % 999983 := Int.emod_nonneg _ (by omega)
        exact cMul_l (by unfold big; omega) (by unfold big; omega)
      have e6 : ∀ a : Int, cMod a 999983 = true := fun a => cMod_ok (by omega)
      have e7 : ∀ a : Int, cMod a 1000003 = true := fun a => cMod_ok (by omega)
      have e8 : ∀ a : Int, cMod a 1000033 = true := fun a => cMod_ok (by omega)
      simp [h, cMod_ok b0, hl, e1, e2, e3, e4, e5, e6, e7, e8]
      exact ⟨rfl, rfl⟩
theorem numbers_loop (ns : List Int) (k cnt : Nat) (bound : Int) (hc : cnt ≤ 100) (hk : k ≤ 100) (b0 : 0 < bound) (b1 : bound < 1073741824) (left : Int) : ∃ xs : List Int, ∃ l s7 s8, forL [7] g1 b__law_numbers_1 (rangeD 0 cnt) [.d (.lst (ns.map .int)), .d (.int k), .d (.int cnt), .d (.int bound), .d (.int (cell ns k)), .own false [], .d (.int left), .un, .un] =
      .nx [.d (.lst (ns.map .int)), .d (.int k), .d (.int cnt), .d (.int bound), .d (.int (cell ns k)), .own false (xs.map .int), .d (.int l), s7, s8] ∧ xs.length = cnt ∧ ∀ x ∈ xs, 0 ≤ x ∧ x < bound := by
    have key := forL_ind (sl := [7]) (g := g1) (fb := b__law_numbers_1) (fun i ρ => ∃ xs : List Int, ∃ l s7 s8, ρ = [.d (.lst (ns.map .int)), .d (.int k), .d (.int cnt), .d (.int bound), .d (.int (cell ns k)), .own false (xs.map .int), .d (.int l), s7, s8] ∧ xs.length = i ∧ ∀ x ∈ xs, 0 ≤ x ∧ x < bound)
      (rangeD 0 cnt) 0 _ ⟨[], left, .un, .un, rfl, rfl, by simp⟩ fun i d ρ hd ⟨xs, l, s7, s8, e, h2, h3⟩ => by
        subst e
        obtain ⟨hi, rfl⟩ := rangeD_get hd
        obtain ⟨x, l', s8', x0, x1, q⟩ := numbers_turn ns k cnt i (cell ns k) bound l xs s7 s8 hi hc hk (by omega) b0 b1
        refine ⟨_, _, rfl, .inl q, xs ++ [x], l', _, _, rfl, by simp [h2], fun y hy => ?_⟩
        rcases List.mem_append.mp hy with z | z
        · exact h3 y z
        · rw [List.mem_singleton.mp z]; exact ⟨x0, x1⟩
    obtain ⟨ρ, h1, xs, l, s7, s8, rfl, h2, h3⟩ := key
    rw [Nat.zero_add, rangeD_len] at h2
    exact ⟨xs, l, s7, s8, h1, h2, h3⟩
theorem m_numbers (ns : List Int) (k cnt : Nat) (bound : Int) (hc : cnt ≤ 100) (hk : k ≤ 100) (b0 : 0 < bound) (b1 : bound < 1073741824) :
    ∃ xs : List Int, m__law_numbers [.lst (ns.map .int), .int k, .int cnt, .int bound] = .ok (.lst (xs.map .int)) ∧ xs.length = cnt ∧ ∀ x ∈ xs, 0 ≤ x ∧ x < bound := by
  have er : rng1 [.int (cnt : Int)] = .ok (rangeD 0 cnt) := by rw [rng1_ap (by omega) (by omega), Int.toNat_natCast]
  obtain ⟨E, hE⟩ : ∃ E, dPow (.int 10) (.int 18) = .ok (.int E) := ⟨_, rfl⟩
  unfold m__law_numbers mOf g__law_numbers
  by_cases h : cell ns k < E
  · obtain ⟨xs, l, s7, s8, q, h2, h3⟩ := numbers_loop ns k cnt bound hc hk b0 b1 0
    refine ⟨xs, ?_, h2, h3⟩
    simp [-dI2c_ap, m_cell, er, hE, h, q]
  · obtain ⟨xs, l, s7, s8, q, h2, h3⟩ := numbers_loop ns k cnt bound hc hk b0 b1 (cell ns k)
    refine ⟨xs, ?_, h2, h3⟩
    simp [-dI2c_ap, m_cell, er, hE, h, q]
/-! ### numbers from nought -/
theorem nat_list : ∀ (xs : List Int) (b : Nat), (∀ x ∈ xs, 0 ≤ x ∧ x < (b : Int)) → ∃ zs : List Nat, xs.map D.int = zs.map nD ∧ zs.length = xs.length ∧ ∀ z ∈ zs, z < b
  | [], _, _ => ⟨[], rfl, rfl, by simp⟩
  | x :: xs, b, h => by
    obtain ⟨zs, h1, h2, h3⟩ := nat_list xs b fun y hy => h y (List.mem_cons_of_mem _ hy)
    obtain ⟨x0, x1⟩ := h x List.mem_cons_self
    obtain ⟨m, rfl⟩ := Int.eq_ofNat_of_zero_le x0
    refine ⟨m :: zs, by rw [List.map_cons, List.map_cons, h1]; rfl, by rw [List.length_cons, List.length_cons, h2], fun z hz => ?_⟩
    rcases List.mem_cons.mp hz with e | e
    · rw [e]; omega
    · exact h3 z e
theorem m_nums (ns : List Int) (k cnt b : Nat) (hc : cnt ≤ 100) (hk : k ≤ 100) (b0 : 0 < b) (b1 : b < 1073741824) :
    ∃ zs : List Nat, m__law_numbers [.lst (ns.map .int), .int k, .int cnt, .int b] = .ok (.lst (zs.map nD)) ∧ zs.length = cnt ∧ ∀ z ∈ zs, z < b := by
  obtain ⟨xs, h1, h2, h3⟩ := m_numbers ns k cnt b hc hk (by omega) (by omega)
  obtain ⟨zs, e, l, q⟩ := nat_list xs b h3
  exact ⟨zs, by rw [h1, e], by rw [l, h2], q⟩
theorem nD_at {zs : List Nat} {i : Nat} {z : Nat} (h : zs[i]? = some z) : L2.atI (zs.map nD) (i : Int) = some (.int (z : Int)) := atI_at (by rw [List.getElem?_map, h]; rfl)
/-- 1 << (1 << m) -/
theorem tops (m : Nat) (h : m ≤ 4) : ∃ (p : Int) (T : Nat), dShl (.int 1) (.int (m : Int)) = .ok (.int p) ∧ dShl (.int 1) (.int p) = .ok (.int (T : Int)) ∧ T = 2 ^ 2 ^ m ∧ 0 < T ∧ T ≤ 65536 := by
  match m, h with
  | 0, _ => exact ⟨_, 2, rfl, rfl, rfl, by decide, by decide⟩
  | 1, _ => exact ⟨_, 4, rfl, rfl, rfl, by decide, by decide⟩
  | 2, _ => exact ⟨_, 16, rfl, rfl, rfl, by decide, by decide⟩
  | 3, _ => exact ⟨_, 256, rfl, rfl, rfl, by decide, by decide⟩
  | 4, _ => exact ⟨_, 65536, rfl, rfl, rfl, by decide, by decide⟩
/-! ### books, what is due -/
theorem fld_n (m : Nat) (rs : List Rul) : dFld ["Book", "Seen", "Table"] "n" (bookD m rs) = .ok (.int (m : Int)) := rfl
theorem fld_rules (m : Nat) (rs : List Rul) : dFld ["Book"] "rules" (bookD m rs) = .ok (.tup (rs.map ruleD)) := rfl
theorem it_book (m : Nat) (rs : List Rul) : itO "Book" "rules" (bookD m rs) = .ok (rs.map ruleD) := rfl
theorem m_every (m : Nat) (hm : m ≤ 4) : m_everything [.int (m : Int)] = .ok (.int ((2 ^ 2 ^ m - 1 : Nat) : Int)) := by
  obtain ⟨p, T, t1, t2, hT, T0, T1⟩ := tops m hm
  rw [← hT]
  have hT1 : ((T : Int) - 1) = ((T - 1 : Nat) : Int) := by omega
  unfold m_everything mOf g_everything
  simp [t1, t2, hT1]
theorem m_isprop (m x : Nat) (hm : m ≤ 4) (hx : x < 2 ^ 2 ^ m) : m_is_prop [.int (m : Int), .int (x : Int)] = .ok (.bl true) := by
  have e := m_every m hm
  obtain ⟨X, hX⟩ : ∃ X, X = 2 ^ 2 ^ m - 1 := ⟨_, rfl⟩
  rw [← hX] at e
  have h : (x : Int) ≤ (X : Int) := by omega
  unfold m_is_prop mOf g_is_prop
  simp [e, h]
theorem nlxs_rules (b : Bool) : ∀ rs : List Rul, nlxs b (rs.map ruleD) = true
  | [] => rfl
  | r :: rs => by
    show (true && nlxs b (rs.map ruleD)) = true
    rw [nlxs_rules b rs]; rfl
theorem book_turn (m : Nat) (hm : m ≤ 4) (a a2 s4 s5 s6 : DL.Slot) (acc : List Rul) (r : Rul) (i : Nat) (h1 : r.1 < 2 ^ 2 ^ m) (h2 : r.2 < 2 ^ 2 ^ m) (hl : acc.length < lim) :
    b_Book_init_1 [a, .d (.int (m : Int)), a2, .own false (acc.map ruleD), .d (.int (i : Int)), .d (.int (r.1 : Int)), .d (.int (r.2 : Int))] =
      .nx [a, .d (.int (m : Int)), a2, .own false ((acc ++ [r]).map ruleD), .d (.int (i : Int)), .d (.int (r.1 : Int)), .d (.int (r.2 : Int))] := by
  unfold b_Book_init_1
  simp [m_isprop m _ hm h1, m_isprop m _ hm h2, hl]
  rfl
theorem m_bookg (m : Nat) (m0 : 1 ≤ m) (hm : m ≤ 4) (rs : List Rul) (hl : rs.length ≤ 16) (hr : ∀ r ∈ rs, r.1 < 2 ^ 2 ^ m ∧ r.2 < 2 ^ 2 ^ m) (SQ : D) (hb : bEnumA [SQ] = .ok (enumD 0 (rs.map ruleD))) (hs : bLen [SQ] = .ok (.int (rs.length : Nat))) : m_Book_init [.int (m : Int), SQ] = .ok (["n", "rules"], [.int (m : Int), .tup (rs.map ruleD)]) := by
  let sf : DL.Slot := .obo true "Book" [] []
  have key := forL_ind (sl := ([4] ++ (([5] ++ ([6] ++ [])) ++ []))) (g := (gT 2 (gC g1 (gC (gT 2 (gC g1 (gC g1 gN))) gN)))) (fb := b_Book_init_1) (fun i ρ => ∃ (s4 s5 s6 : DL.Slot), ρ = [sf, .d (.int (m : Int)), .d SQ, .own false ((rs.take i).map ruleD), s4, s5, s6])
    (enumD 0 (rs.map ruleD)) 0 [sf, .d (.int (m : Int)), .d SQ, .own false [], .un, .un, .un] ⟨.un, .un, .un, by simp⟩ fun i d ρ hd ⟨s4, s5, s6, e⟩ => by
      subst e
      rw [enumD_get, List.getElem?_map] at hd
      cases hx : rs[i]? with
      | none => rw [hx] at hd; cases hd
      | some r =>
        rw [hx] at hd
        cases hd
        have hmem : r ∈ rs := List.mem_of_getElem? hx
        obtain ⟨h1, h2⟩ := hr r hmem
        have hi : i < rs.length := (List.getElem?_eq_some_iff.mp hx).1
        have ht : (rs.take (0 + i)).map ruleD = (rs.take i).map ruleD := by rw [Nat.zero_add]
        have e1 := book_turn m hm sf (.d SQ) s4 s5 s6 (rs.take i) r (0 + i) h1 h2 (lim_lt (by rw [List.length_take]; omega))
        refine ⟨[.int ((0 + i : Nat) : Int), .int (r.1 : Int), .int (r.2 : Int)], _, rfl, .inl ((congrArg b_Book_init_1 ?_).trans e1), .d (.int ((0 + i : Nat) : Int)), .d (.int (r.1 : Int)), .d (.int (r.2 : Int)), ?_⟩
        · rw [ht]; rfl
        · rw [Nat.zero_add, List.take_add_one, hx]; rfl
  obtain ⟨ρ, q, s4, s5, s6, rfl⟩ := key
  rw [Nat.zero_add, enumD_length, List.length_map, List.take_length] at q
  have c1 : (1 : Int) ≤ m := by omega
  have c2 : (m : Int) ≤ 4 := by omega
  have c3 : ¬ (16 : Int) < rs.length := by omega
  unfold m_Book_init mI g_Book_init
  have q : forL [4, 5, 6] (gT 2 (gC g1 (gC (gT 2 (gC g1 (gC g1 gN))) gN))) b_Book_init_1 (enumD 0 (rs.map ruleD)) [Slot.obo true "Book" [] [], .d (.int (m : Int)), .d SQ, .own false [], .un, .un, .un] = .nx [Slot.obo true "Book" [] [], .d (.int (m : Int)), .d SQ, .own false (rs.map ruleD), s4, s5, s6] := q
  have p1 : putN "n" [] = [Str.ofString "n"] := rfl
  have p2 : putN "rules" [Str.ofString "n"] = [Str.ofString "n", Str.ofString "rules"] := rfl
  have p3 : ∀ x, putD "n" x [] [] = [x] := fun _ => rfl
  have p4 : ∀ x y, putD "rules" x ["n"] [y] = [y, x] := fun _ _ => rfl
  have p5 : List.contains [Str.ofString "Book"] (Str.ofString "Book") = true := rfl
  simp [c1, c2, c3, hb, hs, q, p1, p2, p3, p4, nlxs_rules]
theorem m_book (m : Nat) (m0 : 1 ≤ m) (hm : m ≤ 4) (rs : List Rul) (hl : rs.length ≤ 16) (hr : ∀ r ∈ rs, r.1 < 2 ^ 2 ^ m ∧ r.2 < 2 ^ 2 ^ m) : m_Book_init [.int (m : Int), .lst (rs.map ruleD)] = .ok (["n", "rules"], [.int (m : Int), .tup (rs.map ruleD)]) := m_bookg m m0 hm rs hl hr _ rfl (by simp)
theorem m_bookt (m : Nat) (m0 : 1 ≤ m) (hm : m ≤ 4) (rs : List Rul) (hl : rs.length ≤ 16) (hr : ∀ r ∈ rs, r.1 < 2 ^ 2 ^ m ∧ r.2 < 2 ^ 2 ^ m) : m_Book_init [.int (m : Int), .tup (rs.map ruleD)] = .ok (["n", "rules"], [.int (m : Int), .tup (rs.map ruleD)]) := m_bookg m m0 hm rs hl hr _ rfl (by rw [bLen_tup, List.length_map])
theorem heads_in (a s0 s2 : DL.Slot) (k : Nat) : ∀ (rs : List Rul) (acc : Nat) (s3 s4 : DL.Slot), ∃ s3' s4', forL [3, 4] (gT 2 (gC g1 (gC g1 gN))) b_meet_heads_1 (rs.map ruleD) [a, .d (.int (k : Int)), .d (.int (acc : Int)), s3, s4] =
    .nx [a, .d (.int (k : Int)), .d (.int ((rs.foldl (mSt k) acc : Nat) : Int)), s3', s4']
  | [], acc, s3, s4 => ⟨s3, s4, rfl⟩
  | r :: rs, acc, s3, s4 => by
    obtain ⟨s3', s4', q⟩ := heads_in a s0 s2 k rs (mSt k acc r) (.d (.int (r.1 : Int))) (.d (.int (r.2 : Int)))
    refine ⟨s3', s4', ?_⟩
    have e : b_meet_heads_1 [a, .d (.int (k : Int)), .d (.int (acc : Int)), .d (.int (r.1 : Int)), .d (.int (r.2 : Int))] = .nx [a, .d (.int (k : Int)), .d (.int ((mSt k acc r : Nat) : Int)), .d (.int (r.1 : Int)), .d (.int (r.2 : Int))] := by
      unfold b_meet_heads_1 mSt wnB
      by_cases h : k &&& r.1 = k
      · simp [dAnd_nn, dEq_nn, h]
      · simp [dAnd_nn, dEq_nn, h]
    exact (forL_nx (sl := [3, 4]) (g := gT 2 (gC g1 (gC g1 gN))) (fb := b_meet_heads_1) (ρ := [a, .d (.int (k : Int)), .d (.int (acc : Int)), s3, s4]) (vs := [.int (r.1 : Int), .int (r.2 : Int)]) rfl e).trans q
theorem m_heads (m : Nat) (hm : m ≤ 4) (rs : List Rul) (k : Nat) : m_meet_heads [bookD m rs, .int (k : Int)] = .ok (.int ((Mh (2 ^ 2 ^ m) rs k : Nat) : Int)) := by
  obtain ⟨s3, s4, q⟩ := heads_in (.d (bookD m rs)) .un .un k rs (2 ^ 2 ^ m - 1) .un .un
  have e := m_every m hm
  unfold Mh
  obtain ⟨X, hX⟩ : ∃ X, X = 2 ^ 2 ^ m - 1 := ⟨_, rfl⟩
  rw [← hX] at e q ⊢
  unfold m_meet_heads mOf g_meet_heads
  simp [fld_n, it_book, e, q]
/-! ### the manners -/
structure Man (z : Str) (c s p : Bool) : Prop where
  sw : m_switches [.str z] = .ok (.tup [.bl c, .bl s, .bl p])
  z4 : ∃ w : Str, dSl (.str z) none (some 4) = .ok (.str w) ∧ dInS (.str w) (.tup [.str "case", .str "both"]) = .ok c ∧ dInS (.str w) (.tup [.str "step", .str "both"]) = .ok s ∧ dEq (.str w) (.str "step") = .ok (.bl (!c && s))
  pl : ((dIx (.str z) (.int (-1))).bind fun x => dEq x (.str "+")) = .ok (.bl p)
theorem man1 : Man "once" false false false := ⟨by kernel_rfl, ⟨"once", by kernel_rfl, by kernel_rfl, by kernel_rfl, by kernel_rfl⟩, by kernel_rfl⟩
theorem man2 : Man "cases" true false false := ⟨by kernel_rfl, ⟨"case", by kernel_rfl, by kernel_rfl, by kernel_rfl, by kernel_rfl⟩, by kernel_rfl⟩
theorem man3 : Man "steps" false true false := ⟨by kernel_rfl, ⟨"step", by kernel_rfl, by kernel_rfl, by kernel_rfl, by kernel_rfl⟩, by kernel_rfl⟩
theorem man4 : Man "both" true true false := ⟨by kernel_rfl, ⟨"both", by kernel_rfl, by kernel_rfl, by kernel_rfl, by kernel_rfl⟩, by kernel_rfl⟩
theorem man5 : Man "once+" false false true := ⟨by kernel_rfl, ⟨"once", by kernel_rfl, by kernel_rfl, by kernel_rfl, by kernel_rfl⟩, by kernel_rfl⟩
theorem man6 : Man "cases+" true false true := ⟨by kernel_rfl, ⟨"case", by kernel_rfl, by kernel_rfl, by kernel_rfl, by kernel_rfl⟩, by kernel_rfl⟩
theorem man7 : Man "steps+" false true true := ⟨by kernel_rfl, ⟨"step", by kernel_rfl, by kernel_rfl, by kernel_rfl, by kernel_rfl⟩, by kernel_rfl⟩
theorem man8 : Man "both+" true true true := ⟨by kernel_rfl, ⟨"both", by kernel_rfl, by kernel_rfl, by kernel_rfl, by kernel_rfl⟩, by kernel_rfl⟩
section
variable {z : Str} {c s p : Bool} {m : Nat} {rs : List Rul}
theorem m_out (M : Man z c s p) (hm : m ≤ 4) (k : Nat) : m_output [bookD m rs, .int (k : Int), .str z] = .ok (.int ((Oh p (2 ^ 2 ^ m) rs k : Nat) : Int)) := by
  have e := m_heads m hm rs k
  unfold m_output mOf g_output Oh
  cases p with
  | false => simp [e, M.sw]
  | true => simp [e, M.sw, dAnd_nn]
theorem m_with (a b : Nat) : m_within [.int (a : Int), .int (b : Int)] = .ok (.bl (wnB a b)) := by
  have e : wnB a b = decide (a &&& b = a) := by unfold wnB; rw [Bool.eq_iff_iff]; simp
  rw [e]
  unfold m_within mOf g_within
  simp [dAnd_nn, dEq_nn]
theorem m_stable (hm : m ≤ 4) (k : Nat) : m_is_stable [bookD m rs, .int (k : Int)] = .ok (.bl (stab (2 ^ 2 ^ m) rs k)) := by
  have e := m_heads m hm rs k
  unfold m_is_stable mOf g_is_stable stab
  simp [e, m_with]
end
/-! ### steps -/
theorem steps_loop (m : Nat) (hm : m ≤ 4) (rs : List Rul) (s1 : DL.Slot) : ∀ (n p : Nat), p < 65536 → (wl p).length < n → ∃ (ys : List Nat) (P : Nat) (s2 s3 : DL.Slot), gWh c_steps_1 b_steps_1 n [.d (bookD m rs), s1, .d (.int (p : Int)), .d (.int ((p &&& Mh (2 ^ 2 ^ m) rs p : Nat) : Int))] =
      (ys.map nD, .nx [.d (bookD m rs), s1, s2, s3]) ∧ wnB P p = true ∧ stab (2 ^ 2 ^ m) rs P = true ∧ (∀ k, wnB k p = true → stab (2 ^ 2 ^ m) rs k = true → wnB k P = true) ∧ ys.length ≤ (wl p).length ∧ ∃ zs, p :: ys = zs ++ [P]
  | 0, p, _, h => absurd h (Nat.not_lt_zero _)
  | n + 1, p, hp, h => by
    let q : Nat := p &&& Mh (2 ^ 2 ^ m) rs p
    have cond : c_steps_1 [.d (bookD m rs), s1, .d (.int (p : Int)), .d (.int ((p &&& Mh (2 ^ 2 ^ m) rs p : Nat) : Int))] = .ok (!decide (p &&& Mh (2 ^ 2 ^ m) rs p = p)) := by
      unfold c_steps_1
      simp [dNe_nn]
    by_cases e : p &&& Mh (2 ^ 2 ^ m) rs p = p
    · refine ⟨[], p, .d (.int (p : Int)), .d (.int ((p &&& Mh (2 ^ 2 ^ m) rs p : Nat) : Int)), ?_, wnB_refl p, (by unfold stab wnB; rw [beq_iff_eq]; exact e), fun k h1 _ => h1, Nat.zero_le _, [], rfl⟩
      rw [decide_eq_true e] at cond
      exact gWh_f cond
    · have lt : (wl q).length < (wl p).length := wl_lt hp e
      obtain ⟨ys, P, s2, s3, h1, h2, h3, h4, h5, zs, h6⟩ := steps_loop m hm rs s1 n q (Nat.lt_of_le_of_lt Nat.and_le_left hp) (by omega)
      have hq : wnB q p = true := (wnB_and.mp (wnB_refl q)).1
      refine ⟨q :: ys, P, s2, s3, ?_, wnB_trans h2 hq, h3, fun k k1 k2 => h4 k (wnB_and.mpr ⟨k1, wnB_trans k2 (Mh_mono k1)⟩) k2, by rw [List.length_cons]; omega, p :: zs, by rw [h6]; rfl⟩
      rw [decide_eq_false e] at cond
      have hb : b_steps_1 [.d (bookD m rs), s1, .d (.int (p : Int)), .d (.int ((q : Nat) : Int))] = ([nD q], .nx [.d (bookD m rs), s1, .d (.int (q : Int)), .d (.int ((q &&& Mh (2 ^ 2 ^ m) rs q : Nat) : Int))]) := by
        have eh := m_heads m hm rs q
        unfold b_steps_1
        generalize q = q at eh ⊢
        simp [eh, dAnd_nn, nD]
      rw [gWh_t cond hb, h1]
      rfl
theorem m_settled (m : Nat) (hm : m ≤ 4) (rs : List Rul) (f : Nat) (hf : f < 65536) : m_settle [bookD m rs, .int (f : Int)] = .ok (.int ((settleN (2 ^ 2 ^ m) rs f : Nat) : Int)) := by
  obtain ⟨ys, P, s2, s3, h1, h2, h3, h4, h5, zs, h6⟩ := steps_loop m hm rs (.d (.int (f : Int))) 1000 f hf (by have := wl_len f; omega)
  rw [← settle_is hf h3 h2 h4]
  have eh := m_heads m hm rs f
  have e1 : m_steps [bookD m rs, .int (f : Int)] = .ok ((f :: ys).map nD) := by
    have ln : ((f :: ys).map nD).length ≤ lim := by rw [List.length_map, List.length_cons]; have := wl_len f; exact Nat.le_of_lt (lim_lt (by omega))
    rw [List.length_map, List.length_cons] at ln
    unfold m_steps mG g_steps
    simp [eh, dAnd_nn, h1, nD, ln]
  have e2 : L2.atI ((f :: ys).map nD) (-1) = some (nD P) := by
    rw [h6, List.map_append]
    exact atI_last _ _
  unfold m_settle mOf g_settle
  simp only [List.map_cons] at e1 e2
  simp [e1, e2]
  rfl
/-! ### worlds -/
theorem bit0 (p : Nat) : p &&& 1 = 1 ↔ p.testBit 0 = true := by
  rw [Nat.and_one_is_mod, Nat.testBit_zero, decide_eq_true_eq]
theorem shr1 (p : Nat) : dShr (.int (p : Int)) (.int 1) = .ok (.int ((p / 2 : Nat) : Int)) := rfl
theorem worlds_loop : ∀ (n p w : Nat) (acc : List Nat), p < 2 ^ n → acc.length + n ≤ 9000 → ∃ (ws : List Nat) (s0 s2 : DL.Slot), whL c_worlds_of_1 b_worlds_of_1 (n + 1) [.d (.int (p : Int)), .own false (acc.map nD), .d (.int (w : Int))] =
      .nx [s0, .own false ((acc ++ ws).map nD), s2] ∧ ∀ x, x ∈ ws ↔ ∃ j, x = w + j ∧ p.testBit j = true
  | n, p, w, acc, h, hl => by
    have cond : c_worlds_of_1 [.d (.int (p : Int)), .own false (acc.map nD), .d (.int (w : Int))] = .ok (decide (0 < p)) := by
      unfold c_worlds_of_1
      simp
    by_cases e : 0 < p
    · cases n with
      | zero => rw [Nat.pow_zero] at h; omega
      | succ n =>
      rw [decide_eq_true e] at cond
      have a1 : dAnd (.int (p : Int)) (.int 1) = .ok (.int ((p &&& 1 : Nat) : Int)) := dAnd_nn p 1
      have a2 : dEq (.int ((p &&& 1 : Nat) : Int)) (.int 1) = .ok (.bl (decide (p &&& 1 = 1))) := dEq_nn (p &&& 1) 1
      have ll : acc.length < lim := lim_lt (by omega)
      have lt : p / 2 < 2 ^ n := by rw [Nat.pow_succ] at h; omega
      have s1 := shr1 p
      obtain ⟨A, hA⟩ : ∃ A, A = p &&& 1 := ⟨_, rfl⟩
      rw [← hA] at a1 a2
      obtain ⟨Z, hZ⟩ : ∃ Z, Z = p / 2 := ⟨_, rfl⟩
      by_cases o : p &&& 1 = 1
      · obtain ⟨ws, s0, s2, h1, h2⟩ := worlds_loop n (p / 2) (w + 1) (acc ++ [w]) lt (by rw [List.length_append, List.length_singleton]; omega)
        have hb : b_worlds_of_1 [.d (.int (p : Int)), .own false (acc.map nD), .d (.int (w : Int))] = .nx [.d (.int ((p / 2 : Nat) : Int)), .own false ((acc ++ [w]).map nD), .d (.int ((w + 1 : Nat) : Int))] := by
          rw [← hZ] at s1 ⊢
          rw [decide_eq_true (hA.trans o)] at a2
          unfold b_worlds_of_1
          simp [a1, a2, ll, s1, nD]
        refine ⟨w :: ws, s0, s2, ?_, fun x => ?_⟩
        · rw [whL_t cond hb, h1, List.append_assoc]; rfl
        · rw [List.mem_cons, h2]
          constructor
          · rintro (rfl | ⟨j, rfl, q⟩)
            · exact ⟨0, rfl, (bit0 p).mp o⟩
            · exact ⟨j + 1, by omega, by rw [Nat.testBit_succ]; exact q⟩
          · rintro ⟨j, rfl, q⟩
            cases j with
            | zero => exact .inl rfl
            | succ j => exact .inr ⟨j, by omega, by rw [Nat.testBit_succ] at q; exact q⟩
      · obtain ⟨ws, s0, s2, h1, h2⟩ := worlds_loop n (p / 2) (w + 1) acc lt (by omega)
        have hb : b_worlds_of_1 [.d (.int (p : Int)), .own false (acc.map nD), .d (.int (w : Int))] = .nx [.d (.int ((p / 2 : Nat) : Int)), .own false (acc.map nD), .d (.int ((w + 1 : Nat) : Int))] := by
          rw [← hZ] at s1 ⊢
          rw [decide_eq_false (fun q => o (hA.symm.trans q))] at a2
          unfold b_worlds_of_1
          simp [a1, a2, ll, s1, nD]
        refine ⟨ws, s0, s2, ?_, fun x => ?_⟩
        · rw [whL_t cond hb, h1]
        · rw [h2]
          constructor
          · rintro ⟨j, rfl, q⟩
            exact ⟨j + 1, by omega, by rw [Nat.testBit_succ]; exact q⟩
          · rintro ⟨j, rfl, q⟩
            cases j with
            | zero => exact absurd ((bit0 p).mpr q) o
            | succ j => exact ⟨j, by omega, by rw [Nat.testBit_succ] at q; exact q⟩
    · rw [decide_eq_false e] at cond
      have e0 : p = 0 := by omega
      refine ⟨[], _, _, by rw [whL_f cond, List.append_nil], fun x => ?_⟩
      constructor
      · intro z; cases z
      · rintro ⟨j, _, q⟩
        rw [e0, Nat.zero_testBit] at q
        cases q
theorem m_worlds (f : Nat) (hf : f < 65536) : ∃ ws : List Nat, m_worlds_of [.int (f : Int)] = .ok (.lst (ws.map nD)) ∧ ∀ x, x ∈ ws ↔ f.testBit x = true := by
  obtain ⟨ws, s0, s2, h1, h2⟩ := worlds_loop 999 f 0 [] (Nat.lt_of_lt_of_le hf (Nat.pow_le_pow_right (show 0 < 2 by decide) (show 16 ≤ 999 by decide))) (by simp)
  refine ⟨ws, ?_, fun x => ?_⟩
  · have h1 : whL c_worlds_of_1 b_worlds_of_1 1000 [.d (.int (f : Int)), .own false [], .d (.int 0)] = .nx [s0, .own false (ws.map nD), s2] := h1
    unfold m_worlds_of mOf g_worlds_of
    simp [h1]
  · rw [h2]
    constructor
    · rintro ⟨j, e, q⟩
      rw [e, Nat.zero_add]; exact q
    · intro q
      exact ⟨x, (Nat.zero_add x).symm, q⟩
/-! ### due -/
section
variable {z : Str} {c s p : Bool} {m : Nat} {rs : List Rul}
theorem due_loop (M : Man z c s p) (hm : m ≤ 4) (s1 s5 s7 : DL.Slot) : ∀ (ws : List Nat) (j : Nat) (s4 s8 : DL.Slot), (∀ w ∈ ws, w ≤ 1000) → ∃ s4' s8', forL [4] g1 b_due_1 (ws.map nD) [.d (bookD m rs), s1, .d (.str z), .d (.int (j : Int)), s4, s5, .d (.bl s), s7, s8] =
    .nx [.d (bookD m rs), s1, .d (.str z), .d (.int ((ws.foldl (joinF s p (2 ^ 2 ^ m) rs) j : Nat) : Int)), s4', s5, .d (.bl s), s7, s8']
  | [], j, s4, s8, _ => ⟨s4, s8, rfl⟩
  | w :: ws, j, s4, s8, hw => by
    have sh := dShl_1 (hw w List.mem_cons_self)
    obtain ⟨K, hK⟩ : ∃ K, K = 2 ^ w := ⟨_, rfl⟩
    rw [← hK] at sh
    obtain ⟨s4', s8', q⟩ := due_loop M hm s1 s5 s7 ws (joinF s p (2 ^ 2 ^ m) rs j w) (.d (.int (w : Int))) (.d (.int (K : Int))) fun x hx => hw x (List.mem_cons_of_mem _ hx)
    refine ⟨s4', s8', ?_⟩
    have e1 := m_stable (m := m) (rs := rs) hm K
    have e2 := m_out (rs := rs) M hm K
    have e : b_due_1 [.d (bookD m rs), s1, .d (.str z), .d (.int (j : Int)), .d (.int (w : Int)), s5, .d (.bl s), s7, s8] = .nx [.d (bookD m rs), s1, .d (.str z), .d (.int ((joinF s p (2 ^ 2 ^ m) rs j w : Nat) : Int)), .d (.int (w : Int)), s5, .d (.bl s), s7, .d (.int (K : Int))] := by
      unfold joinF
      rw [← hK]
      unfold b_due_1
      cases s with
      | false => simp [sh, e2, dOr_nn]
      | true =>
        cases st : stab (2 ^ 2 ^ m) rs K with
        | true =>
          rw [st] at e1
          simp [sh, e1, e2, dOr_nn]
        | false =>
          rw [st] at e1
          simp [sh, e1]
    rw [List.foldl_cons]
    exact (forL_nx (sl := [4]) (g := g1) (fb := b_due_1) (ρ := [.d (bookD m rs), s1, .d (.str z), .d (.int (j : Int)), s4, s5, .d (.bl s), s7, s8]) (vs := [.int (w : Int)]) rfl e).trans q
theorem m_dued (M : Man z c s p) (hm : m ≤ 4) (f : Nat) (hf : f < 2 ^ 2 ^ m) : m_due [bookD m rs, .int (f : Int), .str z] = .ok (.int ((DueF c s p (2 ^ 2 ^ m) rs f : Nat) : Int)) := by
  obtain ⟨_, T, _, _, hT, T0, T1⟩ := tops m hm
  have hf' : f < 65536 := by rw [← hT] at hf; omega
  unfold m_due mOf g_due DueF
  cases c with
  | false =>
    cases s with
    | false =>
      have e := m_out (m := m) (rs := rs) M hm f
      simp only [Bool.false_eq_true, if_false]
      generalize Oh p (2 ^ 2 ^ m) rs f = O at e ⊢
      simp [M.sw, e]
    | true =>
      have q1 := m_settled m hm rs f hf'
      simp only [Bool.false_eq_true, if_false, if_true]
      generalize settleN (2 ^ 2 ^ m) rs f = P at q1 ⊢
      have e := m_out (m := m) (rs := rs) M hm P
      generalize Oh p (2 ^ 2 ^ m) rs P = O at e ⊢
      simp [M.sw, e, q1]
  | true =>
    obtain ⟨ws, w1, w2⟩ := m_worlds f hf'
    have e0 := m_out (m := m) (rs := rs) M hm 0
    have hw : ∀ w ∈ ws, w ≤ 1000 := fun w hw => by have := bit_lt16 hf' ((w2 w).mp hw); omega
    obtain ⟨s4', s8', q⟩ := due_loop M (m := m) (rs := rs) hm (.d (.int (f : Int))) (.d (.bl true)) (.d (.bl p)) ws (Oh p (2 ^ 2 ^ m) rs 0) .un .un hw
    rw [if_pos rfl, Duw_congr (vs := ws) fun w => (mem_wl hf').trans (w2 w).symm]
    unfold Duw
    have e0 : m_output [bookD m rs, .int 0, .str z] = .ok (.int ((Oh p (2 ^ 2 ^ m) rs 0 : Nat) : Int)) := e0
    obtain ⟨O0, hO0⟩ : ∃ O0, O0 = Oh p (2 ^ 2 ^ m) rs 0 := ⟨_, rfl⟩
    rw [← hO0] at e0 q ⊢
    generalize List.foldl _ O0 ws = W at q ⊢
    simp [M.sw, e0, w1, q]
theorem m_isdue (M : Man z c s p) (hm : m ≤ 4) (f q : Nat) (hf : f < 2 ^ 2 ^ m) : m_is_due [bookD m rs, .int (f : Int), .int (q : Int), .str z] = .ok (.bl (wnB (DueF c s p (2 ^ 2 ^ m) rs f) q)) := by
  have e := m_dued (rs := rs) M hm f hf
  obtain ⟨E, hE⟩ : ∃ E, E = DueF c s p (2 ^ 2 ^ m) rs f := ⟨_, rfl⟩
  rw [← hE] at e ⊢
  unfold m_is_due mOf g_is_due
  simp [e, m_with]
end
end K97
set_option Elab.async false
set_option linter.all false
set_option maxRecDepth 100000
set_option maxHeartbeats 400000
namespace K97
open PySem PySem.Spec PyProof.Rows L2 DL Cb Du
theorem m_mask (c m : Nat) (O : OrdOk c) (hm : m < 2 ^ c) (hc : c ≤ 7) : m_mask_of [selD c m] = .ok (.int (m : Int)) := by
  obtain ⟨ρ', h1, i, h2⟩ := forL_of (sl := [2]) (g := g1) (fb := b_mask_of_1) nD (fun (a : Nat) ρ => ∃ s2, ρ = [.d (selD c m), .d (.int (a : Int)), s2]) (fun a k => a ||| 2 ^ k) (sel c m) 0 [.d (selD c m), .d (.int 0), .un] ⟨_, rfl⟩ fun a k ρ hk ⟨s2, e⟩ => by
    subst e
    have hk7 : k ≤ 1000 := by
      have := List.mem_range.mp (List.mem_filter.mp hk).1
      omega
    have q : b_mask_of_1 [.d (selD c m), .d (.int (a : Int)), .d (nD k)] = .nx [.d (selD c m), .d (.int ((a ||| 2 ^ k : Nat) : Int)), .d (nD k)] := by
      unfold b_mask_of_1 nD
      simp [-dI2c_ap, -Int.natCast_pow, dShl_1 hk7, dOr_nn]
    exact ⟨[nD k], _, rfl, .inl q, _, rfl⟩
  have e : (sel c m).foldl (fun a k => a ||| 2 ^ k) 0 = m := O.back m hm
  rw [e] at h2
  subst h2
  unfold m_mask_of mOf g_mask_of
  simp [selD] at h1 ⊢
  simp [h1]
theorem m_inorder (c : Nat) (hc : c ≤ 7) (ms : List Nat) (b : ∀ m ∈ ms, m < 2 ^ c) (hl : ms.length ≤ 10000) : m_in_order [.lst (ms.map (selD c))] = .ok (.lst ((can c ms).map (selD c))) := by
  have O := ord_ok hc
  have l1 : ∀ ρ : DEnv, ρ.length = 4 → lcL [3] g1 tYesD l_in_order_1 ρ (ms.map (selD c)) = .ok (ms.map (selP c)) := fun ρ hρ => lcL_map (selD c) (selP c) ms fun m _ => by
    unfold l_in_order_1
    simp [hρ, selD, selP]
  have l2 : ∀ ρ : DEnv, ρ.length = 4 → lcL [2] g1 tYesD l_in_order_2 ρ ((can c ms).map (selP c)) = .ok ((can c ms).map (selD c)) := fun ρ hρ => lcL_map (selP c) (selD c) (can c ms) fun m _ => by
    unfold l_in_order_2
    simp [hρ, selP]
  have sm : (can c ms).length ≤ lim := Nat.le_trans (small_set hc (can_nodup O) fun m hm => b m ((mem_can O b).mp hm)) (by decide)
  unfold m_in_order mOf g_in_order
  simp [l1, l2, set_sel hc b, okLen_le, sm]
theorem m_least_ (c : Nat) (hc : c ≤ 7) (ms : List Nat) (b : ∀ m ∈ ms, m < 2 ^ c) (hl : ms.length ≤ 10000) : m_least [.lst (ms.map (selD c))] = .ok (.lst ((can c (minl ms)).map (selD c))) := by
  have O := ord_ok hc
  have sm : (can c ms).length ≤ 128 := small_set hc (can_nodup O) fun m hm => b m ((mem_can O b).mp hm)
  obtain ⟨ρ', h1, ⟨s3, s4, s5, h2⟩, h3⟩ := forL_of (sl := [3]) (g := g1) (fb := b_least_1) (selD c) (fun (ks : List Nat) ρ => (∃ s3 s4 s5, ρ = [.d (.lst (ms.map (selD c))), .own false (ks.map (selD c)), .own false (ks.map nD), s3, s4, s5]) ∧ ks.Nodup ∧ ∀ k ∈ ks, k < 2 ^ c) (keepF wnB) (can c ms) [] [.d (.lst (ms.map (selD c))), .own false [], .own false [], .un, .un, .un] ⟨⟨_, _, _, rfl⟩, by simp, by simp⟩ fun ks m ρ hm ⟨⟨s3, s4, s5, e⟩, nd, bk⟩ => by
    subst e
    have hm2 : m < 2 ^ c := b m ((mem_can O b).mp hm)
    have km := m_mask c m O hm2 hc
    have kl : ks.length ≤ 128 := small_set hc nd bk
    have l1 : ∀ ρ : DEnv, ρ.length = 6 → ρ[4]? = some (.d (.int (m : Int))) → lcL [5] g1 tYesD l_least_1 ρ (ks.map nD) = .ok (ks.map fun s => .bl (!wnB s m)) := fun ρ h6 h4 => lcL_map nD _ ks fun s _ => by
      unfold l_least_1 nD wnB
      rw [Nat.and_comm]
      have h4' : ρ[4]'(by omega) = .d (.int (m : Int)) := by rw [List.getElem?_eq_getElem (by omega)] at h4; exact Option.some.inj h4
      simp [h6, h4', dAnd_nn, dNe_nn]
      rfl
    have l2 : (ks.map (selD c)).length < lim := lim_lt (by rw [List.length_map]; omega)
    have l3 : (ks.map nD).length < lim := lim_lt (by rw [List.length_map]; omega)
    have l4 : (ks.map fun s => D.bl (!wnB s m)).length ≤ lim := by rw [List.length_map]; exact Nat.le_trans kl (by decide)
    by_cases a : (ks.all fun s => !wnB s m) = true
    · have q : b_least_1 [.d (.lst (ms.map (selD c))), .own false (ks.map (selD c)), .own false (ks.map nD), .d (selD c m), s4, s5] = .nx [.d (.lst (ms.map (selD c))), .own false ((ks ++ [m]).map (selD c)), .own false ((ks ++ [m]).map nD), .d (selD c m), .d (.int (m : Int)), s5] := by
        unfold b_least_1
        simp only [List.length_map] at l2 l3 l4
        simp [km, l1, okLen_le, l4, bAll_map, a, l2, l3]
        rfl
      refine ⟨[selD c m], _, rfl, .inl q, ⟨_, _, _, by unfold keepF; rw [if_pos a]⟩, ?_, ?_⟩
      · unfold keepF
        rw [if_pos a]
        refine List.nodup_append.mpr ⟨nd, by simp, fun x hx y hy e => ?_⟩
        rw [List.mem_singleton.mp hy] at e
        subst e
        have := List.all_eq_true.mp a x hx
        rw [wnB_refl] at this
        cases this
      · unfold keepF
        rw [if_pos a]
        intro k hk
        rcases List.mem_append.mp hk with h | h
        · exact bk k h
        · rw [List.mem_singleton.mp h]; exact hm2
    · have q : b_least_1 [.d (.lst (ms.map (selD c))), .own false (ks.map (selD c)), .own false (ks.map nD), .d (selD c m), s4, s5] = .nx [.d (.lst (ms.map (selD c))), .own false (ks.map (selD c)), .own false (ks.map nD), .d (selD c m), .d (.int (m : Int)), s5] := by
        unfold b_least_1
        simp only [List.length_map] at l2 l3 l4
        rw [Bool.not_eq_true] at a
        simp [km, l1, okLen_le, l4, bAll_map, a]
      refine ⟨[selD c m], _, rfl, .inl q, ⟨_, _, _, by unfold keepF; rw [if_neg a]⟩, ?_, ?_⟩ <;> unfold keepF <;> rw [if_neg a]
      · exact nd
      · exact bk
  rw [least_fold hc b] at h2
  subst h2
  unfold m_least mOf g_least
  simp [m_inorder c hc ms b hl, h1]
theorem m_selections_all : ((List.range 8).all fun (c : Nat) => isOk (m_selections [.int (c : Int)]) (.lst ((ord c).map (selD c)))) = true := by decide +kernel
theorem m_selections_ (c : Nat) (hc : c ≤ 7) : m_selections [.int (c : Int)] = .ok (.lst ((ord c).map (selD c))) := isOk_eq (List.all_eq_true.mp m_selections_all c (List.mem_range.mpr (by omega)))
theorem m_rest_ (c m : Nat) (hc : c ≤ 7) (hm : m < 2 ^ c) : m_rest [selD c m, .int (c : Int)] = .ok (selD c (2 ^ c - 1 - m)) := by
  have l1 : lcL [2] g1 (eB (e2 dNotIn (eVar 2) (eVar 0))) l_rest_1 [.d (selD c m), .d (.int (c : Int)), .un] ((List.range c).map nD) = .ok (((List.range c).filter fun k => !(sel c m).contains k).map nD) := lcL_filter nD _ nD _ fun k hk => by
    constructor
    · simp [selD, dInS_tup]
    · intro _
      unfold l_rest_1
      simp
  have er : rng1 [.int (c : Int)] = .ok ((List.range c).map nD) := by rw [rng1_n c (by omega), rangeD_nat]
  have lz : (((List.range c).filter fun k => !(sel c m).contains k).map nD).length ≤ lim := by
    rw [List.length_map]
    exact Nat.le_trans (Nat.le_trans (List.length_filter_le _ _) (by rw [List.length_range]; exact hc)) (by decide)
  unfold m_rest mOf g_rest
  simp only [List.length_map] at lz
  unfold selD at l1 ⊢
  rw [sel_rest hm]
  simp [-List.contains_eq_mem, er, l1, okLen_le, lz]
theorem m_size (m : Nat) (rs : List Rul) : m_Book_size [bookD m rs] = .ok (.int (rs.length : Nat)) := by
  unfold m_Book_size mOf g_Book_size
  simp [fld_rules, bLen_tup]
theorem m_sub (m : Nat) (m0 : 1 ≤ m) (hm : m ≤ 4) (rs : List Rul) (hl : rs.length ≤ 16) (hr : ∀ r ∈ rs, r.1 < 2 ^ 2 ^ m ∧ r.2 < 2 ^ 2 ^ m) (mk : Nat) : m_Book_sub [bookD m rs, selD rs.length mk] = .ok (bookD m (subl rs mk)) := by
  have e := m_book m m0 hm (subl rs mk) (Nat.le_trans (subl_len rs mk) hl) fun r h => hr r (subl_sub rs mk r h)
  have l1 : lcL [2] g1 tYesD l_Book_sub_1 [.d (bookD m rs), .d (selD rs.length mk), .un] ((sel rs.length mk).map nD) = .ok ((sel rs.length mk).map fun k => ruleD (rs.getD k (0, 0))) := lcL_map nD _ _ fun k hk => by
    have hk : k < rs.length := List.mem_range.mp (List.mem_filter.mp hk).1
    have at_ : L2.atI (rs.map ruleD) (k : Int) = some (ruleD (rs.getD k (0, 0))) := atI_at (by rw [List.getElem?_map, List.getElem?_eq_getElem hk]; simp [List.getD, List.getElem?_eq_getElem hk])
    unfold l_Book_sub_1
    simp [fld_rules, nD, at_]
  have e2 : ((sel rs.length mk).map fun k => ruleD (rs.getD k (0, 0))) = (subl rs mk).map ruleD := by
    rw [subl_map rs mk (0, 0), List.map_map]
    rfl
  rw [e2] at l1
  have ll : (subl rs mk).length ≤ lim := Nat.le_trans (Nat.le_trans (subl_len rs mk) hl) (by decide)
  have it : items (selD rs.length mk) = .ok ((sel rs.length mk).map nD) := rfl
  unfold m_Book_sub mOf g_Book_sub
  simp [fld_n, it, l1, okLen_le, ll, e]
  rfl
end K97
set_option Elab.async false
set_option linter.all false
set_option maxRecDepth 100000
set_option maxHeartbeats 400000
namespace K97
open PySem PySem.Spec PyProof.Rows L2 DL Cb Du
theorem nat_mod (x : Int) (h : 0 ≤ x) (m : Nat) (hm : 0 < m) : ∃ r : Nat, x % (m : Int) = (r : Int) ∧ r < m := by
  have h1 := Int.emod_nonneg x (show (m : Int) ≠ 0 by omega)
  have h2 := Int.emod_lt_of_pos x (show (0 : Int) < m by omega)
  exact ⟨(x % m).toNat, by omega, by omega⟩
/-! ### the law's own reckoning of what is due -/
theorem ruleD_0 (r : Rul) : dIx (ruleD r) (.int 0) = .ok (.int (r.1 : Int)) := rfl
theorem ruleD_1 (r : Rul) : dIx (ruleD r) (.int 1) = .ok (.int (r.2 : Int)) := rfl
theorem lmeet_in (a b : DL.Slot) (k : Nat) : ∀ (rs : List Rul) (acc : Nat) (s4 : DL.Slot), ∃ s4', forL [4] g1 b__law_meet_1 (rs.map ruleD) [a, b, .d (.int (k : Int)), .d (.int (acc : Int)), s4] =
    .nx [a, b, .d (.int (k : Int)), .d (.int ((rs.foldl (mSt k) acc : Nat) : Int)), s4']
  | [], acc, s4 => ⟨s4, rfl⟩
  | r :: rs, acc, s4 => by
    obtain ⟨s4', q⟩ := lmeet_in a b k rs (mSt k acc r) (.d (ruleD r))
    refine ⟨s4', ?_⟩
    rw [List.map_cons, List.foldl_cons]
    have e : b__law_meet_1 [a, b, .d (.int (k : Int)), .d (.int (acc : Int)), .d (ruleD r)] = .nx [a, b, .d (.int (k : Int)), .d (.int ((mSt k acc r : Nat) : Int)), .d (ruleD r)] := by
      unfold b__law_meet_1 mSt wnB
      by_cases h : k &&& r.1 = k
      · simp [ruleD_0, ruleD_1, dAnd_nn, dEq_nn, h]
      · simp [ruleD_0, ruleD_1, dAnd_nn, dEq_nn, h]
    exact (forL_nx (sl := [4]) (g := g1) (fb := b__law_meet_1) (ρ := [a, b, .d (.int (k : Int)), .d (.int (acc : Int)), s4]) (vs := [ruleD r]) rfl e).trans q
theorem m_lmeet (m : Nat) (hm : m ≤ 4) (rs : List Rul) (k : Nat) : m__law_meet [.int (m : Int), .lst (rs.map ruleD), .int (k : Int)] = .ok (.int ((Mh (2 ^ 2 ^ m) rs k : Nat) : Int)) := by
  obtain ⟨p, T, t1, t2, hT, T0, T1⟩ := tops m hm
  rw [← hT]
  have hT1 : ((T : Int) - 1) = ((T - 1 : Nat) : Int) := by omega
  obtain ⟨s4, q⟩ := lmeet_in (.d (.int (m : Int))) (.d (.lst (rs.map ruleD))) k rs (T - 1) .un
  unfold Mh
  unfold m__law_meet mOf g__law_meet
  simp [t1, t2, hT1, q]
def lawF (s p : Bool) (T : Nat) (rs : List Rul) (t k : Nat) : Nat := if (!s || stab T rs k) = true then t ||| Oh p T rs k else t
section
variable {z : Str} {c s p : Bool} {m : Nat} {rs : List Rul}
theorem ldue_turn (M : Man z c s p) (hm : m ≤ 4) (k t : Nat) (a2 a4 s7 s8 s9 : DL.Slot) :
    ∃ s7', b__law_due_2 [.d (.int (m : Int)), .d (.lst (rs.map ruleD)), a2, .d (.str z), a4, .d (.int (t : Int)), .d (.int (k : Int)), s7, s8, s9] = .nx [.d (.int (m : Int)), .d (.lst (rs.map ruleD)), a2, .d (.str z), a4, .d (.int ((lawF s p (2 ^ 2 ^ m) rs t k : Nat) : Int)), .d (.int (k : Int)), s7', s8, s9] := by
  obtain ⟨w, w1, w2, w3, w4⟩ := M.z4
  have e := m_lmeet m hm rs k
  have pl := M.pl
  have st : stab (2 ^ 2 ^ m) rs k = decide (k &&& Mh (2 ^ 2 ^ m) rs k = k) := by unfold stab wnB; rw [Bool.eq_iff_iff]; simp
  unfold lawF
  rw [st]
  unfold Oh
  generalize Mh (2 ^ 2 ^ m) rs k = X at e ⊢
  unfold b__law_due_2
  have a1 := dAnd_nn k X
  have a3 := dAnd_nn X k
  have n1 := dEq_nn (k &&& X) k
  generalize decide (k &&& X = k) = B at n1 ⊢
  generalize k &&& X = Y at a1 n1
  generalize X &&& k = V at a3 ⊢
  cases s <;> cases p <;> cases B <;> simp [e, w1, w3, pl, a1, a3, n1, dOr_nn]
theorem ldue_loop (M : Man z c s p) (hm : m ≤ 4) (a2 a4 s8 s9 : DL.Slot) : ∀ (ks : List Nat) (t : Nat) (s6 s7 : DL.Slot), ∃ s6' s7', forL [6] g1 b__law_due_2 (ks.map nD) [.d (.int (m : Int)), .d (.lst (rs.map ruleD)), a2, .d (.str z), a4, .d (.int (t : Int)), s6, s7, s8, s9] =
    .nx [.d (.int (m : Int)), .d (.lst (rs.map ruleD)), a2, .d (.str z), a4, .d (.int ((ks.foldl (lawF s p (2 ^ 2 ^ m) rs) t : Nat) : Int)), s6', s7', s8, s9]
  | [], t, s6, s7 => ⟨s6, s7, rfl⟩
  | k :: ks, t, s6, s7 => by
    obtain ⟨s7', e⟩ := ldue_turn (rs := rs) M hm k t a2 a4 s7 s8 s9
    obtain ⟨s6'', s7'', q⟩ := ldue_loop M hm a2 a4 s8 s9 ks (lawF s p (2 ^ 2 ^ m) rs t k) (.d (.int (k : Int))) s7'
    refine ⟨s6'', s7'', ?_⟩
    rw [List.foldl_cons]
    exact (forL_nx (sl := [6]) (g := g1) (fb := b__law_due_2) (ρ := [.d (.int (m : Int)), .d (.lst (rs.map ruleD)), a2, .d (.str z), a4, .d (.int (t : Int)), s6, s7, s8, s9]) (vs := [.int (k : Int)]) rfl e).trans q
theorem lsettle_loop (hm : m ≤ 4) (a2 a3 a4 a5 s7 s9 : DL.Slot) : ∀ (l : List Nat) (k : Nat) (s8 : DL.Slot), ∃ s8', forL [8] g1 b__law_due_1 (l.map nD) [.d (.int (m : Int)), .d (.lst (rs.map ruleD)), a2, a3, a4, a5, .d (.int (k : Int)), s7, s8, s9] =
    .nx [.d (.int (m : Int)), .d (.lst (rs.map ruleD)), a2, a3, a4, a5, .d (.int ((iterN (stepN (2 ^ 2 ^ m) rs) l.length k : Nat) : Int)), s7, s8', s9]
  | [], k, s8 => ⟨s8, rfl⟩
  | x :: l, k, s8 => by
    have e1 := m_lmeet m hm rs k
    have e : b__law_due_1 [.d (.int (m : Int)), .d (.lst (rs.map ruleD)), a2, a3, a4, a5, .d (.int (k : Int)), s7, .d (nD x), s9] = .nx [.d (.int (m : Int)), .d (.lst (rs.map ruleD)), a2, a3, a4, a5, .d (.int ((stepN (2 ^ 2 ^ m) rs k : Nat) : Int)), s7, .d (nD x), s9] := by
      unfold b__law_due_1 stepN
      generalize Mh (2 ^ 2 ^ m) rs k = X at e1 ⊢
      simp [e1, dAnd_nn]
    obtain ⟨s8', q⟩ := lsettle_loop hm a2 a3 a4 a5 s7 s9 l (stepN (2 ^ 2 ^ m) rs k) (.d (nD x))
    refine ⟨s8', ?_⟩
    exact (forL_nx (sl := [8]) (g := g1) (fb := b__law_due_1) (ρ := [.d (.int (m : Int)), .d (.lst (rs.map ruleD)), a2, a3, a4, a5, .d (.int (k : Int)), s7, s8, s9]) (vs := [nD x]) rfl e).trans q
theorem lawF_join (T : Nat) (rs : List Rul) : ∀ (ws : List Nat) (t : Nat), (ws.map fun w => 2 ^ w).foldl (lawF s p T rs) t = ws.foldl (joinF s p T rs) t
  | [], _ => rfl
  | w :: ws, t => lawF_join T rs ws _
theorem m_ldue (M : Man z c s p) (hm : m ≤ 4) (f : Nat) (hf : f < 2 ^ 2 ^ m) : m__law_due [.int (m : Int), .lst (rs.map ruleD), .int (f : Int), .str z] = .ok (.int ((DueF c s p (2 ^ 2 ^ m) rs f : Nat) : Int)) := by
  obtain ⟨w, w1, w2, w3, w4⟩ := M.z4
  obtain ⟨_, T, _, _, hT, T0, T1⟩ := tops m hm
  have hf' : f < 65536 := by rw [← hT] at hf; omega
  have zero : ∀ k, (!s || stab (2 ^ 2 ^ m) rs k) = true → lawF s p (2 ^ 2 ^ m) rs 0 k = Oh p (2 ^ 2 ^ m) rs k := fun k h => by
    unfold lawF
    rw [if_pos h, Nat.zero_or]
  unfold m__law_due mOf g__law_due DueF
  cases c with
  | false =>
    cases s with
    | false =>
      obtain ⟨s6, s7, q⟩ := ldue_loop (rs := rs) M hm (.d (.int (f : Int))) (.d (.lst [nD f])) .un .un [f] 0 .un .un
      have q2 := zero f rfl
      simp only [List.foldl_cons, List.foldl_nil, q2, List.map_cons, List.map_nil, nD] at q
      rw [show ((0 : Nat) : Int) = 0 from rfl] at q
      simp only [Bool.false_eq_true, if_false]
      generalize Oh p (2 ^ 2 ^ m) rs f = O at q ⊢
      have w4 : dEq (.str w) (.str "step") = .ok (.bl false) := w4
      simp [w1, w2, w4, nD, q]
    | true =>
      obtain ⟨s8', q1⟩ := lsettle_loop (m := m) (rs := rs) hm (.d (.int (f : Int))) (.d (.str z)) (.d (.lst [nD f])) .un .un .un (List.range 17) f .un
      rw [List.length_range, ← rangeD_nat] at q1
      have q1 : forL [8] g1 b__law_due_1 (rangeD 0 17) [.d (.int (m : Int)), .d (.lst (rs.map ruleD)), .d (.int (f : Int)), .d (.str z), .d (.lst [nD f]), .un, .d (.int (f : Int)), .un, .un, .un] = .nx [.d (.int (m : Int)), .d (.lst (rs.map ruleD)), .d (.int (f : Int)), .d (.str z), .d (.lst [nD f]), .un, .d (.int ((settleN (2 ^ 2 ^ m) rs f : Nat) : Int)), .un, s8', .un] := q1
      have sb := (iter_stab (T := 2 ^ 2 ^ m) (rs := rs) 17 f hf' (by have := wl_len f; omega)).1
      have q2 := zero (settleN (2 ^ 2 ^ m) rs f) (by unfold settleN; rw [sb]; rfl)
      simp only [Bool.false_eq_true, if_false, if_true]
      generalize settleN (2 ^ 2 ^ m) rs f = P at q1 q2 ⊢
      obtain ⟨s6, s7, q⟩ := ldue_loop (rs := rs) M hm (.d (.int (f : Int))) (.d (.lst [nD P])) s8' .un [P] 0 (.d (.int (P : Int))) .un
      simp only [List.foldl_cons, List.foldl_nil, q2, List.map_cons, List.map_nil, nD] at q
      rw [show ((0 : Nat) : Int) = 0 from rfl] at q
      generalize Oh p (2 ^ 2 ^ m) rs P = O at q ⊢
      have w4 : dEq (.str w) (.str "step") = .ok (.bl true) := w4
      have er : rng1 [.int 17] = .ok (rangeD 0 17) := rng1_n 17 (by decide)
      simp only [nD] at q1
      simp [w1, w2, w4, nD, er, q1, q]
  | true =>
    rw [if_pos rfl]
    obtain ⟨K, hK⟩ : ∃ K, 2 ^ m = K := ⟨_, rfl⟩
    have K1 : K ≤ 16 := by rw [← hK]; exact Nat.pow_le_pow_right (by decide) hm
    let ws := (List.range K).filter fun j => f.testBit j
    have hws : ∀ j, j ∈ ws ↔ f.testBit j = true := fun j => by
      rw [List.mem_filter, List.mem_range]
      refine ⟨fun h => h.2, fun h => ⟨?_, h⟩⟩
      rcases Nat.lt_or_ge j K with q | q
      · exact q
      · rw [Nat.testBit_lt_two_pow (Nat.lt_of_lt_of_le hf (Nat.pow_le_pow_right (by decide) (hK ▸ q)))] at h
        cases h
    have e1 : dShl (.int 1) (.int (m : Int)) = .ok (.int (K : Int)) := hK ▸ dShl_1 (by omega)
    have er : rng1 [.int (K : Int)] = .ok ((List.range K).map nD) := by rw [rng1_n K (by omega), rangeD_nat]
    have l1 : ∀ ft : DEnv → Res Bool, (∀ j : Nat, ft [.d (.int (m : Int)), .d (.lst (rs.map ruleD)), .d (.int (f : Int)), .d (.str z), .d (.lst [nD f]), .un, .un, .un, .un, .d (nD j)] = .ok (f.testBit j)) →
        lcL [9] g1 ft l__law_due_1 [.d (.int (m : Int)), .d (.lst (rs.map ruleD)), .d (.int (f : Int)), .d (.str z), .d (.lst [nD f]), .un, .un, .un, .un, .un] ((List.range K).map nD) = .ok (ws.map fun w => nD (2 ^ w)) := fun ft q => lcL_filter nD _ (fun w => nD (2 ^ w)) _ fun j hj => ⟨q j, fun _ => by
      have hj := List.mem_range.mp hj
      have s1 := dShl_1 (k := j) (by omega)
      unfold l__law_due_1
      unfold nD
      generalize 2 ^ j = J at s1 ⊢
      simp [-dI2c_ap, s1]⟩
    have l2 := l1 (eB (e2 dEq (e2 dAnd (e2 dShr (eVar 2) (eVar 9)) (eC (.int 1))) (eC (.int 1)))) fun j => by
      obtain ⟨q, hq⟩ : ∃ q, f / 2 ^ j = q := ⟨_, rfl⟩
      obtain ⟨r, hr⟩ : ∃ r, q &&& 1 = r := ⟨_, rfl⟩
      have a1 : dShr (.int (f : Int)) (nD j) = .ok (.int (q : Int)) := hq ▸ dShr_nn f j
      have a2 : dAnd (.int (q : Int)) (.int 1) = .ok (.int (r : Int)) := hr ▸ dAnd_nn q 1
      have a3 : dEq (.int (r : Int)) (.int 1) = .ok (.bl (f.testBit j)) := by
        rw [← bit_dec, hq, hr]
        exact dEq_nn r 1
      simp [-dI2c_ap, -dI2_ap, a1, a2, a3]
    have lw : ws.length ≤ 16 := Nat.le_trans (List.length_filter_le _ _) (by rw [List.length_range]; exact K1)
    have ll : ws.length ≤ lim := Nat.le_trans lw (by decide)
    have lc : dCatL (.lst [.int 0]) (.lst (ws.map fun w => nD (2 ^ w))) = .ok ((0 :: ws.map fun w => 2 ^ w).map nD) := by
      show (if [D.int 0].length + (ws.map fun w => nD (2 ^ w)).length ≤ lim then Res.ok ([D.int 0] ++ ws.map fun w => nD (2 ^ w)) else .st) = _
      rw [List.length_map, if_pos (by show 1 + ws.length ≤ lim; unfold lim; omega), List.map_cons, List.map_map]
      rfl
    have q0 := zero 0 (by unfold stab; rw [wnB_zero, Bool.or_true])
    obtain ⟨s6, s7, q⟩ := ldue_loop (rs := rs) M hm (.d (.int (f : Int))) (.d (.lst ((0 :: ws.map fun w => 2 ^ w).map nD))) .un .un (0 :: ws.map fun w => 2 ^ w) 0 .un .un
    rw [List.foldl_cons, q0, lawF_join, show ws.foldl (joinF s p (2 ^ 2 ^ m) rs) (Oh p (2 ^ 2 ^ m) rs 0) = Duw s p (2 ^ 2 ^ m) rs ws from rfl, Duw_congr (vs := wl f) fun j => (hws j).trans (mem_wl hf').symm] at q
    generalize Duw s p (2 ^ 2 ^ m) rs (wl f) = W at q ⊢
    generalize (0 :: ws.map fun w => 2 ^ w) = L at lc q
    rw [show ((0 : Nat) : Int) = 0 from rfl] at q
    simp only [nD] at l2 q
    simp only [nD] at lc
    simp [-dI2c_ap, -Int.natCast_pow, nD, w1, w2, e1, er, l2, okLen_le, ll, lc, q]
end
end K97
set_option Elab.async false
set_option linter.all false
set_option maxRecDepth 100000
set_option maxHeartbeats 400000
namespace K97
open PySem PySem.Spec PyProof.Rows L2 DL Cb Du
/-! ### verdicts -/
def hB (c s p : Bool) (T : Nat) (rs : List Rul) (pr : Rul) : Bool := wnB (DueF c s p T rs pr.1) pr.2
def seenD (m : Nat) (ys nn : List Rul) : D := .obj "Seen" ["n", "yes", "no"] [.int (m : Int), .tup (ys.map ruleD), .tup (nn.map ruleD)]
theorem sf_n (m : Nat) (ys nn : List Rul) : dFld ["Book", "Seen", "Table"] "n" (seenD m ys nn) = .ok (.int (m : Int)) := rfl
theorem sf_yes (m : Nat) (ys nn : List Rul) : dFld ["Seen"] "yes" (seenD m ys nn) = .ok (.tup (ys.map ruleD)) := rfl
theorem sf_no (m : Nat) (ys nn : List Rul) : dFld ["Seen"] "no" (seenD m ys nn) = .ok (.tup (nn.map ruleD)) := rfl
theorem seen_turn (m : Nat) (hm : m ≤ 4) (a a2 a3 s5 s6 s7 : DL.Slot) (acc : List Rul) (r : Rul) (i : Nat) (h1 : r.1 < 2 ^ 2 ^ m) (h2 : r.2 < 2 ^ 2 ^ m) (hl : acc.length < lim) :
    b_Seen_init_1 [a, .d (.int (m : Int)), a2, a3, .own false (acc.map ruleD), .d (.int (i : Int)), .d (.int (r.1 : Int)), .d (.int (r.2 : Int))] =
      .nx [a, .d (.int (m : Int)), a2, a3, .own false ((acc ++ [r]).map ruleD), .d (.int (i : Int)), .d (.int (r.1 : Int)), .d (.int (r.2 : Int))] := by
  unfold b_Seen_init_1
  simp [m_isprop m _ hm h1, m_isprop m _ hm h2, hl]
  rfl
theorem m_seen (m : Nat) (m0 : 1 ≤ m) (hm : m ≤ 4) (ys nn : List Rul) (ly : ys.length ≤ 8) (ln : nn.length ≤ 8) (hr : ∀ r ∈ ys ++ nn, r.1 < 2 ^ 2 ^ m ∧ r.2 < 2 ^ 2 ^ m) :
    m_Seen_init [.int (m : Int), .lst (ys.map ruleD), .lst (nn.map ruleD)] = .ok (["n", "yes", "no"], [.int (m : Int), .tup (ys.map ruleD), .tup (nn.map ruleD)]) := by
  let sf : DL.Slot := .obo true "Seen" [] []
  obtain ⟨rs, hrs⟩ : ∃ rs, rs = ys ++ nn := ⟨_, rfl⟩
  have lr : rs.length = ys.length + nn.length := by rw [hrs, List.length_append]
  rw [← hrs] at hr
  have key := forL_ind (sl := ([5] ++ (([6] ++ ([7] ++ [])) ++ []))) (g := (gT 2 (gC g1 (gC (gT 2 (gC g1 (gC g1 gN))) gN)))) (fb := b_Seen_init_1) (fun i ρ => ∃ (s5 s6 s7 : DL.Slot), ρ = [sf, .d (.int (m : Int)), .d (.lst (ys.map ruleD)), .d (.lst (nn.map ruleD)), .own false ((rs.take i).map ruleD), s5, s6, s7])
    (enumD 0 (rs.map ruleD)) 0 [sf, .d (.int (m : Int)), .d (.lst (ys.map ruleD)), .d (.lst (nn.map ruleD)), .own false [], .un, .un, .un] ⟨.un, .un, .un, by simp⟩ fun i d ρ hd ⟨s5, s6, s7, e⟩ => by
      subst e
      rw [enumD_get, List.getElem?_map] at hd
      cases hx : rs[i]? with
      | none => rw [hx] at hd; cases hd
      | some r =>
        rw [hx] at hd
        cases hd
        have hmem : r ∈ rs := List.mem_of_getElem? hx
        obtain ⟨h1, h2⟩ := hr r hmem
        have hi : i < rs.length := (List.getElem?_eq_some_iff.mp hx).1
        have ht : (rs.take (0 + i)).map ruleD = (rs.take i).map ruleD := by rw [Nat.zero_add]
        have e1 := seen_turn m hm sf (.d (.lst (ys.map ruleD))) (.d (.lst (nn.map ruleD))) s5 s6 s7 (rs.take i) r (0 + i) h1 h2 (lim_lt (by rw [List.length_take]; omega))
        refine ⟨[.int ((0 + i : Nat) : Int), .int (r.1 : Int), .int (r.2 : Int)], _, rfl, .inl ((congrArg b_Seen_init_1 ?_).trans e1), .d (.int ((0 + i : Nat) : Int)), .d (.int (r.1 : Int)), .d (.int (r.2 : Int)), ?_⟩
        · rw [ht]; rfl
        · rw [Nat.zero_add, List.take_add_one, hx]; rfl
  obtain ⟨ρ, q, s5, s6, s7, rfl⟩ := key
  rw [Nat.zero_add, enumD_length, List.length_map, List.take_length] at q
  have c1 : (1 : Int) ≤ m := by omega
  have c2 : (m : Int) ≤ 4 := by omega
  have c3 : ¬ (8 : Int) < ys.length := by omega
  have c4 : ¬ (8 : Int) < nn.length := by omega
  have hb : bEnumA [.lst (rs.map ruleD)] = .ok (enumD 0 (rs.map ruleD)) := rfl
  have st : ∀ ρ : DEnv, ρ[2]? = some (.d (.lst (ys.map ruleD))) → ρ[3]? = some (.d (.lst (nn.map ruleD))) → eStar (eVar 2) (eStar (eVar 3) eNil) ρ = .ok (rs.map ruleD) := fun ρ h2 h3 => by
    have e2 : eVar 2 ρ = .ok (.lst (ys.map ruleD)) := by unfold eVar; rw [h2]; rfl
    have e3 : eVar 3 ρ = .ok (.lst (nn.map ruleD)) := by unfold eVar; rw [h3]; rfl
    unfold eStar
    simp only [e2, e3, bind_ok]
    show Res.ok (ys.map ruleD ++ (nn.map ruleD ++ [])) = _
    rw [List.append_nil, ← List.map_append, ← hrs]
  have t1 : dSlL (.lst (rs.map ruleD)) none (some (ys.length : Nat)) = .ok (ys.map ruleD) := by
    show Res.ok (DL.cutD (rs.map ruleD) none (some (ys.length : Nat))) = _
    unfold DL.cutD
    rw [HT.sIx_none, HT.sIx_nat, List.length_map, Nat.min_eq_left (by omega), List.drop_zero, Nat.sub_zero, ← List.map_take, hrs, List.take_left]
  have t2 : dSlL (.lst (rs.map ruleD)) (some (ys.length : Nat)) none = .ok (nn.map ruleD) := by
    show Res.ok (DL.cutD (rs.map ruleD) (some (ys.length : Nat)) none) = _
    unfold DL.cutD
    rw [HT.sIx_none, HT.sIx_nat, List.length_map, Nat.min_eq_left (by omega), ← List.map_drop, hrs, List.drop_left, List.take_of_length_le (by rw [List.length_map, List.length_append]; omega)]
  unfold m_Seen_init mI g_Seen_init
  have q : forL [5, 6, 7] (gT 2 (gC g1 (gC (gT 2 (gC g1 (gC g1 gN))) gN))) b_Seen_init_1 (enumD 0 (rs.map ruleD)) [Slot.obo true "Seen" [] [], .d (.int (m : Int)), .d (.lst (ys.map ruleD)), .d (.lst (nn.map ruleD)), .own false [], .un, .un, .un] = .nx [Slot.obo true "Seen" [] [], .d (.int (m : Int)), .d (.lst (ys.map ruleD)), .d (.lst (nn.map ruleD)), .own false (rs.map ruleD), s5, s6, s7] := q
  have st := st [Slot.obo true "Seen" [] [], .d (.int (m : Int)), .d (.lst (ys.map ruleD)), .d (.lst (nn.map ruleD)), .own false [], .un, .un, .un] rfl rfl
  have p1 : putN "n" [] = [Str.ofString "n"] := rfl
  have p2 : putN "yes" [Str.ofString "n"] = [Str.ofString "n", Str.ofString "yes"] := rfl
  have p2' : putN "no" [Str.ofString "n", Str.ofString "yes"] = [Str.ofString "n", Str.ofString "yes", Str.ofString "no"] := rfl
  have p3 : ∀ x, putD "n" x [] [] = [x] := fun _ => rfl
  have p4 : ∀ x y, putD "yes" x ["n"] [y] = [y, x] := fun _ _ => rfl
  have p4' : ∀ x y w, putD "no" x ["n", "yes"] [y, w] = [y, w, x] := fun _ _ _ => rfl
  have p5 : List.contains [Str.ofString "Seen"] (Str.ofString "Seen") = true := rfl
  have l8 : rs.length ≤ lim := by unfold lim; omega
  simp [c1, c2, c3, c4, st, okLen_le, l8, hb, q, t1, t2, p1, p2, p2', p3, p4, p4', nlxs_rules]
section
variable {z : Str} {c s p : Bool} {m : Nat} {rs : List Rul}
theorem fd_loop (M : Man z c s p) (hm : m ≤ 4) (SQ : D) : ∀ (ps : List Rul) (i : Nat) (s3 s4 s5 : DL.Slot), (∀ r ∈ ps, r.1 < 2 ^ 2 ^ m) →
    (ps.any (hB c s p (2 ^ 2 ^ m) rs) = true → ∃ k : Nat, forL ([3] ++ (([4] ++ ([5] ++ [])) ++ [])) (gT 2 (gC g1 (gC (gT 2 (gC g1 (gC g1 gN))) gN))) b_first_due_1 (enumD i (ps.map ruleD)) [.d (bookD m rs), .d SQ, .d (.str z), s3, s4, s5] = .rt (.int (k : Int))) ∧
    (ps.any (hB c s p (2 ^ 2 ^ m) rs) = false → ∃ s3' s4' s5', forL ([3] ++ (([4] ++ ([5] ++ [])) ++ [])) (gT 2 (gC g1 (gC (gT 2 (gC g1 (gC g1 gN))) gN))) b_first_due_1 (enumD i (ps.map ruleD)) [.d (bookD m rs), .d SQ, .d (.str z), s3, s4, s5] = .nx [.d (bookD m rs), .d SQ, .d (.str z), s3', s4', s5'])
  | [], i, s3, s4, s5, _ => ⟨fun h => (nomatch h), fun _ => ⟨s3, s4, s5, rfl⟩⟩
  | r :: ps, i, s3, s4, s5, hp => by
    have ih := fd_loop M hm SQ ps (i + 1) (.d (.int (i : Int))) (.d (.int (r.1 : Int))) (.d (.int (r.2 : Int))) fun x hx => hp x (List.mem_cons_of_mem _ hx)
    have e1 := m_isdue (rs := rs) M hm r.1 r.2 (hp r List.mem_cons_self)
    have fe : forL ([3] ++ (([4] ++ ([5] ++ [])) ++ [])) (gT 2 (gC g1 (gC (gT 2 (gC g1 (gC g1 gN))) gN))) b_first_due_1 (enumD i ((r :: ps).map ruleD)) [.d (bookD m rs), .d SQ, .d (.str z), s3, s4, s5] =
        (match b_first_due_1 [.d (bookD m rs), .d SQ, .d (.str z), .d (.int (i : Int)), .d (.int (r.1 : Int)), .d (.int (r.2 : Int))] with
        | .nx ρ' => forL ([3] ++ (([4] ++ ([5] ++ [])) ++ [])) (gT 2 (gC g1 (gC (gT 2 (gC g1 (gC g1 gN))) gN))) b_first_due_1 (enumD (i + 1) (ps.map ruleD)) ρ'
        | .ct ρ' => forL ([3] ++ (([4] ++ ([5] ++ [])) ++ [])) (gT 2 (gC g1 (gC (gT 2 (gC g1 (gC g1 gN))) gN))) b_first_due_1 (enumD (i + 1) (ps.map ruleD)) ρ'
        | .bk ρ' => .nx ρ'
        | r => r) := rfl
    have hv : hB c s p (2 ^ 2 ^ m) rs r = wnB (DueF c s p (2 ^ 2 ^ m) rs r.1) r.2 := rfl
    rw [List.any_cons]
    cases hb : hB c s p (2 ^ 2 ^ m) rs r with
    | true =>
      rw [← hv, hb] at e1
      have b1 : b_first_due_1 [.d (bookD m rs), .d SQ, .d (.str z), .d (.int (i : Int)), .d (.int (r.1 : Int)), .d (.int (r.2 : Int))] = .rt (.int (i : Int)) := by
        unfold b_first_due_1
        simp [e1]
      rw [b1] at fe
      exact ⟨fun _ => ⟨i, fe⟩, fun h => (nomatch h)⟩
    | false =>
      rw [← hv, hb] at e1
      have b1 : b_first_due_1 [.d (bookD m rs), .d SQ, .d (.str z), .d (.int (i : Int)), .d (.int (r.1 : Int)), .d (.int (r.2 : Int))] = .nx [.d (bookD m rs), .d SQ, .d (.str z), .d (.int (i : Int)), .d (.int (r.1 : Int)), .d (.int (r.2 : Int))] := by
        unfold b_first_due_1
        simp [e1]
      rw [b1] at fe
      rw [fe, Bool.false_or]
      exact ih
theorem m_first (M : Man z c s p) (hm : m ≤ 4) (ps : List Rul) (hp : ∀ r ∈ ps, r.1 < 2 ^ 2 ^ m) (SQ : D) (he : bEnumA [SQ] = .ok (enumD 0 (ps.map ruleD))) :
    (ps.any (hB c s p (2 ^ 2 ^ m) rs) = true → ∃ k : Nat, m_first_due [bookD m rs, SQ, .str z] = .ok (.int (k : Int))) ∧ (ps.any (hB c s p (2 ^ 2 ^ m) rs) = false → m_first_due [bookD m rs, SQ, .str z] = .ok .non) := by
  have l := fd_loop (rs := rs) M hm SQ ps 0 .un .un .un hp
  simp only [List.nil_append, List.append_nil, List.cons_append] at l
  unfold m_first_due mOf g_first_due
  refine ⟨fun h => ?_, fun h => ?_⟩
  · obtain ⟨k, e⟩ := l.1 h
    exact ⟨k, by simp [he, e]⟩
  · obtain ⟨s3, s4, s5, e⟩ := l.2 h
    simp [he, e]
theorem book_of_yes (m0 : 1 ≤ m) (hm : m ≤ 4) (ys : List Rul) (ly : ys.length ≤ 16) (hr : ∀ r ∈ ys, r.1 < 2 ^ 2 ^ m ∧ r.2 < 2 ^ 2 ^ m) : mkD "Book" 3 m_Book_init [.int (m : Int), .tup (ys.map ruleD)] = .ok (bookD m ys) := by
  simp [m_bookt m m0 hm ys ly hr]
  rfl
theorem m_conf (M : Man z c s p) (m0 : 1 ≤ m) (hm : m ≤ 4) (ys nn : List Rul) (ly : ys.length ≤ 8) (hr : ∀ r ∈ ys, r.1 < 2 ^ 2 ^ m ∧ r.2 < 2 ^ 2 ^ m) (hn : ∀ r ∈ nn, r.1 < 2 ^ 2 ^ m) (h : nn.any (hB c s p (2 ^ 2 ^ m) ys) = false) :
    m_conflict [seenD m ys nn, .str z] = .ok .non ∧ m_fitting_book [seenD m ys nn, .str z] = .ok (bookD m ys) ∧ m_checked_book [seenD m ys nn, .str z] = .ok (bookD m ys) := by
  have eb := book_of_yes m0 hm ys (by omega) hr
  have ef := (m_first (rs := ys) M hm nn hn (.tup (nn.map ruleD)) rfl).2 h
  have i0 : dIsN .non .non = .ok (.bl true) := rfl
  have i1 : dNotN .non .non = .ok (.bl false) := rfl
  refine ⟨?_, ?_, ?_⟩
  · unfold m_conflict mOf g_conflict
    simp [-mkD2, sf_n, sf_yes, sf_no, eb, ef, i0]
  · unfold m_fitting_book mOf g_fitting_book
    simp [-mkD2, sf_n, sf_yes, sf_no, eb, ef, i0]
  · unfold m_checked_book mOf g_checked_book
    simp [-mkD2, sf_n, sf_yes, sf_no, eb, ef, i1]
theorem m_withr (m0 : 1 ≤ m) (hm : m ≤ 4) (ys : List Rul) (ly : ys.length ≤ 15) (hr : ∀ r ∈ ys, r.1 < 2 ^ 2 ^ m ∧ r.2 < 2 ^ 2 ^ m) (a b : Nat) (ha : a < 2 ^ 2 ^ m) (hb : b < 2 ^ 2 ^ m) : m_Book_with_rule [bookD m ys, .int (a : Int), .int (b : Int)] = .ok (bookD m (ys ++ [(a, b)])) := by
  have eb := book_of_yes m0 hm (ys ++ [(a, b)]) (by rw [List.length_append, List.length_singleton]; omega) fun r h => by
    rcases List.mem_append.mp h with h | h
    · exact hr r h
    · rw [List.mem_singleton.mp h]; exact ⟨ha, hb⟩
  have ad : dAdd (.tup (ys.map ruleD)) (.tup [.tup [.int (a : Int), .int (b : Int)]]) = .ok (.tup ((ys ++ [(a, b)]).map ruleD)) := by
    show (if (ys.map ruleD).length + [D.tup [.int (a : Int), .int (b : Int)]].length ≤ lim then Res.ok (D.tup (ys.map ruleD ++ [D.tup [.int (a : Int), .int (b : Int)]])) else .st) = _
    rw [List.length_map, if_pos (by show ys.length + 1 ≤ lim; unfold lim; omega), List.map_append]
    rfl
  unfold m_Book_with_rule mOf g_Book_with_rule
  simp [-mkD2, -List.map_append, fld_n, fld_rules, ad, eb]
def statS (c s p : Bool) (T : Nat) (ys nn : List Rul) (pr : Rul) : Str := if hB c s p T ys pr = true then "yes" else if nn.any (hB c s p T (ys ++ [pr])) = true then "no" else "open"
theorem m_stat (M : Man z c s p) (m0 : 1 ≤ m) (hm : m ≤ 4) (ys nn : List Rul) (ly : ys.length ≤ 8) (hr : ∀ r ∈ ys, r.1 < 2 ^ 2 ^ m ∧ r.2 < 2 ^ 2 ^ m) (hn : ∀ r ∈ nn, r.1 < 2 ^ 2 ^ m) (h : nn.any (hB c s p (2 ^ 2 ^ m) ys) = false) (f q : Nat) (hf : f < 2 ^ 2 ^ m) (hq : q < 2 ^ 2 ^ m) :
    m_status [seenD m ys nn, .int (f : Int), .int (q : Int), .str z] = .ok (.str (statS c s p (2 ^ 2 ^ m) ys nn (f, q))) := by
  have e1 := (m_conf M m0 hm ys nn ly hr hn h).2.2
  have e2 := m_isdue (rs := ys) M hm f q hf
  have e3 := m_withr m0 hm ys (by omega) hr f q hf hq
  have e4 := m_first (rs := ys ++ [(f, q)]) M hm nn hn (.tup (nn.map ruleD)) rfl
  have hv : hB c s p (2 ^ 2 ^ m) ys (f, q) = wnB (DueF c s p (2 ^ 2 ^ m) ys f) q := rfl
  have im : isM "Book" "with_rule" (bookD m ys) = true := rfl
  have e5 : m_status_by [bookD m ys, .tup (nn.map ruleD), .tup [.int (f : Int), .int (q : Int)], .str z] = .ok (.str (statS c s p (2 ^ 2 ^ m) ys nn (f, q))) := by
    unfold m_status_by mOf g_status_by statS
    rw [hv]
    cases h1 : wnB (DueF c s p (2 ^ 2 ^ m) ys f) q with
    | true =>
      rw [h1] at e2
      simp [e2]
    | false =>
      rw [h1] at e2
      cases h2 : nn.any (hB c s p (2 ^ 2 ^ m) (ys ++ [(f, q)])) with
      | true =>
        obtain ⟨k, e4⟩ := e4.1 h2
        have i1 : dNotN (.int (k : Int)) .non = .ok (.bl true) := rfl
        unfold eMth
        simp [e2, im, e3, e4, i1]
      | false =>
        have e4 := e4.2 h2
        have i1 : dNotN .non .non = .ok (.bl false) := rfl
        unfold eMth
        simp [e2, im, e3, e4, i1]
  unfold m_status mOf g_status
  simp [e1, sf_no, e5]
theorem m_lholds (M : Man z c s p) (hm : m ≤ 4) (pr : Rul) (hf : pr.1 < 2 ^ 2 ^ m) : m__law_holds [.int (m : Int), .lst (rs.map ruleD), ruleD pr, .str z] = .ok (.bl (hB c s p (2 ^ 2 ^ m) rs pr)) := by
  have e1 := m_ldue (rs := rs) M hm pr.1 hf
  have hv : hB c s p (2 ^ 2 ^ m) rs pr = decide (DueF c s p (2 ^ 2 ^ m) rs pr.1 &&& pr.2 = DueF c s p (2 ^ 2 ^ m) rs pr.1) := by
    unfold hB wnB
    rw [Bool.eq_iff_iff]
    simp
  rw [hv]
  generalize DueF c s p (2 ^ 2 ^ m) rs pr.1 = X at e1 ⊢
  have a1 := dAnd_nn X pr.2
  have a2 := dEq_nn (X &&& pr.2) X
  have r0 := ruleD_0 pr
  have r1 := ruleD_1 pr
  unfold m__law_holds mOf g__law_holds
  simp [-dI2_ap, e1, r0, r1, a1, a2]
theorem m_lsome (M : Man z c s p) (hm : m ≤ 4) (ps : List Rul) (hp : ∀ r ∈ ps, r.1 < 2 ^ 2 ^ m) (hl : ps.length ≤ 1000) : m__law_some [.int (m : Int), .lst (rs.map ruleD), .lst (ps.map ruleD), .str z] = .ok (.bl (ps.any (hB c s p (2 ^ 2 ^ m) rs))) := by
  have l1 : lcL [4] g1 tYesD l__law_some_1 [.d (.int (m : Int)), .d (.lst (rs.map ruleD)), .d (.lst (ps.map ruleD)), .d (.str z), .un] (ps.map ruleD) = .ok (ps.map fun r => .bl (hB c s p (2 ^ 2 ^ m) rs r)) := lcL_map ruleD _ ps fun r hr => by
    have e := m_lholds (rs := rs) M hm r (hp r hr)
    unfold l__law_some_1
    simp [e]
  have ll : ps.length ≤ lim := Nat.le_trans hl (by decide)
  unfold m__law_some mOf g__law_some
  simp [l1, okLen_le, ll, bAny_map]
theorem m_lstat (M : Man z c s p) (hm : m ≤ 4) (ys nn : List Rul) (ly : ys.length ≤ 8) (ln : nn.length ≤ 8) (hn : ∀ r ∈ nn, r.1 < 2 ^ 2 ^ m) (pr : Rul) (hf : pr.1 < 2 ^ 2 ^ m) :
    m__law_status [.int (m : Int), .lst (ys.map ruleD), .lst (nn.map ruleD), ruleD pr, .str z] = .ok (.str (statS c s p (2 ^ 2 ^ m) ys nn pr)) := by
  have e1 := m_lholds (rs := ys) M hm pr hf
  have e2 := m_lsome (rs := ys ++ [pr]) M hm nn hn (by omega)
  have ct : dCatL (.lst (ys.map ruleD)) (.lst [ruleD pr]) = .ok ((ys ++ [pr]).map ruleD) := by
    show (if (ys.map ruleD).length + [ruleD pr].length ≤ lim then Res.ok (ys.map ruleD ++ [ruleD pr]) else .st) = _
    rw [List.length_map, if_pos (by show ys.length + 1 ≤ lim; unfold lim; omega), List.map_append]
    rfl
  unfold m__law_status mOf g__law_status statS
  cases h1 : hB c s p (2 ^ 2 ^ m) ys pr with
  | true =>
    rw [h1] at e1
    simp [e1]
  | false =>
    rw [h1] at e1
    cases h2 : nn.any (hB c s p (2 ^ 2 ^ m) (ys ++ [pr])) with
    | true =>
      rw [h2] at e2
      simp [-List.map_append, e1, ct, e2]
    | false =>
      rw [h2] at e2
      simp [-List.map_append, e1, ct, e2]
end
end K97
set_option Elab.async false
set_option linter.all false
set_option maxRecDepth 100000
set_option maxHeartbeats 400000
namespace K97
open PySem PySem.Spec PyProof.Rows L2 DL Cb Du
/-! ### the manners that fit; least drops -/
def mans : List (Str × Bool × Bool × Bool) := [("once", false, false, false), ("cases", true, false, false), ("steps", false, true, false), ("both", true, true, false), ("once+", false, false, true), ("cases+", true, false, true), ("steps+", false, true, true), ("both+", true, true, true)]
theorem mans_man : ∀ x ∈ mans, Man x.1 x.2.1 x.2.2.1 x.2.2.2 := fun x hx => by
  unfold mans at hx
  simp only [List.mem_cons, List.not_mem_nil, or_false] at hx
  rcases hx with rfl | rfl | rfl | rfl | rfl | rfl | rfl | rfl
  · exact man1
  · exact man2
  · exact man3
  · exact man4
  · exact man5
  · exact man6
  · exact man7
  · exact man8
def manD (x : Str × Bool × Bool × Bool) : D := .str x.1
theorem k_mans : k_MANNERS = mans.map manD := rfl
def fitB (T : Nat) (ys nn : List Rul) (x : Str × Bool × Bool × Bool) : Bool := !(nn.any (hB x.2.1 x.2.2.1 x.2.2.2 T ys))
section
variable {z : Str} {c s p : Bool} {m : Nat} {rs : List Rul}
theorem first_none (M : Man z c s p) (hm : m ≤ 4) (ps : List Rul) (hp : ∀ r ∈ ps, r.1 < 2 ^ 2 ^ m) (SQ : D) (he : bEnumA [SQ] = .ok (enumD 0 (ps.map ruleD))) :
    ∃ d, m_first_due [bookD m rs, SQ, .str z] = .ok d ∧ dIsN d .non = .ok (.bl (!(ps.any (hB c s p (2 ^ 2 ^ m) rs)))) := by
  have h := m_first (rs := rs) M hm ps hp SQ he
  cases ha : ps.any (hB c s p (2 ^ 2 ^ m) rs) with
  | true =>
    obtain ⟨k, e⟩ := h.1 ha
    exact ⟨_, e, rfl⟩
  | false => exact ⟨_, h.2 ha, rfl⟩
theorem m_fitm (m0 : 1 ≤ m) (hm : m ≤ 4) (ys nn : List Rul) (ly : ys.length ≤ 8) (hr : ∀ r ∈ ys, r.1 < 2 ^ 2 ^ m ∧ r.2 < 2 ^ 2 ^ m) (hn : ∀ r ∈ nn, r.1 < 2 ^ 2 ^ m) :
    m_fitting_manners [seenD m ys nn] = .ok (.tup ((mans.filter (fitB (2 ^ 2 ^ m) ys nn)).map manD)) := by
  have eb := book_of_yes m0 hm ys (by omega) hr
  have l1 : ∀ ft : DEnv → Res Bool, (∀ x, x ∈ mans → ft [.d (seenD m ys nn), .d (bookD m ys), .d (manD x)] = .ok (fitB (2 ^ 2 ^ m) ys nn x)) → lcL [2] g1 ft l_fitting_manners_1 [.d (seenD m ys nn), .d (bookD m ys), .un] (mans.map manD) = .ok ((mans.filter (fitB (2 ^ 2 ^ m) ys nn)).map manD) := fun ft q => lcL_filter manD _ manD _ fun x hx => ⟨q x hx, fun _ => by
    unfold l_fitting_manners_1
    simp⟩
  have l2 := l1 (eB (e2 dIsN (eL (callN 3 m_first_due) (eCons (eVar 1) (eCons (e1 (dFld ["Seen"] "no") (eVar 0)) (eCons (eVar 2) eNil)))) (eC .non))) fun x hx => by
    obtain ⟨d, d1, d2⟩ := first_none (rs := ys) (mans_man x hx) hm nn hn (.tup (nn.map ruleD)) rfl
    have d1 : m_first_due [bookD m ys, .tup (nn.map ruleD), manD x] = .ok d := d1
    unfold fitB
    simp [-List.any_eq_false, -List.any_eq_true, sf_no, d1, d2]
  have ll : (mans.filter (fitB (2 ^ 2 ^ m) ys nn)).length ≤ lim := Nat.le_trans (List.length_filter_le _ _) (by decide)
  unfold m_fitting_manners mOf g_fitting_manners
  rw [k_mans]
  simp [-mkD2, sf_n, sf_yes, eb, l2, okLen_le, ll]
/-- what is left of the first k verdicts, of those from k on -/
def keptY (vs : List Rul) (k mk : Nat) : List Rul := ((sel vs.length mk).filter fun j => decide (j < k)).map fun j => vs.getD j (0, 0)
def keptN (vs : List Rul) (k mk : Nat) : List Rul := ((sel vs.length mk).filter fun j => decide (k ≤ j)).map fun j => vs.getD j (0, 0)
def dropB (c s p : Bool) (T : Nat) (vs : List Rul) (k mk : Nat) : Bool := !((keptN vs k (2 ^ vs.length - 1 - mk)).any (hB c s p T (keptY vs k (2 ^ vs.length - 1 - mk))))
theorem getD_mem {vs : List Rul} {j : Nat} (h : j < vs.length) : vs.getD j (0, 0) ∈ vs := by
  rw [List.getD, List.getElem?_eq_getElem h]
  exact List.getElem_mem h
theorem kept_sub {vs : List Rul} {P : Nat → Bool} {mk : Nat} : ∀ r ∈ ((sel vs.length mk).filter P).map (fun j => vs.getD j (0, 0)), r ∈ vs := fun r hr => by
  obtain ⟨j, hj, rfl⟩ := List.mem_map.mp hr
  exact getD_mem (List.mem_range.mp (List.mem_filter.mp (List.mem_filter.mp hj).1).1)
theorem drops_turn (M : Man z c s p) (m0 : 1 ≤ m) (hm : m ≤ 4) (ys nn : List Rul) (lv : (ys ++ nn).length ≤ 7) (hr : ∀ r ∈ ys ++ nn, r.1 < 2 ^ 2 ^ m ∧ r.2 < 2 ^ 2 ^ m) (ks : List Nat) (hk : ks.length ≤ 1000) (mk : Nat) (hmk : mk < 2 ^ (ys ++ nn).length) (s5 s6 s7 s8 : DL.Slot) :
    ∃ s5' s6' s7', b_least_drops_1 [.d (seenD m ys nn), .d (.str z), .d (.tup ((ys ++ nn).map ruleD)), .own false (ks.map (selD (ys ++ nn).length)), .d (selD (ys ++ nn).length mk), s5, s6, s7, s8] =
      .nx [.d (seenD m ys nn), .d (.str z), .d (.tup ((ys ++ nn).map ruleD)), .own false ((if dropB c s p (2 ^ 2 ^ m) (ys ++ nn) ys.length mk = true then ks ++ [mk] else ks).map (selD (ys ++ nn).length)), .d (selD (ys ++ nn).length mk), s5', s6', s7', s8] := by
  obtain ⟨vs, hvs⟩ : ∃ vs, vs = ys ++ nn := ⟨_, rfl⟩
  rw [← hvs] at lv hr hmk ⊢
  have q1 := m_rest_ vs.length mk lv hmk
  unfold dropB
  generalize 2 ^ vs.length - 1 - mk = Z at q1 ⊢
  have it : items (selD vs.length Z) = .ok ((sel vs.length Z).map nD) := rfl
  have at_ : ∀ j ∈ sel vs.length Z, L2.atI (vs.map ruleD) (j : Int) = some (ruleD (vs.getD j (0, 0))) := fun j hj => by
    have hj : j < vs.length := List.mem_range.mp (List.mem_filter.mp hj).1
    exact atI_at (by rw [List.getElem?_map, List.getElem?_eq_getElem hj]; simp [List.getD, List.getElem?_eq_getElem hj])
  have l1 : lcL [8] g1 (eB (e2 dLt (eVar 8) (eL bLen (eCons (e1 (dFld ["Seen"] "yes") (eVar 0)) eNil)))) l_least_drops_1 [.d (seenD m ys nn), .d (.str z), .d (.tup (vs.map ruleD)), .own false (ks.map (selD vs.length)), .d (selD vs.length mk), .d (selD vs.length Z), s6, s7, s8] ((sel vs.length Z).map nD) = .ok ((keptY vs ys.length Z).map ruleD) := by
    unfold keptY
    rw [List.map_map]
    refine lcL_filter nD (fun j => decide (j < ys.length)) (fun j => ruleD (vs.getD j (0, 0))) _ fun j hj => ⟨?_, fun _ => ?_⟩
    · unfold nD
      simp [sf_yes, bLen_tup]
    · have := at_ j hj
      unfold l_least_drops_1 nD
      simp [this]
  have l2 : ∀ s6, lcL [8] g1 (eB (e2 dGe (eVar 8) (eL bLen (eCons (e1 (dFld ["Seen"] "yes") (eVar 0)) eNil)))) l_least_drops_2 [.d (seenD m ys nn), .d (.str z), .d (.tup (vs.map ruleD)), .own false (ks.map (selD vs.length)), .d (selD vs.length mk), .d (selD vs.length Z), s6, s7, s8] ((sel vs.length Z).map nD) = .ok ((keptN vs ys.length Z).map ruleD) := fun s6 => by
    unfold keptN
    rw [List.map_map]
    refine lcL_filter nD (fun j => decide (ys.length ≤ j)) (fun j => ruleD (vs.getD j (0, 0))) _ fun j hj => ⟨?_, fun _ => ?_⟩
    · unfold nD
      simp [sf_yes, bLen_tup]
    · have := at_ j hj
      unfold l_least_drops_2 nD
      simp [this]
  have sl : (sel vs.length Z).length ≤ 7 := Nat.le_trans (List.length_filter_le _ _) (by rw [List.length_range]; exact lv)
  have ly : (keptY vs ys.length Z).length ≤ 7 := by
    unfold keptY
    rw [List.length_map]
    exact Nat.le_trans (List.length_filter_le _ _) sl
  have ln : (keptN vs ys.length Z).length ≤ 7 := by
    unfold keptN
    rw [List.length_map]
    exact Nat.le_trans (List.length_filter_le _ _) sl
  have okY : (keptY vs ys.length Z).length ≤ lim := Nat.le_trans ly (by decide)
  have okN : (keptN vs ys.length Z).length ≤ lim := Nat.le_trans ln (by decide)
  have bY : ∀ r ∈ keptY vs ys.length Z, r.1 < 2 ^ 2 ^ m ∧ r.2 < 2 ^ 2 ^ m := fun r h => hr r (kept_sub r h)
  have bN : ∀ r ∈ keptN vs ys.length Z, r.1 < 2 ^ 2 ^ m := fun r h => (hr r (kept_sub r h)).1
  have eb : mkD "Book" 3 m_Book_init [.int (m : Int), .lst ((keptY vs ys.length Z).map ruleD)] = .ok (bookD m (keptY vs ys.length Z)) := by
    simp [m_book m m0 hm _ (by omega) bY]
    rfl
  obtain ⟨d, d1, d2⟩ := first_none (rs := keptY vs ys.length Z) M hm (keptN vs ys.length Z) bN (.lst ((keptN vs ys.length Z).map ruleD)) rfl
  have kl : ks.length < lim := lim_lt (by omega)
  have nl : (selD vs.length mk).nlx false = true := by
    unfold selD
    simp
    have : ∀ l : List Nat, nlxs false (l.map nD) = true := by
      intro l
      induction l with
      | nil => rfl
      | cons x l ih => exact ih
    exact this _
  generalize hB c s p (2 ^ 2 ^ m) (keptY vs ys.length Z) = HB at d2 ⊢
  refine ⟨.d (selD vs.length Z), .d (bookD m (keptY vs ys.length Z)), .d (.lst ((keptN vs ys.length Z).map ruleD)), ?_⟩
  unfold b_least_drops_1
  cases hA : (keptN vs ys.length Z).any HB <;> rw [hA] at d2 <;> simp [-mkD2, -List.any_eq_false, -List.any_eq_true, bLen_tup, q1, it, sf_n, l1, l2, okLen_le, okY, okN, eb, d1, d2, kl, nl]
theorem minl_zero {ms : List Nat} (h : 0 ∈ ms) (m : Nat) : m ∈ minl ms ↔ m ∈ [0] := by
  rw [mem_minl, List.mem_singleton]
  constructor
  · rintro ⟨_, h2⟩
    exact (h2 0 h (wnB_zero m)).symm
  · rintro rfl
    exact ⟨h, fun x _ hx => by have := wnB_le hx; omega⟩
theorem m_drops (M : Man z c s p) (m0 : 1 ≤ m) (hm : m ≤ 4) (ys nn : List Rul) (lv : (ys ++ nn).length ≤ 7) (hr : ∀ r ∈ ys ++ nn, r.1 < 2 ^ 2 ^ m ∧ r.2 < 2 ^ 2 ^ m) (h : nn.any (hB c s p (2 ^ 2 ^ m) ys) = false) :
    m_least_drops [seenD m ys nn, .str z] = .ok (.lst [.tup []]) := by
  have lvv : ys.length + nn.length ≤ 7 := by rw [List.length_append] at lv; exact lv
  have ad : dAdd (.tup (ys.map ruleD)) (.tup (nn.map ruleD)) = .ok (.tup ((ys ++ nn).map ruleD)) := by
    show (if (ys.map ruleD).length + (nn.map ruleD).length ≤ lim then Res.ok (D.tup (ys.map ruleD ++ nn.map ruleD)) else .st) = _
    rw [List.length_map, List.length_map, if_pos (by unfold lim; omega), List.map_append]
  have O := ord_ok lv
  have es := m_selections_ (ys ++ nn).length lv
  have ol : (ord (ys ++ nn).length).length ≤ 128 := small_set lv O.nodup fun m hm => (O.mem m).mp hm
  obtain ⟨ρ', h1, s4, s5, s6, s7, h2⟩ := forL_fm (sl := [4]) (g := g1) (fb := b_least_drops_1) (selD (ys ++ nn).length) (dropB c s p (2 ^ 2 ^ m) (ys ++ nn) ys.length) id 200 (fun ks ρ => ∃ s4 s5 s6 s7, ρ = [.d (seenD m ys nn), .d (.str z), .d (.tup ((ys ++ nn).map ruleD)), .own false (ks.map (selD (ys ++ nn).length)), s4, s5, s6, s7, .un])
    (ord (ys ++ nn).length) [] [.d (seenD m ys nn), .d (.str z), .d (.tup ((ys ++ nn).map ruleD)), .own false [], .un, .un, .un, .un, .un] ⟨_, _, _, _, rfl⟩ (by simp; rw [List.length_append] at ol; omega) fun ks mk ρ hmk kl ⟨s4, s5, s6, s7, e⟩ => by
    subst e
    obtain ⟨s5', s6', s7', q⟩ := drops_turn M m0 hm ys nn lv hr ks (by omega) mk ((O.mem mk).mp hmk) s5 s6 s7 .un
    exact ⟨[selD (ys ++ nn).length mk], _, rfl, .inl q, _, _, _, _, rfl⟩
  rw [List.nil_append, List.map_id] at h2
  subst h2
  -- nothing dropped fits
  have z0 : dropB c s p (2 ^ 2 ^ m) (ys ++ nn) ys.length 0 = true := by
    have full : sel (ys ++ nn).length (2 ^ (ys ++ nn).length - 1 - 0) = List.range (ys ++ nn).length := by
      unfold sel
      rw [Nat.sub_zero]
      exact List.filter_eq_self.mpr fun k hk => by rw [Nat.testBit_two_pow_sub_one, decide_eq_true (List.mem_range.mp hk)]
    have kY : ∀ r, r ∈ keptY (ys ++ nn) ys.length (2 ^ (ys ++ nn).length - 1 - 0) ↔ r ∈ ys := fun r => by
      unfold keptY
      rw [full]
      simp only [List.mem_map, List.mem_filter, List.mem_range, decide_eq_true_eq, List.length_append]
      constructor
      · rintro ⟨j, ⟨_, hj⟩, rfl⟩
        rw [List.getD, List.getElem?_append_left hj, List.getElem?_eq_getElem hj]
        exact List.getElem_mem hj
      · intro hr
        obtain ⟨j, hj, rfl⟩ := List.getElem_of_mem hr
        exact ⟨j, ⟨by omega, hj⟩, by rw [List.getD, List.getElem?_append_left hj, List.getElem?_eq_getElem hj]; rfl⟩
    have kN : ∀ r, r ∈ keptN (ys ++ nn) ys.length (2 ^ (ys ++ nn).length - 1 - 0) → r ∈ nn := fun r => by
      unfold keptN
      rw [full]
      simp only [List.mem_map, List.mem_filter, List.mem_range, decide_eq_true_eq, List.length_append]
      rintro ⟨j, ⟨hj, hj2⟩, rfl⟩
      have h3 : j - ys.length < nn.length := by omega
      rw [List.getD, List.getElem?_append_right hj2, List.getElem?_eq_getElem h3]
      exact List.getElem_mem h3
    unfold dropB
    rw [Bool.not_eq_true', List.any_eq_false]
    intro r hr1 hh
    rw [List.any_eq_false] at h
    refine h r (kN r hr1) ?_
    have he : 2 ^ m ≤ 16 := Nat.pow_le_pow_right (show 0 < 2 by decide) hm
    have T6 : 2 ^ 2 ^ m ≤ 65536 := T_le he
    have rb := (hr r (List.mem_append_right _ (kN r hr1))).1
    unfold hB at hh ⊢
    exact wnB_trans (due_anti he (fun x hx => ⟨(kY x).mp hx, by have := (hr x (List.mem_append_left _ ((kY x).mp hx))).1; omega⟩) (by omega)) hh
  have mem0 : (0 : Nat) ∈ (ord (ys ++ nn).length).filter (dropB c s p (2 ^ 2 ^ m) (ys ++ nn) ys.length) := List.mem_filter.mpr ⟨(O.mem 0).mpr (Nat.two_pow_pos _), z0⟩
  have fb : ∀ x ∈ (ord (ys ++ nn).length).filter (dropB c s p (2 ^ 2 ^ m) (ys ++ nn) ys.length), x < 2 ^ (ys ++ nn).length := fun x hx => (O.mem x).mp (List.mem_filter.mp hx).1
  have e9 := m_least_ (ys ++ nn).length lv _ fb (Nat.le_trans (List.length_filter_le _ _) (by omega))
  rw [can_congr (minl_zero mem0)] at e9
  have c0 : (can (ys ++ nn).length [0]).map (selD (ys ++ nn).length) = [.tup []] := by
    have : ∀ c, c < 8 → samesB ((can c [0]).map (selD c)) [.tup []] = true := by decide +kernel
    exact samesB_eq _ _ (this _ (by omega))
  rw [c0] at e9
  have bl : bLen [.tup ((ys ++ nn).map ruleD)] = .ok (.int ((ys ++ nn).length : Nat)) := by rw [bLen_tup, List.length_map]
  unfold m_least_drops mOf g_least_drops
  simp [-List.map_append, -List.length_append, sf_yes, sf_no, ad, bl, es, h1, e9]
end
end K97
set_option Elab.async false
set_option linter.all false
set_option maxRecDepth 100000
set_option maxHeartbeats 400000
namespace K97
open PySem PySem.Spec PyProof.Rows L2 DL Cb Du
/-! ### tables -/
def rowL (T X : Nat) : List Nat := (List.range T).filter (wnB X)
def rowN (T X : Nat) : Nat := ((rowL T X).map fun c => 2 ^ c).sum
def rowOk (T X : Nat) : Bool := isOk (bSum [.lst ((rowL T X).map fun c => .int ((2 ^ c : Nat) : Int))]) (.int (rowN T X : Nat)) && decide (rowN T X < 2 ^ T) && ((List.range T).all fun c => (rowN T X).testBit c == wnB X c) && ((rowL T X).foldl (fun a c => a &&& c) (T - 1) == X)
theorem rows_ok : (([4, 16] : List Nat).all fun T => (List.range T).all (rowOk T)) = true := by decide +kernel
theorem T_is {m : Nat} (m0 : 1 ≤ m) (hm : m ≤ 2) : 2 ^ 2 ^ m = 4 ∨ 2 ^ 2 ^ m = 16 := by
  have : m = 1 ∨ m = 2 := by omega
  rcases this with rfl | rfl
  · exact .inl rfl
  · exact .inr rfl
theorem row_ok {T X : Nat} (hT : T = 4 ∨ T = 16) (h : X < T) : bSum [.lst ((rowL T X).map fun c => .int ((2 ^ c : Nat) : Int))] = .ok (.int (rowN T X : Nat)) ∧ rowN T X < 2 ^ T ∧ (∀ c, c < T → (rowN T X).testBit c = wnB X c) ∧ (rowL T X).foldl (fun a c => a &&& c) (T - 1) = X := by
  have := List.all_eq_true.mp rows_ok T (by rcases hT with rfl | rfl <;> simp)
  have := List.all_eq_true.mp this X (List.mem_range.mpr h)
  unfold rowOk at this
  simp only [Bool.and_eq_true, decide_eq_true_eq, beq_iff_eq, List.all_eq_true, List.mem_range] at this
  exact ⟨isOk_eq this.1.1.1, this.1.1.2, this.1.2, this.2⟩
def tabD (m : Nat) (E : Nat → Nat) : D := .obj "Table" ["n", "rows"] [.int (m : Int), .tup ((List.range (2 ^ 2 ^ m)).map fun f => nD (rowN (2 ^ 2 ^ m) (E f)))]
section
variable {m : Nat} {E : Nat → Nat}
theorem tf_n : dFld ["Book", "Seen", "Table"] "n" (tabD m E) = .ok (.int (m : Int)) := rfl
theorem tf_rows : dFld ["Table"] "rows" (tabD m E) = .ok (.tup ((List.range (2 ^ 2 ^ m)).map fun f => nD (rowN (2 ^ 2 ^ m) (E f)))) := rfl
theorem m_con (m0 : 1 ≤ m) (hm : m ≤ 2) (hE : ∀ f, f < 2 ^ 2 ^ m → E f < 2 ^ 2 ^ m) (f q : Nat) (hf : f < 2 ^ 2 ^ m) (hq : q < 2 ^ 2 ^ m) : m_Table___contains__ [tabD m E, .tup [.int (f : Int), .int (q : Int)]] = .ok (.bl (wnB (E f) q)) := by
  have R := row_ok (T_is m0 hm) (hE f hf)
  have r0 := tf_rows (m := m) (E := E)
  have at_ : L2.atI ((List.range (2 ^ 2 ^ m)).map fun f => nD (rowN (2 ^ 2 ^ m) (E f))) (f : Int) = some (nD (rowN (2 ^ 2 ^ m) (E f))) := atI_at (by rw [List.getElem?_map, List.getElem?_range hf]; rfl)
  generalize (List.range (2 ^ 2 ^ m)).map (fun f => nD (rowN (2 ^ 2 ^ m) (E f))) = RS at r0 at_
  obtain ⟨N, hN⟩ : ∃ N, rowN (2 ^ 2 ^ m) (E f) = N := ⟨_, rfl⟩
  rw [hN] at at_ R
  obtain ⟨k, hk⟩ : ∃ k, N / 2 ^ q = k := ⟨_, rfl⟩
  obtain ⟨r, hr⟩ : ∃ r, k &&& 1 = r := ⟨_, rfl⟩
  have a1 : dShr (.int (N : Int)) (.int (q : Int)) = .ok (.int (k : Int)) := hk ▸ dShr_nn N q
  have a2 : dAnd (.int (k : Int)) (.int 1) = .ok (.int (r : Int)) := hr ▸ dAnd_nn k 1
  have a3 : dEq (.int (r : Int)) (.int 1) = .ok (.bl (wnB (E f) q)) := by
    rw [← R.2.2.1 q hq, ← hr, ← hk]
    refine (dEq_nn _ 1).trans ?_
    congr 2
    rw [Bool.eq_iff_iff, decide_eq_true_eq, bit0, Nat.testBit_div_two_pow, Nat.zero_add]
  unfold m_Table___contains__ mOf g_Table___contains__
  unfold nD at at_
  generalize tabD m E = TB at r0
  simp [-dI2c_ap, -dI2_ap, r0, at_, a1, a2, a3]
theorem tin (m0 : 1 ≤ m) (hm : m ≤ 2) (hE : ∀ f, f < 2 ^ 2 ^ m → E f < 2 ^ 2 ^ m) (f q : Nat) (hf : f < 2 ^ 2 ^ m) (hq : q < 2 ^ 2 ^ m) (neg : Bool) : dInO "Table" m_Table___contains__ neg (.tup [.int (f : Int), .int (q : Int)]) (tabD m E) = .ok (.bl (wnB (E f) q != neg)) := by
  unfold dInO
  rw [show isM "Table" "" (tabD m E) = true from rfl, if_pos rfl, m_con m0 hm hE f q hf hq]
theorem rowL_lt {T X : Nat} : ∀ c ∈ rowL T X, c < T := fun c h => List.mem_range.mp (List.mem_filter.mp h).1
theorem rowL_len {T X : Nat} (h : T = 4 ∨ T = 16) : (rowL T X).length ≤ 16 := Nat.le_trans (List.length_filter_le _ _) (by rw [List.length_range]; omega)
theorem m_claims (m0 : 1 ≤ m) (hm : m ≤ 2) (hE : ∀ f, f < 2 ^ 2 ^ m → E f < 2 ^ 2 ^ m) (f : Nat) (hf : f < 2 ^ 2 ^ m) : m_claims_of [tabD m E, .int (f : Int)] = .ok (.lst ((rowL (2 ^ 2 ^ m) (E f)).map nD)) := by
  have l1 : lcL [2] g1 (eB (e2 (dInO "Table" m_Table___contains__ false) (eTup (eCons (eVar 1) (eCons (eVar 2) eNil))) (eVar 0))) l_claims_of_1 [.d (tabD m E), .d (.int (f : Int)), .un] ((List.range (2 ^ 2 ^ m)).map nD) = .ok ((rowL (2 ^ 2 ^ m) (E f)).map nD) := lcL_filter nD (wnB (E f)) nD _ fun q hq => by
    have e := tin m0 hm hE f q hf (List.mem_range.mp hq) false
    refine ⟨?_, fun _ => rfl⟩
    generalize tabD m E = TB at e ⊢
    unfold nD
    simp [e]
  have hT := T_is m0 hm
  have r0 := tf_rows (m := m) (E := E)
  have b0 : bLen [.tup ((List.range (2 ^ 2 ^ m)).map fun f => nD (rowN (2 ^ 2 ^ m) (E f)))] = .ok (.int (2 ^ 2 ^ m : Nat)) := by rw [bLen_tup, List.length_map, List.length_range]
  have er : rng1 [.int (2 ^ 2 ^ m : Nat)] = .ok ((List.range (2 ^ 2 ^ m)).map nD) := by rw [rng1_n _ (by omega), rangeD_nat]
  have ll : (rowL (2 ^ 2 ^ m) (E f)).length ≤ lim := Nat.le_trans (rowL_len hT) (by decide)
  generalize (List.range (2 ^ 2 ^ m)).map (fun f => nD (rowN (2 ^ 2 ^ m) (E f))) = RS at r0 b0
  generalize tabD m E = TB at r0 l1 ⊢
  generalize 2 ^ 2 ^ m = T at *
  unfold m_claims_of mOf g_claims_of
  simp [-dI2c_ap, r0, b0, er, l1, okLen_le, ll]
theorem top_of (m0 : 1 ≤ m) (hm : m ≤ 2) : m_everything [.int (m : Int)] = .ok (.int ((2 ^ 2 ^ m - 1 : Nat) : Int)) ∧ rng1 [.int (((2 ^ 2 ^ m - 1 : Nat) : Int) + 1)] = .ok ((List.range (2 ^ 2 ^ m)).map nD) := by
  have hT := T_is m0 hm
  refine ⟨m_every m (by omega), ?_⟩
  rw [show (((2 ^ 2 ^ m - 1 : Nat) : Int) + 1) = ((2 ^ 2 ^ m : Nat) : Int) by omega, rng1_n _ (by omega), rangeD_nat]
theorem m_meetof (m0 : 1 ≤ m) (hm : m ≤ 2) (hE : ∀ f, f < 2 ^ 2 ^ m → E f < 2 ^ 2 ^ m) (f : Nat) (hf : f < 2 ^ 2 ^ m) : m_meet_of [tabD m E, .int (f : Int)] = .ok (.int (E f : Nat)) := by
  have ec := m_claims m0 hm hE f hf
  have R := (row_ok (T_is m0 hm) (hE f hf)).2.2.2
  have r0 := tf_n (m := m) (E := E)
  have et := (top_of m0 hm).1
  generalize tabD m E = TB at r0 ec ⊢
  obtain ⟨ρ', h1, s3, h2⟩ := forL_of (sl := [3]) (g := g1) (fb := b_meet_of_1) nD (fun (M : Nat) ρ => ∃ s3, ρ = [.d TB, .d (.int (f : Int)), .d (.int (M : Int)), s3]) (fun a c => a &&& c) (rowL (2 ^ 2 ^ m) (E f)) (2 ^ 2 ^ m - 1) [.d TB, .d (.int (f : Int)), .d (.int ((2 ^ 2 ^ m - 1 : Nat) : Int)), .un] ⟨_, rfl⟩ fun M q ρ hq ⟨s3, e⟩ => by
    subst e
    have a1 := dAnd_nn M q
    refine ⟨[nD q], _, rfl, .inl (?_ : _ = SRes.nx [.d TB, .d (.int (f : Int)), .d (.int ((M &&& q : Nat) : Int)), .d (nD q)]), .d (nD q), rfl⟩
    unfold b_meet_of_1 nD
    simp [-dI2_ap, a1]
  rw [R] at h2
  subst h2
  unfold m_meet_of mOf g_meet_of
  simp [-dI2c_ap, -dI2_ap, r0, et, ec, h1]
theorem m_girow (m0 : 1 ≤ m) (hm : m ≤ 2) (hE : ∀ f, f < 2 ^ 2 ^ m → E f < 2 ^ 2 ^ m) (f : Nat) (hf : f < 2 ^ 2 ^ m) : m_gap_in_row [tabD m E, .int (f : Int)] = .ok .non := by
  have hT := T_is m0 hm
  have T0 : 0 < 2 ^ 2 ^ m := by omega
  have ec := m_claims m0 hm hE f hf
  have R := (row_ok hT (hE f hf)).2.2.2
  have r0 := tf_n (m := m) (E := E)
  have et := top_of m0 hm
  have ti := fun q hq => tin m0 hm hE f q hf hq true
  have top1 : wnB (E f) (2 ^ 2 ^ m - 1) = true := by
    unfold wnB
    rw [beq_iff_eq]
    exact and_zero_of (2 ^ m) (hE f hf)
  have i0 := ti (2 ^ 2 ^ m - 1) (by omega)
  rw [top1] at i0
  generalize tabD m E = TB at r0 ec ti i0 ⊢
  obtain ⟨ρ', h1, k1, k2, s4, h2⟩ := forL_of (sl := [4]) (g := g1) (fb := b_gap_in_row_1) nD (fun (M : Nat) ρ => M < 2 ^ 2 ^ m ∧ wnB (E f) M = true ∧ ∃ s4, ρ = [.d TB, .d (.int (f : Int)), .d (.int ((2 ^ 2 ^ m - 1 : Nat) : Int)), .d (.int (M : Int)), s4]) (fun a c => a &&& c) (rowL (2 ^ 2 ^ m) (E f)) (2 ^ 2 ^ m - 1) [.d TB, .d (.int (f : Int)), .d (.int ((2 ^ 2 ^ m - 1 : Nat) : Int)), .d (.int ((2 ^ 2 ^ m - 1 : Nat) : Int)), .un] ⟨by omega, top1, _, rfl⟩ fun M q ρ hq ⟨hM, wM, s4, e⟩ => by
    subst e
    have lt : M &&& q < 2 ^ 2 ^ m := Nat.lt_of_le_of_lt Nat.and_le_left hM
    have w : wnB (E f) (M &&& q) = true := wnB_and.mpr ⟨wM, (List.mem_filter.mp hq).2⟩
    have a1 := dAnd_nn M q
    have i1 := ti (M &&& q) lt
    rw [w] at i1
    generalize M &&& q = Z at *
    refine ⟨[nD q], _, rfl, .inl (?_ : _ = SRes.nx [.d TB, .d (.int (f : Int)), .d (.int ((2 ^ 2 ^ m - 1 : Nat) : Int)), .d (.int (Z : Nat)), .d (nD q)]), lt, w, .d (nD q), rfl⟩
    unfold b_gap_in_row_1 nD
    simp [-dI2_ap, a1, i1]
  rw [R] at h2 k2
  subst h2
  obtain ⟨ρ', h3, s4', h4⟩ := forL_of (sl := [4]) (g := g1) (fb := b_gap_in_row_2) nD (fun (_ : Unit) ρ => ∃ s4, ρ = [.d TB, .d (.int (f : Int)), .d (.int ((2 ^ 2 ^ m - 1 : Nat) : Int)), .d (.int (E f : Nat)), s4]) (fun a _ => a) (List.range (2 ^ 2 ^ m)) () [.d TB, .d (.int (f : Int)), .d (.int ((2 ^ 2 ^ m - 1 : Nat) : Int)), .d (.int (E f : Nat)), s4] ⟨_, rfl⟩ fun _ q ρ hq ⟨s4, e⟩ => by
    subst e
    have a1 := m_with (E f) q
    have i1 := ti q (List.mem_range.mp hq)
    generalize E f = X at a1 i1 ⊢
    refine ⟨[nD q], _, rfl, .inl (?_ : _ = SRes.nx [.d TB, .d (.int (f : Int)), .d (.int ((2 ^ 2 ^ m - 1 : Nat) : Int)), .d (.int (X : Nat)), .d (nD q)]), .d (nD q), rfl⟩
    unfold b_gap_in_row_2 nD
    cases hw : wnB X q <;> rw [hw] at a1 i1 <;> simp [a1, i1]
  subst h4
  unfold m_gap_in_row mOf g_gap_in_row
  simp [-dI2c_ap, -dI2_ap, r0, et.1, et.2, ec, i0, h1, h3]
/-- what makes a table closed -/
structure Clo (c s p : Bool) (T : Nat) (E : Nat → Nat) : Prop where
  le : ∀ f g, f < T → g < T → wnB g f = true → wnB (E g) (E f) = true
  sa : p = true → ∀ f, f < T → wnB (E f) f = true
  st : s = true → ∀ f, f < T → wnB (E f) (E (f &&& E f)) = true
  ca : c = true → ∀ f g, f < T → g < T → wnB (E (f ||| g)) (E f ||| E g) = true
theorem m_gafacts {z : Str} {c s p : Bool} (M : Man z c s p) (m0 : 1 ≤ m) (hm : m ≤ 2) (hE : ∀ f, f < 2 ^ 2 ^ m → E f < 2 ^ 2 ^ m) (C : Clo c s p (2 ^ 2 ^ m) E) (f : Nat) (hf : f < 2 ^ 2 ^ m) : m_gap_at_facts [.lst ((List.range (2 ^ 2 ^ m)).map fun f => nD (E f)), .int (f : Int), .str z] = .ok .non := by
  have at_ : ∀ g : Nat, g < 2 ^ 2 ^ m → L2.atI ((List.range (2 ^ 2 ^ m)).map fun f => nD (E f)) (g : Int) = some (.int (E g : Nat)) := fun g hg => atI_at (by rw [List.getElem?_map, List.getElem?_range hg]; rfl)
  have eb : bEnumA [.lst ((List.range (2 ^ 2 ^ m)).map fun f => nD (E f))] = .ok (enumD 0 ((List.range (2 ^ 2 ^ m)).map fun f => nD (E f))) := rfl
  have eg : ∀ i d, (enumD 0 ((List.range (2 ^ 2 ^ m)).map fun f => nD (E f)))[i]? = some d → i < 2 ^ 2 ^ m ∧ d = .tup [.int (i : Int), .int (E i : Nat)] := fun i d h => by
    rw [enumD_get, List.getElem?_map] at h
    rcases Nat.lt_or_ge i (2 ^ 2 ^ m) with hi | hi
    · rw [List.getElem?_range hi, Nat.zero_add] at h
      cases h
      exact ⟨hi, rfl⟩
    · rw [List.getElem?_eq_none (by rw [List.length_range]; exact hi)] at h
      cases h
  generalize (List.range (2 ^ 2 ^ m)).map (fun f => nD (E f)) = MS at *
  have ef := at_ f hf
  have g1_ := at_ (f &&& E f) (Nat.lt_of_le_of_lt Nat.and_le_left hf)
  obtain ⟨ρ', h1, s7, s8, h2⟩ := forL_ind (sl := ([7] ++ ([8] ++ []))) (g := (gT 2 (gC g1 (gC g1 gN)))) (fb := b_gap_at_facts_1) (fun _ ρ => ∃ s7 s8, ρ = [.d (.lst MS), .d (.int (f : Int)), .d (.str z), .d (.int (E f : Nat)), .d (.bl c), .d (.bl s), .d (.bl p), s7, s8])
    (enumD 0 MS) 0 [.d (.lst MS), .d (.int (f : Int)), .d (.str z), .d (.int (E f : Nat)), .d (.bl c), .d (.bl s), .d (.bl p), .un, .un] ⟨_, _, rfl⟩ fun i d ρ hd ⟨s7, s8, e⟩ => by
    subst e
    obtain ⟨hi, rfl⟩ := eg i d hd
    refine ⟨[.int (i : Int), .int (E i : Nat)], _, rfl, .inl (?_ : _ = SRes.nx [.d (.lst MS), .d (.int (f : Int)), .d (.str z), .d (.int (E f : Nat)), .d (.bl c), .d (.bl s), .d (.bl p), .d (.int (i : Int)), .d (.int (E i : Nat))]), _, _, rfl⟩
    have w1 := m_with i f
    have w2 := m_with (E i) (E f)
    have o1 := dOr_nn f i
    have o2 := dOr_nn (E f) (E i)
    have lt : f ||| i < 2 ^ 2 ^ m := Nat.or_lt_two_pow hf hi
    have ao := at_ _ lt
    have w3 := m_with (E (f ||| i)) (E f ||| E i)
    have c1 := C.le f i hf hi
    have c2 := fun h => C.ca h f i hf hi
    unfold b_gap_at_facts_1
    cases hw : wnB i f with
    | true =>
      rw [hw] at w1
      rw [c1 hw] at w2
      cases c with
      | false => simp [-dI2_ap, w1, w2]
      | true =>
        rw [c2 rfl] at w3
        simp [-dI2_ap, w1, w2, o1, o2, ao, w3]
    | false =>
      rw [hw] at w1
      cases c with
      | false => simp [-dI2_ap, w1]
      | true =>
        rw [c2 rfl] at w3
        simp [-dI2_ap, w1, o1, o2, ao, w3]
  subst h2
  have h1 : forL [7, 8] (gT 2 (gC g1 (gC g1 gN))) b_gap_at_facts_1 (enumD 0 MS) [.d (.lst MS), .d (.int (f : Int)), .d (.str z), .d (.int (E f : Nat)), .d (.bl c), .d (.bl s), .d (.bl p), .un, .un] = _ := h1
  have w1 := m_with (E f) f
  have w2 := m_with (E f) (E (f &&& E f))
  have a1 := dAnd_nn f (E f)
  have c1 := fun h => C.sa h f hf
  have c2 := fun h => C.st h f hf
  unfold m_gap_at_facts mOf g_gap_at_facts
  cases p with
  | false => cases s with
    | false => simp [-dI2_ap, M.sw, ef, eb, h1]
    | true =>
      rw [c2 rfl] at w2
      simp [-dI2_ap, M.sw, ef, eb, h1, a1, g1_, w2]
  | true =>
    rw [c1 rfl] at w1
    cases s with
    | false => simp [-dI2_ap, M.sw, ef, eb, h1, w1]
    | true =>
      rw [c2 rfl] at w2
      simp [-dI2_ap, M.sw, ef, eb, h1, a1, g1_, w2, w1]
end
end K97
set_option Elab.async false
set_option linter.all false
set_option maxRecDepth 100000
set_option maxHeartbeats 400000
namespace K97
open PySem PySem.Spec PyProof.Rows L2 DL Cb Du
/-! ### the table of a book, and a book of it -/
section
variable {z : Str} {c s p : Bool} {m : Nat} {rs : List Rul} {E : Nat → Nat}
theorem tab_turn (a0 a1 a2 a3 : DL.Slot) (T i r : Nat) (hi : i < T) (hr : r < 2 ^ T) (hT : T ≤ 16) : b_Table_init_1 [a0, a1, a2, .d (.int (T : Int)), .d (.int (i : Int)), .d (.int (r : Int))] = .nx [a0, a1, a2, .d (.int (T : Int)), .d (.int (i : Int)), .d (.int (r : Int))] := by
  have g1_ : dGe (.int (i : Int)) (.int (T : Int)) = .ok (.bl false) := by
    show Res.ok (D.bl (decide ((T : Int) ≤ i))) = _
    rw [decide_eq_false (by omega)]
  have g2_ : dLe (.int 0) (.int (r : Int)) = .ok (.bl true) := by
    show Res.ok (D.bl (decide ((0 : Int) ≤ r))) = _
    rw [decide_eq_true (by omega)]
  have g3_ : dShl (.int 1) (.int (T : Int)) = .ok (.int ((2 ^ T : Nat) : Int)) := dShl_1 (by omega)
  have g4_ : dLt (.int (r : Int)) (.int ((2 ^ T : Nat) : Int)) = .ok (.bl true) := by
    show Res.ok (D.bl (decide ((r : Int) < ((2 ^ T : Nat) : Int)))) = _
    rw [decide_eq_true (Int.ofNat_lt.mpr hr)]
  unfold b_Table_init_1
  generalize 2 ^ T = TT at *
  simp [-dI2c_ap, -dI2_ap, -dI2b_ap, g1_, g2_, g3_, g4_]
theorem nlx_nats (b : Bool) : ∀ xs : List Nat, nlxs b (xs.map nD) = true
  | [] => rfl
  | _ :: l => nlx_nats b l
theorem m_tabini (m0 : 1 ≤ m) (hm : m ≤ 2) (xs : List Nat) (hl : xs.length = 2 ^ 2 ^ m) (hx : ∀ x ∈ xs, x < 2 ^ 2 ^ 2 ^ m) : m_Table_init [.int (m : Int), .lst (xs.map nD)] = .ok (["n", "rows"], [.int (m : Int), .tup (xs.map nD)]) := by
  have hT := T_is m0 hm
  have et := (top_of m0 hm).1
  obtain ⟨T, hTT⟩ : ∃ T, 2 ^ 2 ^ m = T := ⟨_, rfl⟩
  rw [hTT] at hT et hl hx
  have T16 : T ≤ 16 := by omega
  let sf : DL.Slot := .obo true "Table" [] []
  obtain ⟨ρ', h1, s4, s5, h2⟩ := forL_ind (sl := ([4] ++ ([5] ++ []))) (g := (gT 2 (gC g1 (gC g1 gN)))) (fb := b_Table_init_1) (fun _ ρ => ∃ s4 s5, ρ = [sf, .d (.int (m : Int)), .d (.lst (xs.map nD)), .d (.int (T : Int)), s4, s5])
    (enumD 0 (xs.map nD)) 0 [sf, .d (.int (m : Int)), .d (.lst (xs.map nD)), .d (.int (T : Int)), .un, .un] ⟨_, _, rfl⟩ fun i d ρ hd ⟨s4, s5, e⟩ => by
    subst e
    rw [enumD_get, List.getElem?_map] at hd
    cases hxi : xs[i]? with
    | none => rw [hxi] at hd; cases hd
    | some r =>
      rw [hxi, Nat.zero_add] at hd
      cases hd
      have hi : i < xs.length := (List.getElem?_eq_some_iff.mp hxi).1
      exact ⟨[.int (i : Int), .int (r : Int)], _, rfl, .inl (tab_turn _ _ _ s4 T i r (by omega) (hx r (List.mem_of_getElem? hxi)) T16), _, _, rfl⟩
  subst h2
  have h1 : forL [4, 5] (gT 2 (gC g1 (gC g1 gN))) b_Table_init_1 (enumD 0 (xs.map nD)) [Slot.obo true "Table" [] [], .d (.int (m : Int)), .d (.lst (xs.map nD)), .d (.int (T : Int)), .un, .un] = .nx [Slot.obo true "Table" [] [], .d (.int (m : Int)), .d (.lst (xs.map nD)), .d (.int (T : Int)), s4, s5] := h1
  have eb : bEnumA [.lst (xs.map nD)] = .ok (enumD 0 (xs.map nD)) := rfl
  have c1 : (1 : Int) ≤ m := by omega
  have c2 : (m : Int) ≤ 2 := by omega
  have ad : dAdd (.int ((T - 1 : Nat) : Int)) (.int 1) = .ok (.int (T : Int)) := by
    show Res.ok (D.int (((T - 1 : Nat) : Int) + 1)) = _
    rw [show (((T - 1 : Nat) : Int) + 1) = (T : Int) by omega]
  have bl : bLen [.lst (xs.map nD)] = .ok (.int (T : Int)) := by
    show Res.ok (D.int (((xs.map nD).length : Nat) : Int)) = _
    rw [List.length_map, hl]
  have gl : dLt (.int (T : Int)) (.int (T : Int)) = .ok (.bl false) := by
    show Res.ok (D.bl (decide ((T : Int) < T))) = _
    rw [decide_eq_false (by omega)]
  have nl : nlxs true (xs.map nD) = true := nlx_nats true xs
  have nl2 : nlxs false (xs.map nD) = true := nlx_nats false xs
  have p1 : putN "n" [] = [Str.ofString "n"] := rfl
  have p2 : putN "rows" [Str.ofString "n"] = [Str.ofString "n", Str.ofString "rows"] := rfl
  have p3 : ∀ x, putD "n" x [] [] = [x] := fun _ => rfl
  have p4 : ∀ x y, putD "rows" x ["n"] [y] = [y, x] := fun _ _ => rfl
  have p5 : List.contains [Str.ofString "Table"] (Str.ofString "Table") = true := rfl
  have l1 : dLe (.int 1) (.int (m : Int)) = .ok (.bl true) := by
    show Res.ok (D.bl (decide ((1 : Int) ≤ m))) = _
    rw [decide_eq_true c1]
  have l2 : dLe (.int (m : Int)) (.int 2) = .ok (.bl true) := by
    show Res.ok (D.bl (decide ((m : Int) ≤ 2))) = _
    rw [decide_eq_true c2]
  unfold m_Table_init mI g_Table_init
  generalize xs.map nD = XS at *
  simp [-dI2c_ap, -dI2_ap, -dI2b_ap, -dAdd_ii, l1, l2, et, ad, eb, h1, bl, gl, p1, p2, p3, p4, nl, nl2]
theorem due_T {f : Nat} : DueF c s p (2 ^ 2 ^ m) rs f < 2 ^ 2 ^ m := DueF_lt
theorem m_tabof (M : Man z c s p) (m0 : 1 ≤ m) (hm : m ≤ 2) : m_table_of [bookD m rs, .str z] = .ok (tabD m (DueF c s p (2 ^ 2 ^ m) rs)) := by
  have hT := T_is m0 hm
  have et := top_of m0 hm
  obtain ⟨ρ', h1, s3, s4, h2⟩ := forL_fm (sl := [3]) (g := g1) (fb := b_table_of_1) nD (fun _ => true) (fun f => rowN (2 ^ 2 ^ m) (DueF c s p (2 ^ 2 ^ m) rs f)) 50 (fun ks ρ => ∃ s3 s4, ρ = [.d (bookD m rs), .d (.str z), .own false (ks.map nD), s3, s4, .un])
    (List.range (2 ^ 2 ^ m)) [] [.d (bookD m rs), .d (.str z), .own false [], .un, .un, .un] ⟨_, _, rfl⟩ (by rw [List.length_range]; simp; omega) fun ks f ρ hf kl ⟨s3, s4, e⟩ => by
    subst e
    have hf := List.mem_range.mp hf
    have e1 := m_dued (rs := rs) M (by omega) f hf
    have R := (row_ok hT (due_T (c := c) (s := s) (p := p) (m := m) (rs := rs) (f := f))).1
    have l1 : lcL [5] g1 (eTru (eL (callN 2 m_within) (eCons (eVar 4) (eCons (eVar 5) eNil)))) l_table_of_1 [.d (bookD m rs), .d (.str z), .own false (ks.map nD), .d (.int (f : Int)), .d (.int (DueF c s p (2 ^ 2 ^ m) rs f : Nat)), .un] ((List.range (2 ^ 2 ^ m)).map nD) = .ok ((rowL (2 ^ 2 ^ m) (DueF c s p (2 ^ 2 ^ m) rs f)).map fun c => .int ((2 ^ c : Nat) : Int)) := lcL_filter nD (wnB (DueF c s p (2 ^ 2 ^ m) rs f)) _ _ fun q hq => by
      have hq := List.mem_range.mp hq
      have w := m_with (DueF c s p (2 ^ 2 ^ m) rs f) q
      have sh : dShl (.int 1) (.int (q : Nat)) = .ok (.int ((2 ^ q : Nat) : Int)) := dShl_1 (by omega)
      generalize DueF c s p (2 ^ 2 ^ m) rs f = X at *
      generalize 2 ^ q = Q at *
      unfold nD
      refine ⟨by simp [w], fun _ => ?_⟩
      unfold l_table_of_1
      simp [-dI2_ap, -dI2c_ap, sh]
    have ll : ((rowL (2 ^ 2 ^ m) (DueF c s p (2 ^ 2 ^ m) rs f)).map fun c => D.int ((2 ^ c : Nat) : Int)).length ≤ lim := by
      rw [List.length_map]
      exact Nat.le_trans (rowL_len hT) (by decide)
    have kl2 : ks.length < lim := lim_lt (by omega)
    refine ⟨[nD f], _, rfl, .inl (?_ : _ = SRes.nx [.d (bookD m rs), .d (.str z), .own false ((ks ++ [rowN (2 ^ 2 ^ m) (DueF c s p (2 ^ 2 ^ m) rs f)]).map nD), .d (nD f), .d (.int (DueF c s p (2 ^ 2 ^ m) rs f : Nat)), .un]), _, _, rfl⟩
    have fn := fld_n m rs
    generalize bookD m rs = B at *
    generalize rowN (2 ^ 2 ^ m) (DueF c s p (2 ^ 2 ^ m) rs f) = RW at *
    generalize (rowL (2 ^ 2 ^ m) (DueF c s p (2 ^ 2 ^ m) rs f)).map (fun c => D.int ((2 ^ c : Nat) : Int)) = RL at *
    generalize DueF c s p (2 ^ 2 ^ m) rs f = X at *
    unfold b_table_of_1 nD
    unfold nD at l1 et
    simp [-dI2_ap, -dI2c_ap, e1, fn, et.1, et.2, l1, okLen_le, ll, R, kl2]
  rw [List.nil_append, List.filter_eq_self.mpr fun _ _ => rfl] at h2
  subst h2
  have ti := m_tabini m0 hm ((List.range (2 ^ 2 ^ m)).map fun f => rowN (2 ^ 2 ^ m) (DueF c s p (2 ^ 2 ^ m) rs f)) (by rw [List.length_map, List.length_range]) fun x hx => by
    obtain ⟨f, hf, rfl⟩ := List.mem_map.mp hx
    exact (row_ok hT due_T).2.1
  have gt : dGt (.int (m : Int)) (.int 2) = .ok (.bl false) := by
    show Res.ok (D.bl (decide ((2 : Int) < m))) = _
    rw [decide_eq_false (by omega)]
  have te : tabD m (DueF c s p (2 ^ 2 ^ m) rs) = .obj "Table" ["n", "rows"] [.int (m : Int), .tup (((List.range (2 ^ 2 ^ m)).map fun f => rowN (2 ^ 2 ^ m) (DueF c s p (2 ^ 2 ^ m) rs f)).map nD)] := by
    unfold tabD
    rw [List.map_map]
    rfl
  rw [te]
  have fn := fld_n m rs
  generalize bookD m rs = B at *
  generalize ((List.range (2 ^ 2 ^ m)).map fun f => rowN (2 ^ 2 ^ m) (DueF c s p (2 ^ 2 ^ m) rs f)).map nD = RL at *
  unfold m_table_of mOf g_table_of
  simp [-dI2_ap, -dI2c_ap, fn, gt, et.1, et.2, h1, ti]
theorem m_gapn (M : Man z c s p) (m0 : 1 ≤ m) (hm : m ≤ 2) (hE : ∀ f, f < 2 ^ 2 ^ m → E f < 2 ^ 2 ^ m) (C : Clo c s p (2 ^ 2 ^ m) E) : m_gap [tabD m E, .str z] = .ok .non := by
  have hT := T_is m0 hm
  have et := top_of m0 hm
  have r0 := tf_n (m := m) (E := E)
  have tlt : 2 ^ 2 ^ m - 1 < 2 ^ 2 ^ m := by omega
  have i0 := tin m0 hm hE _ _ tlt tlt true
  rw [show wnB (E (2 ^ 2 ^ m - 1)) (2 ^ 2 ^ m - 1) = true by
    unfold wnB
    rw [beq_iff_eq]
    exact and_zero_of (2 ^ m) (hE _ tlt)] at i0
  have gr := fun f hf => m_girow m0 hm hE f hf
  have gf := fun f hf => m_gafacts M m0 hm hE C f hf
  have mo := fun f hf => m_meetof m0 hm hE f hf
  generalize tabD m E = TB at *
  have nn : dNotN .non .non = .ok (.bl false) := rfl
  obtain ⟨ρ', h1, s3, s5, h2⟩ := forL_of (sl := [3]) (g := g1) (fb := b_gap_1) nD (fun (_ : Unit) ρ => ∃ s3 s5, ρ = [.d TB, .d (.str z), .d (.int ((2 ^ 2 ^ m - 1 : Nat) : Int)), s3, .un, s5]) (fun a _ => a) (List.range (2 ^ 2 ^ m)) () [.d TB, .d (.str z), .d (.int ((2 ^ 2 ^ m - 1 : Nat) : Int)), .un, .un, .un] ⟨_, _, rfl⟩ fun _ q ρ hq ⟨s3, s5, e⟩ => by
    subst e
    have e1 := gr q (List.mem_range.mp hq)
    refine ⟨[nD q], _, rfl, .inl (?_ : _ = SRes.nx [.d TB, .d (.str z), .d (.int ((2 ^ 2 ^ m - 1 : Nat) : Int)), .d (nD q), .un, .d .non]), _, _, rfl⟩
    unfold b_gap_1 nD
    simp [e1, nn]
  subst h2
  have l1 : lcL [3] g1 tYesD l_gap_1 [.d TB, .d (.str z), .d (.int ((2 ^ 2 ^ m - 1 : Nat) : Int)), s3, .un, s5] ((List.range (2 ^ 2 ^ m)).map nD) = .ok ((List.range (2 ^ 2 ^ m)).map fun f => nD (E f)) := lcL_map nD _ _ fun q hq => by
    have e1 := mo q (List.mem_range.mp hq)
    unfold l_gap_1 nD
    simp [e1]
  have ll : ((List.range (2 ^ 2 ^ m)).map fun f => nD (E f)).length ≤ lim := by
    rw [List.length_map, List.length_range]
    exact Nat.le_trans (show 2 ^ 2 ^ m ≤ 16 by omega) (by decide)
  have nl : nlxs false ((List.range (2 ^ 2 ^ m)).map fun f => nD (E f)) = true := by
    generalize List.range (2 ^ 2 ^ m) = L
    induction L with
    | nil => rfl
    | cons x l ih => exact ih
  generalize (List.range (2 ^ 2 ^ m)).map (fun f => nD (E f)) = MS at *
  obtain ⟨ρ', h3, s3', s5', h4⟩ := forL_of (sl := [3]) (g := g1) (fb := b_gap_2) nD (fun (_ : Unit) ρ => ∃ s3 s5, ρ = [.d TB, .d (.str z), .d (.int ((2 ^ 2 ^ m - 1 : Nat) : Int)), s3, .d (.lst MS), s5]) (fun a _ => a) (List.range (2 ^ 2 ^ m)) () [.d TB, .d (.str z), .d (.int ((2 ^ 2 ^ m - 1 : Nat) : Int)), s3, .d (.lst MS), s5] ⟨_, _, rfl⟩ fun _ q ρ hq ⟨s3, s5, e⟩ => by
    subst e
    have e1 := gf q (List.mem_range.mp hq)
    refine ⟨[nD q], _, rfl, .inl (?_ : _ = SRes.nx [.d TB, .d (.str z), .d (.int ((2 ^ 2 ^ m - 1 : Nat) : Int)), .d (nD q), .d (.lst MS), .d .non]), _, _, rfl⟩
    unfold b_gap_2 nD
    simp [e1, nn]
  subst h4
  unfold m_gap mOf g_gap
  simp [-dI2_ap, -dI2c_ap, r0, et.1, et.2, i0, h1, l1, okLen_le, ll, h3]
end
end K97
set_option Elab.async false
set_option linter.all false
set_option maxRecDepth 100000
set_option maxHeartbeats 400000
namespace K97
open PySem PySem.Spec PyProof.Rows L2 DL Cb Du
/-! ### base, book_of, told back -/
section
variable {z : Str} {c s p : Bool} {m : Nat} {rs : List Rul} {E : Nat → Nat}
def pick (C : List Rul) (L : List Nat) : List Rul := L.map fun k => C.getD k (0, 0)
theorem pick_mem {C : List Rul} {L : List Nat} (hL : ∀ k ∈ L, k < C.length) : ∀ r ∈ pick C L, r ∈ C := fun r h => by
  unfold pick at h
  obtain ⟨k, hk, rfl⟩ := List.mem_map.mp h
  have := hL k hk
  rw [List.getD, List.getElem?_eq_getElem this]
  exact List.getElem_mem this
theorem pick_len {C : List Rul} {L : List Nat} : (pick C L).length = L.length := List.length_map _
theorem m_subl (m0 : 1 ≤ m) (hm : m ≤ 4) (C : List Rul) (hr : ∀ r ∈ C, r.1 < 2 ^ 2 ^ m ∧ r.2 < 2 ^ 2 ^ m) (L : List Nat) (hL : ∀ k ∈ L, k < C.length) (hl : L.length ≤ 16) : m_Book_sub [bookD m C, .tup (L.map nD)] = .ok (bookD m (pick C L)) := by
  have e := m_book m m0 hm (pick C L) (by rw [pick_len]; exact hl) fun r h => hr r (pick_mem hL r h)
  have l1 : lcL [2] g1 tYesD l_Book_sub_1 [.d (bookD m C), .d (.tup (L.map nD)), .un] (L.map nD) = .ok (L.map fun k => ruleD (C.getD k (0, 0))) := lcL_map nD _ _ fun k hk => by
    have hk := hL k hk
    have at_ : L2.atI (C.map ruleD) (k : Int) = some (ruleD (C.getD k (0, 0))) := atI_at (by rw [List.getElem?_map, List.getElem?_eq_getElem hk]; simp [List.getD, List.getElem?_eq_getElem hk])
    unfold l_Book_sub_1
    simp [fld_rules, nD, at_]
  have e2 : (L.map fun k => ruleD (C.getD k (0, 0))) = (pick C L).map ruleD := by
    unfold pick
    rw [List.map_map]
    rfl
  rw [e2] at l1
  have ll : ((pick C L).map ruleD).length ≤ lim := by
    rw [List.length_map, pick_len]
    exact Nat.le_trans hl (by decide)
  have hb : mkD "Book" 3 m_Book_init [.int (m : Int), .lst ((pick C L).map ruleD)] = .ok (bookD m (pick C L)) := by
    simp [e]
    rfl
  have fn := fld_n m C
  generalize bookD m C = B at *
  generalize bookD m (pick C L) = B2 at *
  generalize (pick C L).map ruleD = PL at *
  generalize L.map nD = LL at *
  unfold m_Book_sub mOf g_Book_sub
  simp [-mkD2, fn, l1, okLen_le, ll, hb]
theorem m_based (M : Man z c s p) (m0 : 1 ≤ m) (hm : m ≤ 4) (C : List Rul) (hr : ∀ r ∈ C, r.1 < 2 ^ 2 ^ m ∧ r.2 < 2 ^ 2 ^ m) (hc : C.length ≤ 16) :
    ∃ L : List Nat, m_base [bookD m C, .str z] = .ok (.tup (L.map nD)) ∧ (∀ k ∈ L, k < C.length) ∧ L.length ≤ 16 ∧ ∀ f, f < 2 ^ 2 ^ m → DueF c s p (2 ^ 2 ^ m) (pick C L) f = DueF c s p (2 ^ 2 ^ m) C f := by
  have he : 2 ^ m ≤ 16 := Nat.pow_le_pow_right (show 0 < 2 by decide) hm
  have T6 : 2 ^ 2 ^ m ≤ 65536 := T_le he
  have es := m_size m C
  have en : rngN (.int (C.length : Int)) = .ok ((List.range C.length).map nD) := by
    show (if (0 : Int) ≤ (C.length : Int) ∧ (C.length : Int) ≤ 100000 then Res.ok (rangeD 0 ((C.length : Int)).toNat) else .st) = _
    rw [if_pos (by omega), Int.toNat_natCast, rangeD_nat]
  have ev : revN (.int (C.length : Int)) = .ok ((List.range C.length).reverse.map nD) := by
    unfold revN
    rw [en, List.map_reverse]
    rfl
  have eu : tupRg (.int (C.length : Int)) = .ok (.tup ((List.range C.length).map nD)) := by
    unfold tupRg
    rw [en]
    rfl
  let G : List Nat → Prop := fun L => (∀ k ∈ L, k < C.length) ∧ L.length ≤ 16 ∧ ∀ f, f < 2 ^ 2 ^ m → DueF c s p (2 ^ 2 ^ m) (pick C L) f = DueF c s p (2 ^ 2 ^ m) C f
  have G0 : G (List.range C.length) := by
    refine ⟨fun k hk => List.mem_range.mp hk, by rw [List.length_range]; exact hc, fun f _ => ?_⟩
    have : pick C (List.range C.length) = C := by
      unfold pick
      apply List.ext_getElem?
      intro i
      rw [List.getElem?_map]
      rcases Nat.lt_or_ge i C.length with h | h
      · rw [List.getElem?_range h]
        simp [List.getD, List.getElem?_eq_getElem h]
      · rw [List.getElem?_eq_none (by simpa using h), List.getElem?_eq_none h]
        rfl
    rw [this]
  obtain ⟨ρ', h1, L, s3, s4, s5, s6, gL, h2⟩ := forL_of (sl := [3]) (g := g1) (fb := b_base_1) nD (fun (_ : Unit) ρ => ∃ (L : List Nat) (s3 s4 s5 s6 : DL.Slot), G L ∧ ρ = [.d (bookD m C), .d (.str z), .d (.tup (L.map nD)), s3, s4, s5, s6, .un]) (fun a _ => a) (List.range C.length).reverse () [.d (bookD m C), .d (.str z), .d (.tup ((List.range C.length).map nD)), .un, .un, .un, .un, .un] ⟨_, _, _, _, _, G0, rfl⟩ fun _ k ρ hk ⟨L, s3, s4, s5, s6, gL, e⟩ => by
    subst e
    have hk : k < C.length := List.mem_range.mp (List.mem_reverse.mp hk)
    have l1 : lcL [7] g1 (eB (e2 dNe (eVar 7) (eVar 3))) l_base_1 [.d (bookD m C), .d (.str z), .d (.tup (L.map nD)), .d (nD k), s4, s5, s6, .un] (L.map nD) = .ok ((L.filter fun j => !decide (j = k)).map nD) := lcL_filter nD _ nD _ fun j hj => by
      have n1 := dNe_nn j k
      unfold nD
      exact ⟨by simp [-dI2_ap, n1], fun _ => rfl⟩
    obtain ⟨O, hO⟩ : ∃ O, (L.filter fun j => !decide (j = k)) = O := ⟨_, rfl⟩
    have oL : O.length ≤ 16 := by rw [← hO]; exact Nat.le_trans (List.length_filter_le _ _) gL.2.1
    have oB : ∀ j ∈ O, j < C.length := fun j hj => by rw [← hO] at hj; exact gL.1 j (List.mem_filter.mp hj).1
    have e1 := m_subl m0 hm C hr O oB oL
    have rk := hr (C.getD k (0, 0)) (by rw [List.getD, List.getElem?_eq_getElem hk]; exact List.getElem_mem hk)
    have e2' := m_isdue (rs := pick C O) M hm (C.getD k (0, 0)).1 (C.getD k (0, 0)).2 rk.1
    have at_ : L2.atI (C.map ruleD) (k : Int) = some (.tup [.int ((C.getD k (0, 0)).1 : Int), .int ((C.getD k (0, 0)).2 : Int)]) := atI_at (by rw [List.getElem?_map, List.getElem?_eq_getElem hk]; simp [List.getD, List.getElem?_eq_getElem hk, ruleD])
    have fr := fld_rules m C
    have im : isM "Book" "sub" (bookD m C) = true := rfl
    have ll : (O.map nD).length ≤ lim := by rw [List.length_map]; exact Nat.le_trans oL (by decide)
    rw [hO] at l1
    cases hw : wnB (DueF c s p (2 ^ 2 ^ m) (pick C O) (C.getD k (0, 0)).1) (C.getD k (0, 0)).2 with
    | false =>
      rw [hw] at e2'
      refine ⟨[nD k], _, rfl, .inl (?_ : _ = SRes.nx [.d (bookD m C), .d (.str z), .d (.tup (L.map nD)), .d (nD k), .d (.tup (O.map nD)), .d (.int ((C.getD k (0, 0)).1 : Int)), .d (.int ((C.getD k (0, 0)).2 : Int)), .un]), L, _, _, _, _, gL, rfl⟩
      generalize bookD m C = B at *
      generalize bookD m (pick C O) = B2 at *
      generalize O.map nD = OO at *
      generalize L.map nD = LL at *
      generalize C.map ruleD = CC at *
      generalize (C.getD k (0, 0)).1 = R1 at *
      generalize (C.getD k (0, 0)).2 = R2 at *
      unfold nD at l1
      unfold b_base_1 nD eMth
      simp [-dI2_ap, l1, okLen_le, ll, im, fr, at_, e1, e2']
    | true =>
      rw [hw] at e2'
      have gO : G O := by
        refine ⟨oB, oL, fun f hf => ?_⟩
        rw [← gL.2.2 f hf]
        have b1 : ∀ r ∈ pick C O, r ∈ pick C L ∧ r.1 < 65536 := fun r h => by
          refine ⟨?_, Nat.lt_of_lt_of_le (hr r (pick_mem oB r h)).1 T6⟩
          unfold pick at h ⊢
          obtain ⟨j, hj, rfl⟩ := List.mem_map.mp h
          rw [← hO] at hj
          exact List.mem_map.mpr ⟨j, (List.mem_filter.mp hj).1, rfl⟩
        refine wnB_anti ?_ ?_
        · refine due_entail he (fun r h => ?_) (by omega)
          have hr1 : r.1 < 65536 := Nat.lt_of_lt_of_le (hr r (pick_mem gL.1 r h)).1 T6
          refine ⟨hr1, ?_⟩
          unfold pick at h
          obtain ⟨j, hj, rfl⟩ := List.mem_map.mp h
          by_cases hjk : j = k
          · subst hjk; exact hw
          · refine due_rule ?_ hr1
            unfold pick
            exact List.mem_map.mpr ⟨j, by rw [← hO]; exact List.mem_filter.mpr ⟨hj, by simpa using hjk⟩, rfl⟩
        · exact due_anti he b1 (by omega)
      refine ⟨[nD k], _, rfl, .inl (?_ : _ = SRes.nx [.d (bookD m C), .d (.str z), .d (.tup (O.map nD)), .d (nD k), .d (.tup (O.map nD)), .d (.int ((C.getD k (0, 0)).1 : Int)), .d (.int ((C.getD k (0, 0)).2 : Int)), .un]), O, _, _, _, _, gO, rfl⟩
      clear gO
      have nl : nlxs false (O.map nD) = true := nlx_nats false O
      generalize bookD m C = B at *
      generalize bookD m (pick C O) = B2 at *
      generalize O.map nD = OO at *
      generalize L.map nD = LL at *
      generalize C.map ruleD = CC at *
      generalize (C.getD k (0, 0)).1 = R1 at *
      generalize (C.getD k (0, 0)).2 = R2 at *
      unfold nD at l1
      unfold b_base_1 nD eMth
      simp [-dI2_ap, l1, okLen_le, ll, im, fr, at_, e1, e2']
  subst h2
  refine ⟨L, ?_, gL⟩
  have pr : eProp "Book" m_Book_size (eVar 0) = fun ρ => (eVar 0 ρ).bind fun x => if isM "Book" "" x = true then (match m_Book_size [x] with
    | .ok d => .ok d
    | _ => .st) else .st := rfl
  have im : isM "Book" "" (bookD m C) = true := rfl
  generalize bookD m C = B at *
  unfold m_base mOf g_base
  simp [-dI2_ap, -List.map_reverse, pr, im, es, eu, ev, h1]
/-- the rules of a table -/
def tabR (T : Nat) (E : Nat → Nat) : List Rul := (List.range T).map fun f => (f, E f)
theorem m_bookof (M : Man z c s p) (m0 : 1 ≤ m) (hm : m ≤ 2) (hE : ∀ f, f < 2 ^ 2 ^ m → E f < 2 ^ 2 ^ m) (C : Clo c s p (2 ^ 2 ^ m) E) :
    ∃ L : List Nat, m_book_of [tabD m E, .str z] = .ok (bookD m (pick (tabR (2 ^ 2 ^ m) E) L)) ∧ (∀ f, f < 2 ^ 2 ^ m → DueF c s p (2 ^ 2 ^ m) (pick (tabR (2 ^ 2 ^ m) E) L) f = DueF c s p (2 ^ 2 ^ m) (tabR (2 ^ 2 ^ m) E) f) := by
  have hT := T_is m0 hm
  have hr : ∀ r ∈ tabR (2 ^ 2 ^ m) E, r.1 < 2 ^ 2 ^ m ∧ r.2 < 2 ^ 2 ^ m := fun r h => by
    unfold tabR at h
    obtain ⟨f, hf, rfl⟩ := List.mem_map.mp h
    have hf := List.mem_range.mp hf
    exact ⟨hf, hE f hf⟩
  have hc : (tabR (2 ^ 2 ^ m) E).length ≤ 16 := by
    unfold tabR
    rw [List.length_map, List.length_range]
    omega
  obtain ⟨L, e1, l1, l2, l3⟩ := m_based M m0 (by omega) _ hr hc
  refine ⟨L, ?_, l3⟩
  have e2' := m_subl m0 (by omega) _ hr L l1 l2
  have e3' := m_gapn M m0 hm hE C
  have mo := fun f hf => m_meetof m0 hm hE f hf
  have r0 := tf_n (m := m) (E := E)
  have r1 := tf_rows (m := m) (E := E)
  have b0 : bLen [.tup ((List.range (2 ^ 2 ^ m)).map fun f => nD (rowN (2 ^ 2 ^ m) (E f)))] = .ok (.int (2 ^ 2 ^ m : Nat)) := by rw [bLen_tup, List.length_map, List.length_range]
  have er : rng1 [.int (2 ^ 2 ^ m : Nat)] = .ok ((List.range (2 ^ 2 ^ m)).map nD) := by rw [rng1_n _ (by omega), rangeD_nat]
  have l1 : lcL [4] g1 tYesD l_book_of_1 [.d (tabD m E), .d (.str z), .d .non, .un, .un] ((List.range (2 ^ 2 ^ m)).map nD) = .ok ((List.range (2 ^ 2 ^ m)).map fun f => ruleD (f, E f)) := lcL_map nD _ _ fun q hq => by
    have e1 := mo q (List.mem_range.mp hq)
    unfold l_book_of_1 nD ruleD
    generalize tabD m E = TB at *
    simp [e1]
  have te : ((List.range (2 ^ 2 ^ m)).map fun f => ruleD (f, E f)) = (tabR (2 ^ 2 ^ m) E).map ruleD := by
    unfold tabR
    rw [List.map_map]
    rfl
  rw [te] at l1
  have ll : ((tabR (2 ^ 2 ^ m) E).map ruleD).length ≤ lim := by rw [List.length_map]; exact Nat.le_trans hc (by decide)
  have hb : mkD "Book" 3 m_Book_init [.int (m : Int), .lst ((tabR (2 ^ 2 ^ m) E).map ruleD)] = .ok (bookD m (tabR (2 ^ 2 ^ m) E)) := by
    simp [m_book m m0 (by omega) _ hc hr]
    rfl
  have im : isM "Book" "sub" (bookD m (tabR (2 ^ 2 ^ m) E)) = true := rfl
  have nn : dNotN .non .non = .ok (.bl false) := rfl
  generalize (tabR (2 ^ 2 ^ m) E).map ruleD = CC at *
  generalize bookD m (pick (tabR (2 ^ 2 ^ m) E) L) = B2 at *
  generalize bookD m (tabR (2 ^ 2 ^ m) E) = B at *
  generalize (List.range (2 ^ 2 ^ m)).map (fun f => nD (rowN (2 ^ 2 ^ m) (E f))) = RS at *
  generalize tabD m E = TB at *
  generalize L.map nD = LL at *
  generalize 2 ^ 2 ^ m = T at *
  unfold m_book_of mOf g_book_of eMth
  simp [-mkD2, -dI2_ap, -dI2c_ap, e3', nn, r0, r1, b0, er, l1, okLen_le, ll, hb, im, e1, e2']
theorem m_toldb (M : Man z c s p) (m0 : 1 ≤ m) (hm : m ≤ 2) (rs : List Rul) (hl : rs.length ≤ 16) (hr : ∀ r ∈ rs, r.1 < 2 ^ 2 ^ m ∧ r.2 < 2 ^ 2 ^ m) : m__law_told_back [.int (m : Int), .lst (rs.map ruleD), .str z] = .ok (.bl true) := by
  have hT := T_is m0 hm
  have he : 2 ^ m ≤ 16 := Nat.pow_le_pow_right (show 0 < 2 by decide) (show m ≤ 4 by omega)
  have lt6 : ∀ {f}, f < 2 ^ 2 ^ m → f < 65536 := fun h => by omega
  have hE : ∀ f, f < 2 ^ 2 ^ m → DueF c s p (2 ^ 2 ^ m) rs f < 2 ^ 2 ^ m := fun f _ => due_T
  have C : Clo c s p (2 ^ 2 ^ m) (DueF c s p (2 ^ 2 ^ m) rs) := by
    refine ⟨fun f g hf hg h => due_mono (lt6 hg) (lt6 hf) h, fun h f hf => ?_, fun h f hf => ?_, fun h f g hf hg => ?_⟩
    · subst h; exact due_sub (lt6 hf)
    · subst h; exact due_steps (lt6 hf)
    · subst h; exact due_cases (lt6 hf) (lt6 hg)
  obtain ⟨L, e1, e2'⟩ := m_bookof M m0 hm hE C
  have same : ∀ f, f < 2 ^ 2 ^ m → DueF c s p (2 ^ 2 ^ m) (pick (tabR (2 ^ 2 ^ m) (DueF c s p (2 ^ 2 ^ m) rs)) L) f = DueF c s p (2 ^ 2 ^ m) rs f := fun f hf => by
    rw [e2' f hf]
    refine wnB_anti ?_ ?_
    · refine due_entail he (fun r h => ⟨lt6 (hr r h).1, ?_⟩) (lt6 hf)
      have : (r.1, DueF c s p (2 ^ 2 ^ m) rs r.1) ∈ tabR (2 ^ 2 ^ m) (DueF c s p (2 ^ 2 ^ m) rs) := by
        unfold tabR
        exact List.mem_map.mpr ⟨r.1, List.mem_range.mpr (hr r h).1, rfl⟩
      exact wnB_trans (due_rule (r := (r.1, DueF c s p (2 ^ 2 ^ m) rs r.1)) this (lt6 (hr r h).1)) (due_rule h (lt6 (hr r h).1))
    · refine due_entail he (fun r h => ?_) (lt6 hf)
      unfold tabR at h
      obtain ⟨g, hg, rfl⟩ := List.mem_map.mp h
      exact ⟨lt6 (List.mem_range.mp hg), wnB_refl _⟩
  generalize pick (tabR (2 ^ 2 ^ m) (DueF c s p (2 ^ 2 ^ m) rs)) L = PL at *
  have e3' := m_tabof (rs := rs) M m0 hm
  have hb : mkD "Book" 3 m_Book_init [.int (m : Int), .lst (rs.map ruleD)] = .ok (bookD m rs) := by
    simp [m_book m m0 (by omega) _ hl hr]
    rfl
  have nn : dNe (.int (m : Int)) (.int (m : Int)) = .ok (.bl false) := by
    rw [dNe_nn, decide_eq_true rfl]
    rfl
  have fn := fld_n m PL
  have fr := fld_rules m PL
  have hm4 : m ≤ 4 := by omega
  have ld := fun (f : Nat) hf => m_ldue (rs := PL) M hm4 f hf
  have ld2 := fun (f : Nat) hf => m_ldue (rs := rs) M hm4 f hf
  obtain ⟨pp, T, t1, t2, hTT, T0, T1⟩ := tops m (by omega)
  have er : rng1 [.int (T : Nat)] = .ok ((List.range (2 ^ 2 ^ m)).map nD) := by rw [rng1_n _ (by omega), rangeD_nat, hTT]
  have bl : bList [.tup (PL.map ruleD)] = .ok (PL.map ruleD) := rfl
  have bl2 : bList [.lst (rs.map ruleD)] = .ok (rs.map ruleD) := rfl
  have ld3 : ∀ f : Nat, f < 2 ^ 2 ^ m → ∃ X : Nat, m__law_due [.int (m : Int), .lst (PL.map ruleD), .int (f : Int), .str z] = .ok (.int (X : Int)) ∧ m__law_due [.int (m : Int), .lst (rs.map ruleD), .int (f : Int), .str z] = .ok (.int (X : Int)) := fun f hf => ⟨_, ld f hf, by rw [same f hf]; exact ld2 f hf⟩
  clear same ld ld2 e2' C hE
  generalize tabD m (DueF c s p (2 ^ 2 ^ m) rs) = TB at *
  generalize bookD m rs = B at *
  generalize bookD m PL = B2 at *
  generalize rs.map ruleD = RR at *
  generalize PL.map ruleD = PP at *
  obtain ⟨ρ', h1, s5, h2⟩ := forL_of (sl := [5]) (g := g1) (fb := b__law_told_back_1) nD (fun (_ : Unit) ρ => ∃ s5, ρ = [.d (.int (m : Int)), .d (.lst RR), .d (.str z), .d B, .d B2, s5]) (fun a _ => a) (List.range (2 ^ 2 ^ m)) () [.d (.int (m : Int)), .d (.lst RR), .d (.str z), .d B, .d B2, .un] ⟨_, rfl⟩ fun _ q ρ hq ⟨s5, e⟩ => by
    subst e
    obtain ⟨X, x1, x2⟩ := ld3 q (List.mem_range.mp hq)
    have ne : dNe (.int (X : Int)) (.int (X : Int)) = .ok (.bl false) := by
      rw [dNe_nn, decide_eq_true rfl]
      rfl
    refine ⟨[nD q], _, rfl, .inl (?_ : _ = SRes.nx [.d (.int (m : Int)), .d (.lst RR), .d (.str z), .d B, .d B2, .d (nD q)]), _, rfl⟩
    unfold b__law_told_back_1 nD
    simp [-dI2_ap, fr, bl, x1, x2, ne]
  subst h2
  unfold m__law_told_back mOf g__law_told_back
  simp [-mkD2, -dI2_ap, -dI2c_ap, bl2, hb, e3', e1, fn, nn, t1, t2, er, h1]
end
end K97
set_option Elab.async false
set_option linter.all false
set_option maxRecDepth 100000
set_option maxHeartbeats 400000
namespace K97
open PySem PySem.Spec PyProof.Rows L2 DL Cb Du
/-! ### the script's rules and pairs -/
theorem some_at {α : Type} {xs : List α} {i : Nat} (h : i < xs.length) : ∃ x, xs[i]? = some x ∧ x ∈ xs := ⟨xs[i], List.getElem?_eq_getElem h, List.getElem_mem h⟩
theorem rules_turn97 {e : Nat} (a b c d : DL.Slot) (T i : Nat) (ks hs : List Nat) (rs : List Rul) {k1 k2 k3 h1 h2 : Nat} (hT : T = 2 ^ e) (hl : rs.length < lim)
    (e0 : ks[i]? = some k3) (e1 : ks[2 * i]? = some k1) (e2' : ks[2 * i + 1]? = some k2) (e3' : hs[2 * i]? = some h1) (e4 : hs[2 * i + 1]? = some h2) (q1 : k1 < T) (q2 : k2 < T) (q3 : h1 < T) (q4 : h2 < T) :
    ∃ (r : Rul), r.1 < T ∧ r.2 < T ∧ b__law_rules_1 [a, b, c, d, .d (.int (T : Int)), .d (.lst (ks.map nD)), .d (.lst (hs.map nD)), .own false (rs.map ruleD), .d (nD i)] =
      .nx [a, b, c, d, .d (.int (T : Int)), .d (.lst (ks.map nD)), .d (.lst (hs.map nD)), .own false ((rs ++ [r]).map ruleD), .d (nD i)] := by
  have f0 : L2.atI (ks.map nD) (i : Int) = some (.int (k3 : Int)) := nD_at e0
  have f1 : L2.atI (ks.map nD) (2 * (i : Int)) = some (.int (k1 : Int)) := nD_at e1
  have f2 : L2.atI (ks.map nD) (2 * (i : Int) + 1) = some (.int (k2 : Int)) := nD_at e2'
  have f3 : L2.atI (hs.map nD) (2 * (i : Int)) = some (.int (h1 : Int)) := nD_at e3'
  have f4 : L2.atI (hs.map nD) (2 * (i : Int) + 1) = some (.int (h2 : Int)) := nD_at e4
  have g1' : dMul (.int 2) (.int (i : Int)) = .ok (.int (2 * (i : Int))) := by simp [cMul_l (a := 2) (b := (i : Int)) (by decide) (by decide)]
  have g2' : dAdd (.int (2 * (i : Int))) (.int 1) = .ok (.int (2 * (i : Int) + 1)) := by simp
  have lt1 : ∀ x y : Nat, x < T → y < T → x ||| y < T := fun x y hx hy => by rw [hT] at hx hy ⊢; exact Nat.or_lt_two_pow hx hy
  obtain ⟨r, r1, r2⟩ := nat_mod (k3 : Int) (by omega) 2 (by omega)
  have md : dMod (.int (k3 : Int)) (.int 2) = .ok (.int (r : Int)) := by simp [cMod_ok]; exact r1
  have o1 := dOr_nn k1 k2
  have o2 := dOr_nn h1 h2
  have rr : r = 0 ∨ r = 1 := by omega
  have l1 := lt1 _ _ q1 q2
  have l2 := lt1 _ _ q3 q4
  generalize k1 ||| k2 = K at *
  generalize h1 ||| h2 = H at *
  rcases rr with rfl | rfl
  · refine ⟨(K, h1), l1, q3, ?_⟩
    unfold b__law_rules_1 nD
    unfold nD at f0 f1 f2 f3 f4
    simp [-dI2c_ap, -dI2_ap, f0, f1, f2, f3, f4, md, dEq_i, g1', g2', o1, hl, ruleD]
  · refine ⟨(k1, H), q1, l2, ?_⟩
    unfold b__law_rules_1 nD
    unfold nD at f0 f1 f2 f3 f4
    simp [-dI2c_ap, -dI2_ap, f0, f1, f2, f3, f4, md, dEq_i, g1', g2', o2, hl, ruleD]
theorem m_rules97 (ns : List Int) (m cnt : Nat) (hm : m ≤ 4) (hc : cnt ≤ 6) : ∃ rs : List Rul, m__law_rules [.lst (ns.map .int), .int 1, .int (m : Int), .int (cnt : Int)] = .ok (.lst (rs.map ruleD)) ∧ rs.length = cnt ∧ ∀ r ∈ rs, r.1 < 2 ^ 2 ^ m ∧ r.2 < 2 ^ 2 ^ m := by
  obtain ⟨p, T, t1, t2, hT, T0, T1⟩ := tops m hm
  rw [← hT]
  obtain ⟨ks, k1, k2, k3⟩ := m_nums ns 1 (2 * cnt) T (by omega) (by omega) T0 (by omega)
  obtain ⟨hs, h1, h2, h3⟩ := m_nums ns 2 (2 * cnt) T (by omega) (by omega) T0 (by omega)
  have er : rng1 [.int (cnt : Int)] = .ok ((List.range cnt).map nD) := by rw [rng1_n cnt (by omega), rangeD_nat]
  have key := forL_ind (sl := [8]) (g := g1) (fb := b__law_rules_1) (fun i ρ => ∃ (rs : List Rul) (s8 : DL.Slot), ρ = [.d (.lst (ns.map .int)), .d (.int 1), .d (.int (m : Int)), .d (.int (cnt : Int)), .d (.int (T : Int)), .d (.lst (ks.map nD)), .d (.lst (hs.map nD)), .own false (rs.map ruleD), s8] ∧ rs.length = i ∧ ∀ r ∈ rs, r.1 < T ∧ r.2 < T)
    ((List.range cnt).map nD) 0 [.d (.lst (ns.map .int)), .d (.int 1), .d (.int (m : Int)), .d (.int (cnt : Int)), .d (.int (T : Int)), .d (.lst (ks.map nD)), .d (.lst (hs.map nD)), .own false [], .un] ⟨[], .un, rfl, rfl, by simp⟩ fun i d ρ hd ⟨rs, s8, e, l, q⟩ => by
      subst e
      rw [← rangeD_nat] at hd
      obtain ⟨hi, rfl⟩ := rangeD_get hd
      rw [Int.zero_add]
      rw [Nat.zero_add] at l ⊢
      obtain ⟨y0, e0, n0⟩ := some_at (xs := ks) (i := i) (by omega)
      obtain ⟨y1, e1, n1⟩ := some_at (xs := ks) (i := 2 * i) (by omega)
      obtain ⟨y2, e2', n2⟩ := some_at (xs := ks) (i := 2 * i + 1) (by omega)
      obtain ⟨y3, e3', n3⟩ := some_at (xs := hs) (i := 2 * i) (by omega)
      obtain ⟨y4, e4, n4⟩ := some_at (xs := hs) (i := 2 * i + 1) (by omega)
      obtain ⟨r, r1, r2, z⟩ := rules_turn97 (e := 2 ^ m) (.d (.lst (ns.map .int))) (.d (.int 1)) (.d (.int (m : Int))) (.d (.int (cnt : Int))) T i ks hs rs hT (lim_lt (by omega)) e0 e1 e2' e3' e4 (k3 _ n1) (k3 _ n2) (h3 _ n3) (h3 _ n4)
      refine ⟨[nD i], _, rfl, .inl z, rs ++ [r], _, rfl, by simp [l], fun y hy => ?_⟩
      rcases List.mem_append.mp hy with u | u
      · exact q y u
      · rw [List.mem_singleton.mp u]; exact ⟨r1, r2⟩
  obtain ⟨ρ, q1, rs, s8, rfl, l, q⟩ := key
  rw [Nat.zero_add, List.length_map, List.length_range] at l
  refine ⟨rs, ?_, l, q⟩
  have c2 : dMul (.int 2) (.int (cnt : Int)) = .ok (.int (2 * (cnt : Int))) := by simp [cMul_l (a := 2) (b := (cnt : Int)) (by decide) (by decide)]
  unfold m__law_rules mOf g__law_rules
  have k1 : m__law_numbers [.lst (ns.map .int), .int 1, .int (2 * (cnt : Int)), .int T] = .ok (.lst (ks.map nD)) := k1
  have h1 : m__law_numbers [.lst (ns.map .int), .int 2, .int (2 * (cnt : Int)), .int T] = .ok (.lst (hs.map nD)) := h1
  simp [-dI2c_ap, t1, t2, k1, h1, c2, er, q1]
section
variable {z : Str} {c s p : Bool} {m : Nat} {rs : List Rul}
theorem pairs_turn (M : Man z c s p) (hm : m ≤ 4) (a0 a1 a4 a6 a12 a13 a14 a15 a16 a17 s18 a19 a20 : DL.Slot) (i : Nat) (fs cs ks : List Nat) (ps : List Rul) {f q k : Nat} (hl : ps.length < lim) (e0 : fs[i]? = some f) (e1 : cs[i]? = some q) (e2' : ks[i]? = some k) (hf : f < 2 ^ 2 ^ m) (hq : q < 2 ^ 2 ^ m) :
    ∃ (r : Rul) (t18 : DL.Slot), r.1 < 2 ^ 2 ^ m ∧ r.2 < 2 ^ 2 ^ m ∧ b_law_1 [a0, a1, .d (.int (m : Int)), .d (.lst (rs.map ruleD)), a4, .d (.str z), a6, .d (.lst (fs.map nD)), .d (.lst (cs.map nD)), .d (.lst (ks.map nD)), .own false (ps.map ruleD), .d (nD i), a12, a13, a14, a15, a16, a17, s18, a19, a20] =
      .nx [a0, a1, .d (.int (m : Int)), .d (.lst (rs.map ruleD)), a4, .d (.str z), a6, .d (.lst (fs.map nD)), .d (.lst (cs.map nD)), .d (.lst (ks.map nD)), .own false ((ps ++ [r]).map ruleD), .d (nD i), a12, a13, a14, a15, a16, a17, t18, a19, a20] := by
  have f0 : L2.atI (fs.map nD) (i : Int) = some (.int (f : Int)) := nD_at e0
  have f1 : L2.atI (cs.map nD) (i : Int) = some (.int (q : Int)) := nD_at e1
  have f2 : L2.atI (ks.map nD) (i : Int) = some (.int (k : Int)) := nD_at e2'
  have ed := m_ldue (rs := rs) M hm f hf
  have hX := due_T (c := c) (s := s) (p := p) (m := m) (rs := rs) (f := f)
  generalize DueF c s p (2 ^ 2 ^ m) rs f = X at ed hX
  have o1 := dOr_nn q X
  have lo : q ||| X < 2 ^ 2 ^ m := Nat.or_lt_two_pow hq hX
  generalize q ||| X = Y at o1 lo
  unfold nD at f0 f1 f2
  by_cases k1 : k = 1
  · subst k1
    refine ⟨(f, Y), .d (.int (Y : Int)), hf, lo, ?_⟩
    unfold b_law_1 nD
    simp [-dI2c_ap, -dI2_ap, f0, f1, f2, dEq_i, ed, o1, hl, ruleD]
  · have n1 : dEq (.int (k : Int)) (.int 1) = .ok (.bl false) := by
      refine (dEq_nn k 1).trans ?_
      rw [decide_eq_false k1]
    by_cases k2 : k = 2
    · subst k2
      refine ⟨(f, X), .d (.int (X : Int)), hf, hX, ?_⟩
      unfold b_law_1 nD
      simp [-dI2c_ap, -dI2_ap, f0, f1, f2, dEq_i, ed, o1, hl, ruleD]
    · have n2 : dEq (.int (k : Int)) (.int 2) = .ok (.bl false) := by
        refine (dEq_nn k 2).trans ?_
        rw [decide_eq_false k2]
      refine ⟨(f, q), .d (.int (q : Int)), hf, hq, ?_⟩
      unfold b_law_1 nD
      simp [-dI2c_ap, -dI2_ap, f0, f1, f2, n1, n2, hl, ruleD]
theorem pairs_loop (M : Man z c s p) (hm : m ≤ 4) (a0 a1 a4 a6 : DL.Slot) (cnt : Nat) (hc : cnt ≤ 20) (fs cs ks : List Nat) (lf : fs.length = cnt) (lc : cs.length = cnt) (lk : ks.length = cnt) (hf : ∀ x ∈ fs, x < 2 ^ 2 ^ m) (hq : ∀ x ∈ cs, x < 2 ^ 2 ^ m) :
    ∃ (ps : List Rul) (s11 s18 : DL.Slot), ps.length = cnt ∧ (∀ r ∈ ps, r.1 < 2 ^ 2 ^ m ∧ r.2 < 2 ^ 2 ^ m) ∧ forL [11] g1 b_law_1 ((List.range cnt).map nD) [a0, a1, .d (.int (m : Int)), .d (.lst (rs.map ruleD)), a4, .d (.str z), a6, .d (.lst (fs.map nD)), .d (.lst (cs.map nD)), .d (.lst (ks.map nD)), .own false [], .un, .un, .un, .un, .un, .un, .un, .un, .un, .un] =
      .nx [a0, a1, .d (.int (m : Int)), .d (.lst (rs.map ruleD)), a4, .d (.str z), a6, .d (.lst (fs.map nD)), .d (.lst (cs.map nD)), .d (.lst (ks.map nD)), .own false (ps.map ruleD), s11, .un, .un, .un, .un, .un, .un, s18, .un, .un] := by
  have key := forL_ind (sl := [11]) (g := g1) (fb := b_law_1) (fun i ρ => ∃ (ps : List Rul) (s11 s18 : DL.Slot), ρ = [a0, a1, .d (.int (m : Int)), .d (.lst (rs.map ruleD)), a4, .d (.str z), a6, .d (.lst (fs.map nD)), .d (.lst (cs.map nD)), .d (.lst (ks.map nD)), .own false (ps.map ruleD), s11, .un, .un, .un, .un, .un, .un, s18, .un, .un] ∧ ps.length = i ∧ ∀ r ∈ ps, r.1 < 2 ^ 2 ^ m ∧ r.2 < 2 ^ 2 ^ m)
    ((List.range cnt).map nD) 0 [a0, a1, .d (.int (m : Int)), .d (.lst (rs.map ruleD)), a4, .d (.str z), a6, .d (.lst (fs.map nD)), .d (.lst (cs.map nD)), .d (.lst (ks.map nD)), .own false [], .un, .un, .un, .un, .un, .un, .un, .un, .un, .un] ⟨[], .un, .un, rfl, rfl, by simp⟩ fun i d ρ hd ⟨ps, s11, s18, e, l, q⟩ => by
      subst e
      rw [← rangeD_nat] at hd
      obtain ⟨hi, rfl⟩ := rangeD_get hd
      rw [Int.zero_add]
      rw [Nat.zero_add] at l ⊢
      obtain ⟨y0, e0, n0⟩ := some_at (xs := fs) (i := i) (by omega)
      obtain ⟨y1, e1, n1⟩ := some_at (xs := cs) (i := i) (by omega)
      obtain ⟨y2, e2', n2⟩ := some_at (xs := ks) (i := i) (by omega)
      obtain ⟨r, t18, r1, r2, z⟩ := pairs_turn (rs := rs) M hm a0 a1 a4 a6 .un .un .un .un .un .un s18 .un .un i fs cs ks ps (lim_lt (by omega)) e0 e1 e2' (hf _ n0) (hq _ n1)
      refine ⟨[nD i], _, rfl, .inl z, ps ++ [r], _, _, rfl, by simp [l], fun y hy => ?_⟩
      rcases List.mem_append.mp hy with u | u
      · exact q y u
      · rw [List.mem_singleton.mp u]; exact ⟨r1, r2⟩
  obtain ⟨ρ, q1, ps, s11, s18, rfl, l, q⟩ := key
  rw [Nat.zero_add, List.length_map, List.length_range] at l
  exact ⟨ps, s11, s18, l, q, q1⟩
end
end K97
set_option Elab.async false
set_option linter.all false
set_option maxRecDepth 100000
set_option maxHeartbeats 400000
namespace K97
open PySem PySem.Spec PyProof.Rows L2 DL Cb Du
/-! ### the law's own status; equal tuples -/
theorem eqvs_rules : ∀ rs : List Rul, eqvs (rs.map ruleD) (rs.map ruleD) = true
  | [] => rfl
  | r :: rs => by
    show (((((r.1 : Int) == (r.1 : Int)) && (((r.2 : Int) == (r.2 : Int)) && true))) && eqvs (rs.map ruleD) (rs.map ruleD)) = true
    rw [eqvs_rules rs]
    simp
theorem dOks_rules (n : Nat) : ∀ rs : List Rul, dOks (n + 1) (rs.map ruleD) = true
  | [] => by cases n <;> rfl
  | r :: rs => by
    have e : dOk (n + 1) (ruleD r) = true := by cases n <;> rfl
    show (dOk (n + 1) (ruleD r) && dOks (n + 1) (rs.map ruleD)) = true
    rw [dOks_rules n rs, e]
    rfl
theorem ne_rules (rs : List Rul) : dNe (.tup (rs.map ruleD)) (.tup (rs.map ruleD)) = .ok (.bl false) := by
  have e : dOk 16 (.tup (rs.map ruleD)) = true := dOks_rules 14 rs
  have v : D.eqv (.tup (rs.map ruleD)) (.tup (rs.map ruleD)) = true := eqvs_rules rs
  unfold dNe
  rw [if_pos ⟨e, e⟩, v]
  rfl
theorem mans_ok : ∀ x ∈ mans, PyData.strOk x.1 = true := fun x hx => by
  unfold mans at hx
  simp only [List.mem_cons, List.not_mem_nil, or_false] at hx
  rcases hx with rfl | rfl | rfl | rfl | rfl | rfl | rfl | rfl <;> kernel_rfl
theorem eqvs_mans : ∀ l : List (Str × Bool × Bool × Bool), eqvs (l.map manD) (l.map manD) = true
  | [] => rfl
  | x :: l => by
    show ((x.1 == x.1) && eqvs (l.map manD) (l.map manD)) = true
    rw [eqvs_mans l]
    simp
theorem dOks_mans (n : Nat) : ∀ l : List (Str × Bool × Bool × Bool), (∀ x ∈ l, x ∈ mans) → dOks n (l.map manD) = true
  | [], _ => by cases n <;> rfl
  | x :: l, h => by
    have e : dOk n (manD x) = true := by
      have := mans_ok x (h x List.mem_cons_self)
      cases n <;> exact this
    show (dOk n (manD x) && dOks n (l.map manD)) = true
    rw [dOks_mans n l fun y hy => h y (List.mem_cons_of_mem _ hy), e]
    rfl
theorem ne_mans (l : List (Str × Bool × Bool × Bool)) (h : ∀ x ∈ l, x ∈ mans) : dNe (.tup (l.map manD)) (.tup (l.map manD)) = .ok (.bl false) := by
  have e : dOk 16 (.tup (l.map manD)) = true := dOks_mans 15 l h
  have v : D.eqv (.tup (l.map manD)) (.tup (l.map manD)) = true := eqvs_mans l
  unfold dNe
  rw [if_pos ⟨e, e⟩, v]
  rfl
theorem flat_mans : ∀ l : List (Str × Bool × Bool × Bool), (l.map manD).all D.flat = true
  | [] => rfl
  | _ :: l => flat_mans l
theorem in_mans (l : List (Str × Bool × Bool × Bool)) (x : Str × Bool × Bool × Bool) (h : x ∈ l) : dInS (manD x) (.lst (l.map manD)) = .ok true := by
  have f : ((manD x).flat && (l.map manD).all D.flat) = true := by rw [flat_mans]; rfl
  have i : inSeq (manD x) (l.map manD) = true := by
    unfold inSeq
    rw [List.any_eq_true]
    refine ⟨manD x, List.mem_map.mpr ⟨x, h, rfl⟩, ?_⟩
    show (x.1 == x.1) = true
    simp
  show (if ((manD x).flat && (l.map manD).all D.flat) = true then Res.ok (inSeq (manD x) (l.map manD)) else if (dOk 16 (manD x) && dOks 16 (l.map manD)) = true then .ok (inSeq (manD x) (l.map manD)) else .st) = _
  rw [if_pos f, i]
section
variable {z : Str} {c s p : Bool} {m : Nat} {rs : List Rul}
theorem turn97 (a0 a1 a6 a7 a8 a9 a11 a15 a17 a18 a19 a20 : DL.Slot) (m : Nat) (RR YS NS : List D) (SD : D) (pr : Rul) (z v : Str) (hh : Bool) (PS : List D) (L4 : D)
    (ST : m_status [SD, .int (pr.1 : Int), .int (pr.2 : Int), .str z] = .ok (.str v)) (LS : m__law_status [.int (m : Int), .lst YS, .lst NS, ruleD pr, .str z] = .ok (.str v)) (LH : m__law_holds [.int (m : Int), .lst RR, ruleD pr, .str z] = .ok (.bl hh))
    (hv : v = "yes" ∧ hh = true ∨ v = "no" ∧ hh = false ∨ v = "open") :
    b_law_2 [a0, a1, .d (.int (m : Int)), .d (.lst RR), .d L4, .d (.str z), a6, a7, a8, a9, .d (.lst PS), a11, .d (.lst YS), .d (.lst NS), .d SD, a15, .d (ruleD pr), a17, a18, a19, a20] =
      .nx [a0, a1, .d (.int (m : Int)), .d (.lst RR), .d L4, .d (.str z), a6, a7, a8, a9, .d (.lst PS), a11, .d (.lst YS), .d (.lst NS), .d SD, a15, .d (ruleD pr), a17, a18, .d (.str v), a20] := by
  have r0 := ruleD_0 pr
  have r1 := ruleD_1 pr
  generalize ruleD pr = PR at *
  unfold b_law_2
  rcases hv with ⟨rfl, rfl⟩ | ⟨rfl, rfl⟩ | rfl
  · have i1 : dIsi "str" (.str "yes") = .ok (.bl true) := by kernel_rfl
    have i2 : dNe (.str "yes") (.str "yes") = .ok (.bl false) := by kernel_rfl
    have i3 : dEq (.str "yes") (.str "yes") = .ok (.bl true) := by kernel_rfl
    have i4 : dEq (.str "yes") (.str "no") = .ok (.bl false) := by kernel_rfl
    simp [-dI2c_ap, -dI2_ap, r0, r1, ST, LS, LH, i1, i2, i3, i4]
  · have i1 : dIsi "str" (.str "no") = .ok (.bl true) := by kernel_rfl
    have i2 : dNe (.str "no") (.str "no") = .ok (.bl false) := by kernel_rfl
    have i3 : dEq (.str "no") (.str "yes") = .ok (.bl false) := by kernel_rfl
    have i4 : dEq (.str "no") (.str "no") = .ok (.bl true) := by kernel_rfl
    simp [-dI2c_ap, -dI2_ap, r0, r1, ST, LS, LH, i1, i2, i3, i4]
  · have i1 : dIsi "str" (.str "open") = .ok (.bl true) := by kernel_rfl
    have i2 : dNe (.str "open") (.str "open") = .ok (.bl false) := by kernel_rfl
    have i3 : dEq (.str "open") (.str "yes") = .ok (.bl false) := by kernel_rfl
    have i4 : dEq (.str "open") (.str "no") = .ok (.bl false) := by kernel_rfl
    simp [-dI2c_ap, -dI2_ap, r0, r1, ST, LS, LH, i1, i2, i3, i4]
/-! ### what the rules hold and what they do not -/
theorem yes_sub (hm : m ≤ 4) (ys : List Rul) (hy : ∀ r ∈ ys, r.1 < 2 ^ 2 ^ m ∧ hB c s p (2 ^ 2 ^ m) rs r = true) (f : Nat) (hf : f < 2 ^ 2 ^ m) : wnB (DueF c s p (2 ^ 2 ^ m) rs f) (DueF c s p (2 ^ 2 ^ m) ys f) = true := by
  have he : 2 ^ m ≤ 16 := Nat.pow_le_pow_right (show 0 < 2 by decide) hm
  have T6 : 2 ^ 2 ^ m ≤ 65536 := T_le he
  exact due_entail he (fun r h => ⟨by have := (hy r h).1; omega, (hy r h).2⟩) (by omega)
theorem no_any (hm : m ≤ 4) (ys nn : List Rul) (hy : ∀ r ∈ ys, r.1 < 2 ^ 2 ^ m ∧ hB c s p (2 ^ 2 ^ m) rs r = true) (hn : ∀ r ∈ nn, r.1 < 2 ^ 2 ^ m ∧ hB c s p (2 ^ 2 ^ m) rs r = false) : nn.any (hB c s p (2 ^ 2 ^ m) ys) = false := by
  rw [List.any_eq_false]
  intro r hr h
  have h2 := (hn r hr).2
  have : hB c s p (2 ^ 2 ^ m) rs r = true := by
    unfold hB at h ⊢
    exact wnB_trans (yes_sub hm ys hy r.1 (hn r hr).1) h
  rw [this] at h2
  cases h2
theorem yes_own (hm : m ≤ 4) (ys : List Rul) (hy : ∀ r ∈ ys, r.1 < 2 ^ 2 ^ m) : ∀ r ∈ ys, hB c s p (2 ^ 2 ^ m) ys r = true := fun r h => by
  have he : 2 ^ m ≤ 16 := Nat.pow_le_pow_right (show 0 < 2 by decide) hm
  have T6 : 2 ^ 2 ^ m ≤ 65536 := T_le he
  unfold hB
  exact due_rule h (by have := hy r h; omega)
theorem stat_ok (hm : m ≤ 4) (ys nn : List Rul) (hy : ∀ r ∈ ys, r.1 < 2 ^ 2 ^ m ∧ hB c s p (2 ^ 2 ^ m) rs r = true) (hn : ∀ r ∈ nn, r.1 < 2 ^ 2 ^ m ∧ hB c s p (2 ^ 2 ^ m) rs r = false) (pr : Rul) (hp : pr.1 < 2 ^ 2 ^ m) :
    statS c s p (2 ^ 2 ^ m) ys nn pr = "yes" ∧ hB c s p (2 ^ 2 ^ m) rs pr = true ∨ statS c s p (2 ^ 2 ^ m) ys nn pr = "no" ∧ hB c s p (2 ^ 2 ^ m) rs pr = false ∨ statS c s p (2 ^ 2 ^ m) ys nn pr = "open" := by
  unfold statS
  by_cases h1 : hB c s p (2 ^ 2 ^ m) ys pr = true
  · rw [if_pos h1]
    refine .inl ⟨rfl, ?_⟩
    unfold hB at h1 ⊢
    exact wnB_trans (yes_sub hm ys hy pr.1 hp) h1
  · rw [if_neg h1]
    by_cases h2 : nn.any (hB c s p (2 ^ 2 ^ m) (ys ++ [pr])) = true
    · rw [if_pos h2]
      refine .inr (.inl ⟨rfl, ?_⟩)
      cases h3 : hB c s p (2 ^ 2 ^ m) rs pr with
      | false => rfl
      | true =>
        rw [no_any (rs := rs) hm (ys ++ [pr]) nn (fun r h => by
          rcases List.mem_append.mp h with h | h
          · exact hy r h
          · rw [List.mem_singleton.mp h]; exact ⟨hp, h3⟩) hn] at h2
        cases h2
    · rw [if_neg h2]
      exact .inr (.inr rfl)
end
end K97
set_option Elab.async false
set_option linter.all false
set_option maxRecDepth 100000
set_option maxHeartbeats 400000
namespace K97
open PySem PySem.Spec PyProof.Rows L2 DL Cb Du
def t_law : DEnv → SRes := (sSeq (sIf (eOr (eB (e2 dIsN (eVar 15) (eC .non))) (eOr (eB (e2 dNe (e1 (dFld ["Book", "Seen", "Table"] "n") (eVar 15)) (eVar 2))) (eTru (eL (callN 4 m__law_some) (eCons (eVar 2) (eCons (eFz (eL bList (eCons (e1 (dFld ["Book"] "rules") (eVar 15)) eNil))) (eCons (eVar 13) (eCons (eVar 5) eNil)))))))) (sRet [] (eC (.bl false))) sNil) (sSeq (sIf (eNot (eTru (eL bAll (eCons (eFz (eLc [16] (eIt (eVar 12)) g1 tYesD l_law_3)) eNil)))) (sRet [] (eC (.bl false))) sNil) (sSeq (sFor [10] [16] (eIt (eVar 10)) g1 b_law_2) (sSeq (sAsg false ([4] ++ minus (([2] ++ ([12] ++ ([13] ++ ([20] ++ [])))) ++ [20]) [20]) 17 (eFz (eLc [20] (eIt (eVar 4)) g1 (eNot (eTru (eL (callN 4 m__law_some) (eCons (eVar 2) (eCons (eVar 12) (eCons (eVar 13) (eCons (eVar 20) eNil))))))) l_law_4))) (sSeq (sIf (eOr (eB (e2 dNe (eL (callN 1 m_fitting_manners) (eCons (eVar 14) eNil)) (eL bTuple (eCons (eVar 17) eNil)))) (eB (e2 dNotIn (eVar 5) (eVar 17)))) (sRet [] (eC (.bl false))) sNil) (sSeq (sIf (eAnd (eB (e2 dLt (eVar 6) (eC (.int 8)))) (eB (e2 dNe (eFz (eL (callF 2 m_least_drops) (eCons (eVar 14) (eCons (eVar 5) eNil)))) (eFz (eLst (eCons (eTup eNil) eNil)))))) (sRet [] (eC (.bl false))) sNil) (sRet (([2] ++ []) ++ ([2] ++ ([3] ++ ([5] ++ [])))) (eOrV (e2 dEq (eVar 2) (eC (.int 3))) (eL (callN 3 m__law_told_back) (eCons (eVar 2) (eCons (eVar 3) (eCons (eVar 5) eNil))))))))))))
def p_law_1 : DEnv → SRes := (sAsg false ([] ++ ([] ++ ([] ++ ([] ++ [])))) 1 (eFz (eLst (eCons (eC (.int 2)) (eCons (eC (.int 1)) (eCons (eC (.int 3)) (eCons (eC (.int 2)) eNil)))))))
def p_law_2 : DEnv → SRes := (sAsg false ([1] ++ (([0] ++ ([] ++ [])) ++ [])) 2 (e2 dIx (eVar 1) (e2 dMod (eL (callN 2 m__law_cell) (eCons (eVar 0) (eCons (eC (.int 0)) eNil))) (eC (.int 4)))))
def p_law_3 : DEnv → SRes := (sAsg false ([0] ++ ([] ++ ([2] ++ ((([] ++ (([0] ++ ([] ++ [])) ++ [])) ++ []) ++ [])))) 3 (eFz (eL (callF 4 m__law_rules) (eCons (eVar 0) (eCons (eC (.int 1)) (eCons (eVar 2) (eCons (e2 dMod (e2 dAdd (eC (.int 3)) (e2 dDiv (eL (callN 2 m__law_cell) (eCons (eVar 0) (eCons (eC (.int 0)) eNil))) (eC (.int 4)))) (eC (.int 6))) eNil)))))))
def p_law_4 : DEnv → SRes := (sAsg false ([] ++ ([] ++ ([] ++ ([] ++ ([] ++ ([] ++ ([] ++ ([] ++ [])))))))) 4 (eFz (eLst (eCons (eC (.str "once")) (eCons (eC (.str "cases")) (eCons (eC (.str "steps")) (eCons (eC (.str "both")) (eCons (eC (.str "once+")) (eCons (eC (.str "cases+")) (eCons (eC (.str "steps+")) (eCons (eC (.str "both+")) eNil)))))))))))
def p_law_5 : DEnv → SRes := (sAsg false ([4] ++ ((([0] ++ ([] ++ [])) ++ []) ++ [])) 5 (e2 dIx (eVar 4) (e2 dMod (e2 dDiv (eL (callN 2 m__law_cell) (eCons (eVar 0) (eCons (eC (.int 0)) eNil))) (eC (.int 24))) (eC (.int 8)))))
def p_law_6 : DEnv → SRes := (sAsg false (([] ++ ([0] ++ ([] ++ []))) ++ []) 6 (e2 dMod (e2 dAdd (eC (.int 5)) (eL (callN 2 m__law_cell) (eCons (eVar 0) (eCons (eC (.int 3)) eNil)))) (eC (.int 9))))
def p_law_7 : DEnv → SRes := (sAsg false ([0] ++ ([] ++ (([6] ++ []) ++ (([] ++ ([] ++ [2])) ++ [])))) 7 (eFz (eL (callF 4 m__law_numbers) (eCons (eVar 0) (eCons (eC (.int 4)) (eCons (e2 dAdd (eVar 6) (eC (.int 3))) (eCons (e2 dShl (eC (.int 1)) (e2 dShl (eC (.int 1)) (eVar 2))) eNil)))))))
def p_law_8 : DEnv → SRes := (sAsg false ([0] ++ ([] ++ (([6] ++ []) ++ (([] ++ ([] ++ [2])) ++ [])))) 8 (eFz (eL (callF 4 m__law_numbers) (eCons (eVar 0) (eCons (eC (.int 5)) (eCons (e2 dAdd (eVar 6) (eC (.int 3))) (eCons (e2 dShl (eC (.int 1)) (e2 dShl (eC (.int 1)) (eVar 2))) eNil)))))))
def p_law_9 : DEnv → SRes := (sAsg false ([0] ++ ([] ++ (([6] ++ []) ++ ([] ++ [])))) 9 (eFz (eL (callF 4 m__law_numbers) (eCons (eVar 0) (eCons (eC (.int 6)) (eCons (e2 dAdd (eVar 6) (eC (.int 3))) (eCons (eC (.int 4)) eNil)))))))
def p_law_10 : DEnv → SRes := (sAsgF false [] 10 (eLst eNil))
def p_law_11 : DEnv → SRes := (sForR [11] (eL rng1 (eCons (e2 dAdd (eVar 6) (eC (.int 3))) eNil)) g1 b_law_1)
def p_law_12 : DEnv → SRes := (sAsg false (([10] ++ [] ++ [6]) ++ minus (([2] ++ ([3] ++ ([16] ++ ([5] ++ [])))) ++ [16]) [16]) 12 (eFz (eLc [16] (e3 dSlL (eVar 10) eNoP (eP (eVar 6))) g1 (eTru (eL (callN 4 m__law_holds) (eCons (eVar 2) (eCons (eVar 3) (eCons (eVar 16) (eCons (eVar 5) eNil)))))) l_law_1)))
def p_law_13 : DEnv → SRes := (sAsg false (([10] ++ [] ++ [6]) ++ minus (([2] ++ ([3] ++ ([16] ++ ([5] ++ [])))) ++ [16]) [16]) 13 (eFz (eLc [16] (e3 dSlL (eVar 10) eNoP (eP (eVar 6))) g1 (eNot (eTru (eL (callN 4 m__law_holds) (eCons (eVar 2) (eCons (eVar 3) (eCons (eVar 16) (eCons (eVar 5) eNil))))))) l_law_2)))
def p_law_14 : DEnv → SRes := (sAsg false ([2] ++ (([12] ++ []) ++ (([13] ++ []) ++ []))) 14 (eL (mkD "Seen" 4 m_Seen_init) (eCons (eVar 2) (eCons (eFz (eL bList (eCons (eVar 12) eNil))) (eCons (eFz (eL bList (eCons (eVar 13) eNil))) eNil)))))
def p_law_15 : DEnv → SRes := (sIf (eOr (eB (e2 dNe (e1 (dFld ["Seen"] "yes") (eVar 14)) (eL bTuple (eCons (eVar 12) eNil)))) (eOr (eB (e2 dNe (e1 (dFld ["Seen"] "no") (eVar 14)) (eL bTuple (eCons (eVar 13) eNil)))) (eB (e2 dNotN (eL (callN 2 m_conflict) (eCons (eVar 14) (eCons (eVar 5) eNil))) (eC .non))))) (sRet [] (eC (.bl false))) sNil)
def p_law_16 : DEnv → SRes := (sAsg false ([14] ++ ([5] ++ [])) 15 (eL (callN 2 m_fitting_book) (eCons (eVar 14) (eCons (eVar 5) eNil))))
theorem g_law_cut : g_law = sSeq p_law_1 (sSeq p_law_2 (sSeq p_law_3 (sSeq p_law_4 (sSeq p_law_5 (sSeq p_law_6 (sSeq p_law_7 (sSeq p_law_8 (sSeq p_law_9 (sSeq p_law_10 (sSeq p_law_11 (sSeq p_law_12 (sSeq p_law_13 (sSeq p_law_14 (sSeq p_law_15 (sSeq p_law_16 t_law))))))))))))))) := rfl
/-! ### the law -/
theorem nx_of {α : Type} (a : α) : a = a := rfl
theorem law_true (ns : List Int) (hn : ns.length ≤ 63) (hz : ∀ z ∈ ns, PySem.Builtin.Int.intBits z ≤ 1048576) : m_law [.lst (ns.map .int)] = .ok (.bl true) := by
  have ce0 : m__law_cell [.lst (ns.map .int), .int 0] = .ok (.int (cell ns 0)) := m_cell ns 0
  have ce3 : m__law_cell [.lst (ns.map .int), .int 3] = .ok (.int (cell ns 3)) := m_cell ns 3
  have hs0 := cell_nn ns 0
  have hs3 := cell_nn ns 3
  obtain ⟨C0, hC0⟩ : ∃ C0, cell ns 0 = C0 := ⟨_, rfl⟩
  obtain ⟨C3, hC3⟩ : ∃ C3, cell ns 3 = C3 := ⟨_, rfl⟩
  rw [hC0] at ce0 hs0
  rw [hC3] at ce3 hs3
  -- letters
  obtain ⟨L1, hL1⟩ : ∃ L1 : D, L1 = .lst [.int 2, .int 1, .int 3, .int 2] := ⟨_, rfl⟩
  obtain ⟨k4, k41, k42⟩ := nat_mod C0 hs0 4 (by omega)
  have md4 : dMod (.int C0) (.int 4) = .ok (.int (k4 : Int)) := by simp [cMod_ok]; exact k41
  have ix1 : ∃ m : Nat, 1 ≤ m ∧ m ≤ 3 ∧ dIx L1 (.int (k4 : Int)) = .ok (.int (m : Int)) := by
    have : k4 = 0 ∨ k4 = 1 ∨ k4 = 2 ∨ k4 = 3 := by omega
    subst hL1
    rcases this with rfl | rfl | rfl | rfl
    · exact ⟨2, by omega, by omega, by kernel_rfl⟩
    · exact ⟨1, by omega, by omega, by kernel_rfl⟩
    · exact ⟨3, by omega, by omega, by kernel_rfl⟩
    · exact ⟨2, by omega, by omega, by kernel_rfl⟩
  obtain ⟨m, m0, m3, ix1⟩ := ix1
  have hm : m ≤ 4 := by omega
  obtain ⟨PP, T, t1, t2, hT, T0, T1⟩ := tops m hm
  -- rules
  have dv4 : dDiv (.int C0) (.int 4) = .ok (.int (C0 / 4)) := by simp [cDiv_ok]
  have ad3 : dAdd (.int 3) (.int (C0 / 4)) = .ok (.int (3 + C0 / 4)) := by simp
  obtain ⟨cnt, c1, c2⟩ := nat_mod (3 + C0 / 4) (by omega) 6 (by omega)
  have md6 : dMod (.int (3 + C0 / 4)) (.int 6) = .ok (.int (cnt : Int)) := by simp [cMod_ok]; exact c1
  obtain ⟨rs, er, lr, hr⟩ := m_rules97 ns m cnt hm (by omega)
  -- manner
  obtain ⟨L4, hL4⟩ : ∃ L4 : D, L4 = .lst (mans.map manD) := ⟨_, rfl⟩
  have dv24 : dDiv (.int C0) (.int 24) = .ok (.int (C0 / 24)) := by simp [cDiv_ok]
  obtain ⟨k8, k81, k82⟩ := nat_mod (C0 / 24) (by omega) 8 (by omega)
  have md8 : dMod (.int (C0 / 24)) (.int 8) = .ok (.int (k8 : Int)) := by simp [cMod_ok]; exact k81
  have ix4 : ∃ x ∈ mans, dIx L4 (.int (k8 : Int)) = .ok (manD x) := by
    subst hL4
    have hl : k8 < mans.length := by show k8 < 8; omega
    refine ⟨mans[k8], List.getElem_mem hl, ?_⟩
    have : L2.atI (mans.map manD) (k8 : Int) = some (manD mans[k8]) := atI_at (by rw [List.getElem?_map, List.getElem?_eq_getElem hl]; rfl)
    simp [this]
  obtain ⟨x, hx, ix4⟩ := ix4
  have M := mans_man x hx
  obtain ⟨z, c, s, p⟩ := x
  have ix4 : dIx L4 (.int (k8 : Int)) = .ok (.str z) := ix4
  have M : Man z c s p := M
  -- many
  have ad5 : dAdd (.int 5) (.int C3) = .ok (.int (5 + C3)) := by simp
  obtain ⟨many, n1, n2⟩ := nat_mod (5 + C3) (by omega) 9 (by omega)
  have md9 : dMod (.int (5 + C3)) (.int 9) = .ok (.int (many : Int)) := by simp [cMod_ok]; exact n1
  generalize C0 / 4 = C04 at *
  generalize C0 / 24 = C024 at *
  have adm : dAdd (.int (many : Int)) (.int 3) = .ok (.int ((many + 3 : Nat) : Int)) := by
    show Res.ok (D.int ((many : Int) + 3)) = _
    rw [show (many : Int) + 3 = ((many + 3 : Nat) : Int) by omega]
  obtain ⟨fs, nf, lf, bf⟩ := m_nums ns 4 (many + 3) T (by omega) (by omega) T0 (by omega)
  obtain ⟨cs, nc, lc, bc⟩ := m_nums ns 5 (many + 3) T (by omega) (by omega) T0 (by omega)
  obtain ⟨ks, nk, lk, bk⟩ := m_nums ns 6 (many + 3) 4 (by omega) (by omega) (by omega) (by omega)
  have nf : m__law_numbers [.lst (ns.map .int), .int 4, .int ((many + 3 : Nat) : Int), .int (T : Int)] = .ok (.lst (fs.map nD)) := nf
  have nc : m__law_numbers [.lst (ns.map .int), .int 5, .int ((many + 3 : Nat) : Int), .int (T : Int)] = .ok (.lst (cs.map nD)) := nc
  have nk : m__law_numbers [.lst (ns.map .int), .int 6, .int ((many + 3 : Nat) : Int), .int 4] = .ok (.lst (ks.map nD)) := nk
  have en : rng1 [.int ((many + 3 : Nat) : Int)] = .ok ((List.range (many + 3)).map nD) := by rw [rng1_n _ (by omega), rangeD_nat]
  rw [hT] at bf bc
  obtain ⟨ps, s11, s18, lp, hp, ploop⟩ := pairs_loop (rs := rs) M hm (.d (.lst (ns.map .int))) (.d L1) (.d L4) (.d (.int (many : Int))) (many + 3) (by omega) fs cs ks lf lc lk bf bc
  obtain ⟨N3, hN3⟩ : ∃ N3, many + 3 = N3 := ⟨_, rfl⟩
  rw [hN3] at adm nf nc nk en ploop
  -- yes and no
  obtain ⟨qs, hqs⟩ : ∃ qs, ps.take many = qs := ⟨_, rfl⟩
  have lq : qs.length = many := by rw [← hqs, List.length_take]; omega
  have hq : ∀ r ∈ qs, r.1 < 2 ^ 2 ^ m ∧ r.2 < 2 ^ 2 ^ m := fun r h => hp r (List.mem_of_mem_take (hqs ▸ h))
  have sl12 : dSlL (.lst (ps.map ruleD)) none (some (many : Int)) = .ok (qs.map ruleD) := by
    show Res.ok (DL.cutD (ps.map ruleD) none (some (many : Int))) = _
    unfold DL.cutD
    rw [HT.sIx_none, HT.sIx_nat, List.length_map, Nat.min_eq_left (by omega), List.drop_zero, Nat.sub_zero, ← List.map_take, hqs]
  obtain ⟨ys, hys⟩ : ∃ ys, qs.filter (hB c s p (2 ^ 2 ^ m) rs) = ys := ⟨_, rfl⟩
  obtain ⟨nn, hnn⟩ : ∃ nn, qs.filter (fun r => !(hB c s p (2 ^ 2 ^ m) rs r)) = nn := ⟨_, rfl⟩
  have ly8 : ys.length ≤ 8 := by rw [← hys]; exact Nat.le_trans (List.length_filter_le _ _) (by omega)
  have ln8 : nn.length ≤ 8 := by rw [← hnn]; exact Nat.le_trans (List.length_filter_le _ _) (by omega)
  have lyn : ys.length + nn.length = many := by
    rw [← hys, ← hnn, ← lq]
    have : ∀ l : List Rul, (l.filter (hB c s p (2 ^ 2 ^ m) rs)).length + (l.filter fun r => !(hB c s p (2 ^ 2 ^ m) rs r)).length = l.length := by
      intro l
      induction l with
      | nil => rfl
      | cons a l ih =>
        cases h : hB c s p (2 ^ 2 ^ m) rs a with
        | true =>
          rw [List.filter_cons_of_pos h, List.filter_cons_of_neg (by rw [h]; simp), List.length_cons, List.length_cons]
          omega
        | false =>
          rw [List.filter_cons_of_neg (by rw [h]; simp), List.filter_cons_of_pos (by rw [h]; rfl), List.length_cons, List.length_cons]
          omega
    exact this qs
  have yB : ∀ r ∈ ys, (r.1 < 2 ^ 2 ^ m ∧ r.2 < 2 ^ 2 ^ m) ∧ hB c s p (2 ^ 2 ^ m) rs r = true := fun r h => by
    rw [← hys] at h
    have := List.mem_filter.mp h
    exact ⟨hq r this.1, this.2⟩
  have nB : ∀ r ∈ nn, (r.1 < 2 ^ 2 ^ m ∧ r.2 < 2 ^ 2 ^ m) ∧ hB c s p (2 ^ 2 ^ m) rs r = false := fun r h => by
    rw [← hnn] at h
    have := List.mem_filter.mp h
    exact ⟨hq r this.1, by simpa using this.2⟩
  have y2 : ∀ r ∈ ys, r.1 < 2 ^ 2 ^ m ∧ r.2 < 2 ^ 2 ^ m := fun r h => (yB r h).1
  have n2' : ∀ r ∈ nn, r.1 < 2 ^ 2 ^ m := fun r h => (nB r h).1.1
  have yn2 : ∀ r ∈ ys ++ nn, r.1 < 2 ^ 2 ^ m ∧ r.2 < 2 ^ 2 ^ m := fun r h => by
    rcases List.mem_append.mp h with h | h
    · exact (yB r h).1
    · exact (nB r h).1
  have y3 : ∀ r ∈ ys, r.1 < 2 ^ 2 ^ m ∧ hB c s p (2 ^ 2 ^ m) rs r = true := fun r h => ⟨(yB r h).1.1, (yB r h).2⟩
  have n3 : ∀ r ∈ nn, r.1 < 2 ^ 2 ^ m ∧ hB c s p (2 ^ 2 ^ m) rs r = false := fun r h => ⟨(nB r h).1.1, (nB r h).2⟩
  have na : nn.any (hB c s p (2 ^ 2 ^ m) ys) = false := no_any hm ys nn y3 n3
  have ly : (ys.map ruleD).length ≤ lim := by rw [List.length_map]; exact Nat.le_trans ly8 (by decide)
  have ln : (nn.map ruleD).length ≤ lim := by rw [List.length_map]; exact Nat.le_trans ln8 (by decide)
  have l12 : lcL [16] g1 (eTru (eL (callN 4 m__law_holds) (eCons (eVar 2) (eCons (eVar 3) (eCons (eVar 16) (eCons (eVar 5) eNil)))))) l_law_1 [.d (.lst (ns.map .int)), .d L1, .d (.int (m : Int)), .d (.lst (rs.map ruleD)), .d L4, .d (.str z), .d (.int (many : Int)), .d (.lst (fs.map nD)), .d (.lst (cs.map nD)), .d (.lst (ks.map nD)), .own false (ps.map ruleD), s11, .un, .un, .un, .un, .un, .un, s18, .un, .un] (qs.map ruleD) = .ok (ys.map ruleD) := by
    rw [← hys]
    refine lcL_filter ruleD _ ruleD _ fun r hr1 => ?_
    have e := m_lholds (rs := rs) M hm r (hq r hr1).1
    generalize ruleD r = R1 at *
    refine ⟨by simp [e], fun _ => ?_⟩
    unfold l_law_1
    simp
  have l13 : lcL [16] g1 (eNot (eTru (eL (callN 4 m__law_holds) (eCons (eVar 2) (eCons (eVar 3) (eCons (eVar 16) (eCons (eVar 5) eNil))))))) l_law_2 [.d (.lst (ns.map .int)), .d L1, .d (.int (m : Int)), .d (.lst (rs.map ruleD)), .d L4, .d (.str z), .d (.int (many : Int)), .d (.lst (fs.map nD)), .d (.lst (cs.map nD)), .d (.lst (ks.map nD)), .d (.lst (ps.map ruleD)), s11, .d (.lst (ys.map ruleD)), .un, .un, .un, .un, .un, s18, .un, .un] (qs.map ruleD) = .ok (nn.map ruleD) := by
    rw [← hnn]
    refine lcL_filter ruleD _ ruleD _ fun r hr1 => ?_
    have e := m_lholds (rs := rs) M hm r (hq r hr1).1
    generalize ruleD r = R1 at *
    refine ⟨by simp [e], fun _ => ?_⟩
    unfold l_law_2
    simp
  have by1 : bList [.lst (ys.map ruleD)] = .ok (ys.map ruleD) := rfl
  have bn1 : bList [.lst (nn.map ruleD)] = .ok (nn.map ruleD) := rfl
  have by2 : bTuple [.lst (ys.map ruleD)] = .ok (.tup (ys.map ruleD)) := rfl
  have bn2 : bTuple [.lst (nn.map ruleD)] = .ok (.tup (nn.map ruleD)) := rfl
  have hs : mkD "Seen" 4 m_Seen_init [.int (m : Int), .lst (ys.map ruleD), .lst (nn.map ruleD)] = .ok (seenD m ys nn) := by
    have e := m_seen m m0 hm ys nn ly8 ln8 yn2
    show (m_Seen_init [.int (m : Int), .lst (ys.map ruleD), .lst (nn.map ruleD)]).bind (fun r => Res.ok (D.obj "Seen" r.1 r.2)) = _
    rw [e]
    rfl
  have fy := sf_yes m ys nn
  have fn := sf_no m ys nn
  have ny := ne_rules ys
  have nn2 := ne_rules nn
  obtain ⟨cf, fb, _⟩ := m_conf M m0 hm ys nn ly8 y2 n2' na
  have notn : dNotN .non .non = .ok (.bl false) := rfl
  have isn : dIsN (bookD m ys) .non = .ok (.bl false) := rfl
  have bkn := fld_n m ys
  have bkr := fld_rules m ys
  have nmm : dNe (.int (m : Int)) (.int (m : Int)) = .ok (.bl false) := by
    rw [dNe_nn, decide_eq_true rfl]
    rfl
  have bkl : bList [.tup (ys.map ruleD)] = .ok (ys.map ruleD) := rfl
  have sno := m_lsome (rs := ys) M hm nn n2' (by omega)
  rw [na] at sno
  have yo := yes_own (c := c) (s := s) (p := p) hm ys fun r h => (y2 r h).1
  have stt := fun (pr : Rul) (h : pr ∈ ps) => m_stat M m0 hm ys nn ly8 y2 n2' na pr.1 pr.2 (hp pr h).1 (hp pr h).2
  have lst_ := fun (pr : Rul) (h : pr ∈ ps) => m_lstat M hm ys nn ly8 ln8 n2' pr (hp pr h).1
  have lho := fun (pr : Rul) (h : pr ∈ ps) => m_lholds (rs := rs) M hm pr (hp pr h).1
  have sok := fun (pr : Rul) (h : pr ∈ ps) => stat_ok (c := c) (s := s) (p := p) (rs := rs) hm ys nn y3 n3 pr (hp pr h).1
  have fm := m_fitm m0 hm ys nn ly8 y2 n2'
  have xin : ((z, c, s, p) : Str × Bool × Bool × Bool) ∈ mans.filter (fitB (2 ^ 2 ^ m) ys nn) := List.mem_filter.mpr ⟨hx, by
    unfold fitB
    rw [na]
    rfl⟩
  have inm : dInS (.str z) (.lst ((mans.filter (fitB (2 ^ 2 ^ m) ys nn)).map manD)) = .ok true := in_mans _ _ xin
  have nem := ne_mans (mans.filter (fitB (2 ^ 2 ^ m) ys nn)) fun x h => (List.mem_filter.mp h).1
  have bt : bTuple [.lst ((mans.filter (fitB (2 ^ 2 ^ m) ys nn)).map manD)] = .ok (.tup ((mans.filter (fitB (2 ^ 2 ^ m) ys nn)).map manD)) := rfl
  have fl8 : ((mans.filter (fitB (2 ^ 2 ^ m) ys nn)).map manD).length ≤ lim := by
    rw [List.length_map]
    exact Nat.le_trans (List.length_filter_le _ _) (by decide)
  have lsm := fun (x : Str × Bool × Bool × Bool) (h : x ∈ mans) => m_lsome (rs := ys) (mans_man x h) hm nn n2' (by omega)
  have l17 : ∀ (a0 a1 a3 a5 a6 a7 a8 a9 a10 a11 a14 a15 a16 a17 a18 a19 : DL.Slot), lcL [20] g1 (eNot (eTru (eL (callN 4 m__law_some) (eCons (eVar 2) (eCons (eVar 12) (eCons (eVar 13) (eCons (eVar 20) eNil))))))) l_law_4 [a0, a1, .d (.int (m : Int)), a3, .d L4, a5, a6, a7, a8, a9, a10, a11, .d (.lst (ys.map ruleD)), .d (.lst (nn.map ruleD)), a14, a15, a16, a17, a18, a19, .un] (mans.map manD) = .ok ((mans.filter (fitB (2 ^ 2 ^ m) ys nn)).map manD) := fun a0 a1 a3 a5 a6 a7 a8 a9 a10 a11 a14 a15 a16 a17 a18 a19 => by
    refine lcL_filter manD _ manD _ fun x hx => ?_
    have e : m__law_some [.int (m : Int), .lst (ys.map ruleD), .lst (nn.map ruleD), manD x] = .ok (.bl (nn.any (hB x.2.1 x.2.2.1 x.2.2.2 (2 ^ 2 ^ m) ys))) := lsm x hx
    unfold fitB
    generalize manD x = XX at *
    generalize nn.any (hB x.2.1 x.2.2.1 x.2.2.2 (2 ^ 2 ^ m) ys) = BB at *
    refine ⟨by simp [e], fun _ => ?_⟩
    unfold l_law_4
    simp
  have dr : many < 8 → m_least_drops [seenD m ys nn, .str z] = .ok (.lst [.tup []]) := fun h => m_drops M m0 hm ys nn (by rw [List.length_append]; omega) yn2 na
  have tb : m ≤ 2 → m__law_told_back [.int (m : Int), .lst (rs.map ruleD), .str z] = .ok (.bl true) := fun h => m_toldb M m0 h rs (by omega) hr
  have lall : ∀ (BKL : D) (a0 a1 a3 a4 a6 a7 a8 a9 a10 a11 a12 a13 a14 a17 a18 a19 a20 : DL.Slot), dFld ["Book"] "rules" BKL = .ok (.tup (ys.map ruleD)) → lcL [16] g1 tYesD l_law_3 [a0, a1, .d (.int (m : Int)), a3, a4, .d (.str z), a6, a7, a8, a9, a10, a11, a12, a13, a14, .d BKL, .un, a17, a18, a19, a20] (ys.map ruleD) = .ok (ys.map fun _ => .bl true) := fun BKL a0 a1 a3 a4 a6 a7 a8 a9 a10 a11 a12 a13 a14 a17 a18 a19 a20 hbk => lcL_map ruleD _ ys fun r hr1 => by
    have e := m_lholds (rs := ys) M hm r (y2 r hr1).1
    rw [yo r hr1] at e
    generalize ruleD r = R1 at *
    generalize ys.map ruleD = YS at *
    unfold l_law_3
    simp [hbk, bkl, e]
  have lyt : (ys.map fun _ => D.bl true).length ≤ lim := by rw [List.length_map]; exact Nat.le_trans ly8 (by decide)
  have ball : bAll [.lst (ys.map fun _ => D.bl true)] = .ok (.bl true) := by
    have := bAll_map (fun _ : Rul => true) ys
    rw [this, List.all_eq_true.mpr fun _ _ => rfl]
  -- the status of each pair
  have turns : ∀ (a0 a1 a6 a7 a8 a9 a11 a15 a17 a18 : DL.Slot), ∃ s16 s19 : DL.Slot, forL [16] g1 b_law_2 (ps.map ruleD) [a0, a1, .d (.int (m : Int)), .d (.lst (rs.map ruleD)), .d L4, .d (.str z), a6, a7, a8, a9, .d (.lst (ps.map ruleD)), a11, .d (.lst (ys.map ruleD)), .d (.lst (nn.map ruleD)), .d (seenD m ys nn), a15, .un, a17, a18, .un, .un] =
      .nx [a0, a1, .d (.int (m : Int)), .d (.lst (rs.map ruleD)), .d L4, .d (.str z), a6, a7, a8, a9, .d (.lst (ps.map ruleD)), a11, .d (.lst (ys.map ruleD)), .d (.lst (nn.map ruleD)), .d (seenD m ys nn), a15, s16, a17, a18, s19, .un] := fun a0 a1 a6 a7 a8 a9 a11 a15 a17 a18 => by
    obtain ⟨ρ', h1, s16, s19, h2⟩ := forL_of (sl := [16]) (g := g1) (fb := b_law_2) ruleD (fun (_ : Unit) ρ => ∃ s16 s19 : DL.Slot, ρ = [a0, a1, .d (.int (m : Int)), .d (.lst (rs.map ruleD)), .d L4, .d (.str z), a6, a7, a8, a9, .d (.lst (ps.map ruleD)), a11, .d (.lst (ys.map ruleD)), .d (.lst (nn.map ruleD)), .d (seenD m ys nn), a15, s16, a17, a18, s19, .un]) (fun a _ => a) ps () _ ⟨.un, .un, rfl⟩ fun _ pr ρ hpr ⟨s16, s19, e⟩ => by
      subst e
      exact ⟨[ruleD pr], _, rfl, .inl (turn97 a0 a1 a6 a7 a8 a9 a11 a15 a17 a18 s19 .un m (rs.map ruleD) (ys.map ruleD) (nn.map ruleD) (seenD m ys nn) pr z _ _ (ps.map ruleD) L4 (stt pr hpr) (lst_ pr hpr) (lho pr hpr) (sok pr hpr)), _, _, rfl⟩
    exact ⟨s16, s19, by rw [h1, h2]⟩
  have lall := lall (bookD m ys)
  clear stt lst_ lho sok lsm y2 n2' yn2 y3 n3 yB nB yo hq hp bf bc
  generalize hSD : seenD m ys nn = SD at *
  generalize hBK : bookD m ys = BK at *
  have s1 : p_law_1 [.d (.lst (ns.map .int)), .un, .un, .un, .un, .un, .un, .un, .un, .un, .un, .un, .un, .un, .un, .un, .un, .un, .un, .un, .un] = .nx [.d (.lst (ns.map .int)), .d L1, .un, .un, .un, .un, .un, .un, .un, .un, .un, .un, .un, .un, .un, .un, .un, .un, .un, .un, .un] := by
    unfold p_law_1
    simp [hL1]
  have s2 : p_law_2 [.d (.lst (ns.map .int)), .d L1, .un, .un, .un, .un, .un, .un, .un, .un, .un, .un, .un, .un, .un, .un, .un, .un, .un, .un, .un] = .nx [.d (.lst (ns.map .int)), .d L1, .d (.int (m : Int)), .un, .un, .un, .un, .un, .un, .un, .un, .un, .un, .un, .un, .un, .un, .un, .un, .un, .un] := by
    unfold p_law_2
    simp [-dI2c_ap, -dI2_ap, ce0, md4, ix1]
  have s3 : p_law_3 [.d (.lst (ns.map .int)), .d L1, .d (.int (m : Int)), .un, .un, .un, .un, .un, .un, .un, .un, .un, .un, .un, .un, .un, .un, .un, .un, .un, .un] = .nx [.d (.lst (ns.map .int)), .d L1, .d (.int (m : Int)), .d (.lst (rs.map ruleD)), .un, .un, .un, .un, .un, .un, .un, .un, .un, .un, .un, .un, .un, .un, .un, .un, .un] := by
    unfold p_law_3
    simp [-dI2c_ap, -dI2_ap, -dAdd_ii, ce0, dv4, ad3, md6, er]
  have s4 : p_law_4 [.d (.lst (ns.map .int)), .d L1, .d (.int (m : Int)), .d (.lst (rs.map ruleD)), .un, .un, .un, .un, .un, .un, .un, .un, .un, .un, .un, .un, .un, .un, .un, .un, .un] = .nx [.d (.lst (ns.map .int)), .d L1, .d (.int (m : Int)), .d (.lst (rs.map ruleD)), .d L4, .un, .un, .un, .un, .un, .un, .un, .un, .un, .un, .un, .un, .un, .un, .un, .un] := by
    unfold p_law_4
    rw [hL4]
    simp [mans, manD]
  have s5 : p_law_5 [.d (.lst (ns.map .int)), .d L1, .d (.int (m : Int)), .d (.lst (rs.map ruleD)), .d L4, .un, .un, .un, .un, .un, .un, .un, .un, .un, .un, .un, .un, .un, .un, .un, .un] = .nx [.d (.lst (ns.map .int)), .d L1, .d (.int (m : Int)), .d (.lst (rs.map ruleD)), .d L4, .d (.str z), .un, .un, .un, .un, .un, .un, .un, .un, .un, .un, .un, .un, .un, .un, .un] := by
    unfold p_law_5
    simp [-dI2c_ap, -dI2_ap, ce0, dv24, md8, ix4]
  have s6 : p_law_6 [.d (.lst (ns.map .int)), .d L1, .d (.int (m : Int)), .d (.lst (rs.map ruleD)), .d L4, .d (.str z), .un, .un, .un, .un, .un, .un, .un, .un, .un, .un, .un, .un, .un, .un, .un] = .nx [.d (.lst (ns.map .int)), .d L1, .d (.int (m : Int)), .d (.lst (rs.map ruleD)), .d L4, .d (.str z), .d (.int (many : Int)), .un, .un, .un, .un, .un, .un, .un, .un, .un, .un, .un, .un, .un, .un] := by
    unfold p_law_6
    simp [-dI2c_ap, -dI2_ap, -dAdd_ii, ce3, ad5, md9]
  have s7 : p_law_7 [.d (.lst (ns.map .int)), .d L1, .d (.int (m : Int)), .d (.lst (rs.map ruleD)), .d L4, .d (.str z), .d (.int (many : Int)), .un, .un, .un, .un, .un, .un, .un, .un, .un, .un, .un, .un, .un, .un] = .nx [.d (.lst (ns.map .int)), .d L1, .d (.int (m : Int)), .d (.lst (rs.map ruleD)), .d L4, .d (.str z), .d (.int (many : Int)), .d (.lst (fs.map nD)), .un, .un, .un, .un, .un, .un, .un, .un, .un, .un, .un, .un, .un] := by
    unfold p_law_7
    simp [-dI2c_ap, -dI2_ap, -dAdd_ii, -List.map_map, t1, t2, adm, nf]
  have s8 : p_law_8 [.d (.lst (ns.map .int)), .d L1, .d (.int (m : Int)), .d (.lst (rs.map ruleD)), .d L4, .d (.str z), .d (.int (many : Int)), .d (.lst (fs.map nD)), .un, .un, .un, .un, .un, .un, .un, .un, .un, .un, .un, .un, .un] = .nx [.d (.lst (ns.map .int)), .d L1, .d (.int (m : Int)), .d (.lst (rs.map ruleD)), .d L4, .d (.str z), .d (.int (many : Int)), .d (.lst (fs.map nD)), .d (.lst (cs.map nD)), .un, .un, .un, .un, .un, .un, .un, .un, .un, .un, .un, .un] := by
    unfold p_law_8
    simp [-dI2c_ap, -dI2_ap, -dAdd_ii, -List.map_map, t1, t2, adm, nc]
  have s9 : p_law_9 [.d (.lst (ns.map .int)), .d L1, .d (.int (m : Int)), .d (.lst (rs.map ruleD)), .d L4, .d (.str z), .d (.int (many : Int)), .d (.lst (fs.map nD)), .d (.lst (cs.map nD)), .un, .un, .un, .un, .un, .un, .un, .un, .un, .un, .un, .un] = .nx [.d (.lst (ns.map .int)), .d L1, .d (.int (m : Int)), .d (.lst (rs.map ruleD)), .d L4, .d (.str z), .d (.int (many : Int)), .d (.lst (fs.map nD)), .d (.lst (cs.map nD)), .d (.lst (ks.map nD)), .un, .un, .un, .un, .un, .un, .un, .un, .un, .un, .un] := by
    unfold p_law_9
    simp [-dI2c_ap, -dI2_ap, -dAdd_ii, -List.map_map, t1, t2, adm, nk]
  have s10 : p_law_10 [.d (.lst (ns.map .int)), .d L1, .d (.int (m : Int)), .d (.lst (rs.map ruleD)), .d L4, .d (.str z), .d (.int (many : Int)), .d (.lst (fs.map nD)), .d (.lst (cs.map nD)), .d (.lst (ks.map nD)), .un, .un, .un, .un, .un, .un, .un, .un, .un, .un, .un] = .nx [.d (.lst (ns.map .int)), .d L1, .d (.int (m : Int)), .d (.lst (rs.map ruleD)), .d L4, .d (.str z), .d (.int (many : Int)), .d (.lst (fs.map nD)), .d (.lst (cs.map nD)), .d (.lst (ks.map nD)), .own false [], .un, .un, .un, .un, .un, .un, .un, .un, .un, .un] := by
    unfold p_law_10
    simp
  have s11' : p_law_11 [.d (.lst (ns.map .int)), .d L1, .d (.int (m : Int)), .d (.lst (rs.map ruleD)), .d L4, .d (.str z), .d (.int (many : Int)), .d (.lst (fs.map nD)), .d (.lst (cs.map nD)), .d (.lst (ks.map nD)), .own false [], .un, .un, .un, .un, .un, .un, .un, .un, .un, .un] = .nx [.d (.lst (ns.map .int)), .d L1, .d (.int (m : Int)), .d (.lst (rs.map ruleD)), .d L4, .d (.str z), .d (.int (many : Int)), .d (.lst (fs.map nD)), .d (.lst (cs.map nD)), .d (.lst (ks.map nD)), .own false (ps.map ruleD), s11, .un, .un, .un, .un, .un, .un, s18, .un, .un] := by
    unfold p_law_11
    simp [-dI2c_ap, -dI2_ap, -dAdd_ii, adm, en, ploop]
  have s12 : p_law_12 [.d (.lst (ns.map .int)), .d L1, .d (.int (m : Int)), .d (.lst (rs.map ruleD)), .d L4, .d (.str z), .d (.int (many : Int)), .d (.lst (fs.map nD)), .d (.lst (cs.map nD)), .d (.lst (ks.map nD)), .own false (ps.map ruleD), s11, .un, .un, .un, .un, .un, .un, s18, .un, .un] = .nx [.d (.lst (ns.map .int)), .d L1, .d (.int (m : Int)), .d (.lst (rs.map ruleD)), .d L4, .d (.str z), .d (.int (many : Int)), .d (.lst (fs.map nD)), .d (.lst (cs.map nD)), .d (.lst (ks.map nD)), .d (.lst (ps.map ruleD)), s11, .d (.lst (ys.map ruleD)), .un, .un, .un, .un, .un, s18, .un, .un] := by
    unfold p_law_12
    simp [-dI2c_ap, -dI2_ap, sl12, l12, okLen_le ly]
  have s13 : p_law_13 [.d (.lst (ns.map .int)), .d L1, .d (.int (m : Int)), .d (.lst (rs.map ruleD)), .d L4, .d (.str z), .d (.int (many : Int)), .d (.lst (fs.map nD)), .d (.lst (cs.map nD)), .d (.lst (ks.map nD)), .d (.lst (ps.map ruleD)), s11, .d (.lst (ys.map ruleD)), .un, .un, .un, .un, .un, s18, .un, .un] = .nx [.d (.lst (ns.map .int)), .d L1, .d (.int (m : Int)), .d (.lst (rs.map ruleD)), .d L4, .d (.str z), .d (.int (many : Int)), .d (.lst (fs.map nD)), .d (.lst (cs.map nD)), .d (.lst (ks.map nD)), .d (.lst (ps.map ruleD)), s11, .d (.lst (ys.map ruleD)), .d (.lst (nn.map ruleD)), .un, .un, .un, .un, s18, .un, .un] := by
    unfold p_law_13
    simp [-dI2c_ap, -dI2_ap, sl12, l13, okLen_le ln]
  have s14 : p_law_14 [.d (.lst (ns.map .int)), .d L1, .d (.int (m : Int)), .d (.lst (rs.map ruleD)), .d L4, .d (.str z), .d (.int (many : Int)), .d (.lst (fs.map nD)), .d (.lst (cs.map nD)), .d (.lst (ks.map nD)), .d (.lst (ps.map ruleD)), s11, .d (.lst (ys.map ruleD)), .d (.lst (nn.map ruleD)), .un, .un, .un, .un, s18, .un, .un] = .nx [.d (.lst (ns.map .int)), .d L1, .d (.int (m : Int)), .d (.lst (rs.map ruleD)), .d L4, .d (.str z), .d (.int (many : Int)), .d (.lst (fs.map nD)), .d (.lst (cs.map nD)), .d (.lst (ks.map nD)), .d (.lst (ps.map ruleD)), s11, .d (.lst (ys.map ruleD)), .d (.lst (nn.map ruleD)), .d SD, .un, .un, .un, s18, .un, .un] := by
    unfold p_law_14
    simp [-dI2c_ap, -dI2_ap, -mkD2, by1, bn1, hs]
  have s15 : p_law_15 [.d (.lst (ns.map .int)), .d L1, .d (.int (m : Int)), .d (.lst (rs.map ruleD)), .d L4, .d (.str z), .d (.int (many : Int)), .d (.lst (fs.map nD)), .d (.lst (cs.map nD)), .d (.lst (ks.map nD)), .d (.lst (ps.map ruleD)), s11, .d (.lst (ys.map ruleD)), .d (.lst (nn.map ruleD)), .d SD, .un, .un, .un, s18, .un, .un] = .nx [.d (.lst (ns.map .int)), .d L1, .d (.int (m : Int)), .d (.lst (rs.map ruleD)), .d L4, .d (.str z), .d (.int (many : Int)), .d (.lst (fs.map nD)), .d (.lst (cs.map nD)), .d (.lst (ks.map nD)), .d (.lst (ps.map ruleD)), s11, .d (.lst (ys.map ruleD)), .d (.lst (nn.map ruleD)), .d SD, .un, .un, .un, s18, .un, .un] := by
    unfold p_law_15
    simp [-dI2c_ap, -dI2_ap, fy, fn, by2, bn2, ny, nn2, cf, notn]
  have s16 : p_law_16 [.d (.lst (ns.map .int)), .d L1, .d (.int (m : Int)), .d (.lst (rs.map ruleD)), .d L4, .d (.str z), .d (.int (many : Int)), .d (.lst (fs.map nD)), .d (.lst (cs.map nD)), .d (.lst (ks.map nD)), .d (.lst (ps.map ruleD)), s11, .d (.lst (ys.map ruleD)), .d (.lst (nn.map ruleD)), .d SD, .un, .un, .un, s18, .un, .un] = .nx [.d (.lst (ns.map .int)), .d L1, .d (.int (m : Int)), .d (.lst (rs.map ruleD)), .d L4, .d (.str z), .d (.int (many : Int)), .d (.lst (fs.map nD)), .d (.lst (cs.map nD)), .d (.lst (ks.map nD)), .d (.lst (ps.map ruleD)), s11, .d (.lst (ys.map ruleD)), .d (.lst (nn.map ruleD)), .d SD, .d BK, .un, .un, s18, .un, .un] := by
    unfold p_law_16
    simp [-dI2c_ap, -dI2_ap, fb]
  have fin : t_law [.d (.lst (ns.map .int)), .d L1, .d (.int (m : Int)), .d (.lst (rs.map ruleD)), .d L4, .d (.str z), .d (.int (many : Int)), .d (.lst (fs.map nD)), .d (.lst (cs.map nD)), .d (.lst (ks.map nD)), .d (.lst (ps.map ruleD)), s11, .d (.lst (ys.map ruleD)), .d (.lst (nn.map ruleD)), .d SD, .d BK, .un, .un, s18, .un, .un] = .rt (.bl true) := by
    obtain ⟨s16, s19, tn⟩ := turns (.d (.lst (ns.map .int))) (.d L1) (.d (.int (many : Int))) (.d (.lst (fs.map nD))) (.d (.lst (cs.map nD))) (.d (.lst (ks.map nD))) s11 (.d BK) .un s18
    have itm : items L4 = .ok (mans.map manD) := by rw [hL4]; rfl
    have nlm : nlxs false ((mans.filter (fitB (2 ^ 2 ^ m) ys nn)).map manD) = true := by
      generalize mans.filter (fitB (2 ^ 2 ^ m) ys nn) = L
      induction L with
      | nil => rfl
      | cons x l ih => exact ih
    have lt8 : dLt (.int (many : Int)) (.int 8) = .ok (.bl (decide (many < 8))) := by
      show Res.ok (D.bl (decide ((many : Int) < 8))) = _
      congr 2
      rw [Bool.eq_iff_iff, decide_eq_true_eq, decide_eq_true_eq]
      omega
    have ned : dNe (.lst [.tup []]) (.lst [.tup []]) = .ok (.bl false) := by kernel_rfl
    have eq3 : dEq (.int (m : Int)) (.int 3) = .ok (.bl (decide (m = 3))) := dEq_nn m 3
    generalize (mans.filter (fitB (2 ^ 2 ^ m) ys nn)).map manD = FF at *
    generalize ys.map (fun _ => D.bl true) = TT at *
    generalize hYS : ys.map ruleD = YS at *
    generalize hNS : nn.map ruleD = NS at *
    generalize hPS : ps.map ruleD = PSS at *
    generalize hRS : rs.map ruleD = RSS at *
    unfold t_law
    by_cases h8 : many < 8
    · have dr := dr h8
      rw [decide_eq_true h8] at lt8
      by_cases h3 : m = 3
      · rw [decide_eq_true h3] at eq3
        simp [-dI2c_ap, -dI2_ap, -dI2b_ap, isn, bkn, nmm, bkr, bkl, sno, lall, okLen_le lyt, ball, tn, itm, l17, okLen_le fl8, fm, bt, nem, inm, lt8, dr, ned, eq3]
      · rw [decide_eq_false h3] at eq3
        have tb := tb (by omega)
        simp [-dI2c_ap, -dI2_ap, -dI2b_ap, isn, bkn, nmm, bkr, bkl, sno, lall, okLen_le lyt, ball, tn, itm, l17, okLen_le fl8, fm, bt, nem, inm, lt8, dr, ned, eq3, tb]
    · rw [decide_eq_false h8] at lt8
      by_cases h3 : m = 3
      · rw [decide_eq_true h3] at eq3
        simp [-dI2c_ap, -dI2_ap, -dI2b_ap, isn, bkn, nmm, bkr, bkl, sno, lall, okLen_le lyt, ball, tn, itm, l17, okLen_le fl8, fm, bt, nem, inm, lt8, eq3]
      · rw [decide_eq_false h3] at eq3
        have tb := tb (by omega)
        simp [-dI2c_ap, -dI2_ap, -dI2b_ap, isn, bkn, nmm, bkr, bkl, sno, lall, okLen_le lyt, ball, tn, itm, l17, okLen_le fl8, fm, bt, nem, inm, lt8, eq3, tb]
  unfold m_law mOf
  rw [g_law_cut]
  simp only [List.length_cons, List.length_nil, List.map_cons, List.map_nil]
  simp [-sAsg_ap, s1, s2, s3, s4, s5, s6, s7, s8, s9, s10, s11', s12, s13, s14, s15, s16, fin]
end K97
open PySem PySem.W PyProof.Rows in
set_option maxRecDepth 100000 in
set_option maxHeartbeats 0 in
theorem PySem.Challenge.cw_whatisdue_k97_whole_seen_told_back_holds : PySem.Challenge.rw_whatisdue_k97_whole_seen_told_back.Holds := by
  w_on; o_law; k_head; (case hw => w_witness2)
  k_fill
  refine L2.walk_ofB (l := PySem.Challenge.rw_whatisdue_k97_whole_seen_told_back) (n := 63) (k := 13) (x := "script") (CX := fun w => L2.CX PySem.Challenge.rw_whatisdue_k97_whole_seen_told_back.prog w) (sp := fun w => DL.spLaw _) rfl (by decide) rfl ⟨rfl, by decide, by decide⟩ (fun w h Y => PySem.W.kIn_of Y) ?F (fun _ _ a ns hl hb _ hS => ⟨a, ns, rfl, hS, hl, hb, fun _ => rfl⟩) (fun _ _ _ _ _ h => DL.cx_none h)
  case F =>
    intro w mg fa h KX G hmg
    refine' K97.all_mk KX G hmg ?aC_Seen ?aC_Book ?aC_Table ?a1 ?l1 ?c1 ?k1 ?a2 ?l2 ?c2 ?k2 ?a3 ?l3 ?c3 ?k3 ?a4 ?l4 ?c4 ?k4 ?a5 ?l5 ?c5 ?k5 ?a6 ?l6 ?c6 ?k6 ?a7 ?l7 ?c7 ?k7 ?a8 ?l8 ?c8 ?k8 ?a9 ?l9 ?c9 ?k9 ?i9 ?mk_Seen ?kc_Seen ?a10 ?l10 ?c10 ?k10 ?i10 ?mk_Book ?kc_Book ?a11 ?l11 ?c11 ?k11 ?a12 ?l12 ?c12 ?k12 ?a13 ?l13 ?c13 ?k13 ?i13 ?a14 ?l14 ?c14 ?k14 ?a15 ?l15 ?c15 ?k15 ?a16 ?l16 ?c16 ?k16 ?a17 ?l17 ?c17 ?k17 ?a18 ?l18 ?c18 ?k18 ?a19 ?l19 ?c19 ?k19 ?a20 ?l20 ?c20 ?k20 ?a21 ?l21 ?c21 ?k21 ?a22 ?l22 ?c22 ?k22 ?a23 ?l23 ?c23 ?k23 ?a24 ?l24 ?c24 ?k24 ?a25 ?l25 ?c25 ?k25 ?a26 ?l26 ?c26 ?k26 ?i26 ?a27 ?l27 ?c27 ?k27 ?a28 ?l28 ?c28 ?k28 ?a29 ?l29 ?c29 ?k29 ?a30 ?l30 ?c30 ?k30 ?a31 ?l31 ?c31 ?k31 ?a32 ?l32 ?c32 ?k32 ?a33 ?l33 ?c33 ?k33 ?a34 ?l34 ?c34 ?k34 ?a35 ?l35 ?c35 ?k35 ?a36 ?l36 ?c36 ?k36 ?a37 ?l37 ?c37 ?k37 ?a38 ?l38 ?c38 ?k38 ?i38 ?a39 ?l39 ?c39 ?k39 ?a40 ?l40 ?c40 ?k40 ?a41 ?l41 ?c41 ?k41 ?a42 ?l42 ?c42 ?k42 ?a43 ?l43 ?c43 ?k43 ?a44 ?l44 ?c44 ?k44 ?i44 ?pa_Book_size ?pb_Book_size ?pc_Book_size ?pd_Book_size ?l45 ?c45 ?k45 ?a46 ?l46 ?c46 ?k46 ?a47 ?l47 ?c47 ?k47 ?a48 ?l48 ?c48 ?k48 ?i48 ?mk_Table ?kc_Table ?a49 ?l49 ?c49 ?k49 ?a50 ?l50 ?c50 ?k50 ?a51 ?l51 ?c51 ?k51 ?pg_Seen ?hd_Seen ?po_Seen ?sa_Seen ?n_Seen_no ?n_Seen_yes ?n_Seen_n ?pg_Book ?hd_Book ?po_Book ?sa_Book ?n_Book_rules ?n_Book_n ?rd_Book ?ga_Book ?pg_Table ?hd_Table ?po_Table ?sa_Table ?n_Table_rows ?n_Table_n ?cv_Book_MOST_LETTERS ?cv_Book_MOST_RULES ?qa_MANNERS ?ql_MANNERS ?qt_MANNERS ?qz_MANNERS ?z_combinations ?qt_top ?qt_file ?th_any ?aC_BadCount ?xk_BadCount ?xe_BadCount ?xt_BadCount ?ix_BadCount ?lx_BadCount ?cx_BadCount ?lf_BadCount ?qt_f_BadCount ?lc_BadCount ?lo_BadCount ?qt_o_BadCount ?sx_BadCount ?ms_BadCount ?si_BadCount ?sb_BadCount ?tx_BadCount ?xn_BadCount_number ?aC_TooMany ?xk_TooMany ?xe_TooMany ?xt_TooMany ?ix_TooMany ?lx_TooMany ?cx_TooMany ?lf_TooMany ?qt_f_TooMany ?lc_TooMany ?lo_TooMany ?qt_o_TooMany ?sx_TooMany ?ms_TooMany ?si_TooMany ?sb_TooMany ?tx_TooMany ?xn_TooMany_limit ?aC_BadVerdict ?xk_BadVerdict ?xe_BadVerdict ?xt_BadVerdict ?ix_BadVerdict ?lx_BadVerdict ?cx_BadVerdict ?lf_BadVerdict ?qt_f_BadVerdict ?lc_BadVerdict ?lo_BadVerdict ?qt_o_BadVerdict ?sx_BadVerdict ?ms_BadVerdict ?si_BadVerdict ?sb_BadVerdict ?tx_BadVerdict ?xn_BadVerdict_number ?aC_BadRule ?xk_BadRule ?xe_BadRule ?xt_BadRule ?ix_BadRule ?lx_BadRule ?cx_BadRule ?lf_BadRule ?qt_f_BadRule ?lc_BadRule ?lo_BadRule ?qt_o_BadRule ?sx_BadRule ?ms_BadRule ?si_BadRule ?sb_BadRule ?tx_BadRule ?xn_BadRule_number ?aC_UnknownManner ?xk_UnknownManner ?xe_UnknownManner ?xt_UnknownManner ?ix_UnknownManner ?lx_UnknownManner ?cx_UnknownManner ?lf_UnknownManner ?qt_f_UnknownManner ?lc_UnknownManner ?lo_UnknownManner ?qt_o_UnknownManner ?sx_UnknownManner ?ms_UnknownManner ?si_UnknownManner ?sb_UnknownManner ?tx_UnknownManner ?xn_UnknownManner_manner ?aC_NoFit ?xk_NoFit ?xe_NoFit ?xt_NoFit ?ix_NoFit ?lx_NoFit ?cx_NoFit ?lf_NoFit ?qt_f_NoFit ?lc_NoFit ?lo_NoFit ?qt_o_NoFit ?sx_NoFit ?ms_NoFit ?si_NoFit ?sb_NoFit ?tx_NoFit ?xn_NoFit_number ?aC_BadTable ?xk_BadTable ?xe_BadTable ?xt_BadTable ?ix_BadTable ?lx_BadTable ?cx_BadTable ?lf_BadTable ?qt_f_BadTable ?lc_BadTable ?lo_BadTable ?qt_o_BadTable ?sx_BadTable ?ms_BadTable ?si_BadTable ?sb_BadTable ?tx_BadTable ?xn_BadTable_place ?kv_VERDICT_LIMIT ?kv_SELECTION_LIMIT ?kv_TABLE_LETTERS ?z_len ?z_int ?z_abs ?z_range ?z_enumerate ?z_tuple ?z_list ?z_iter ?z_any ?z_all ?z_isinstance ?z_str ?z_sorted ?z_reversed ?z_sum ?z_super K97.law_true
    (case aC_Seen => k_is)
    (case aC_Book => k_is)
    (case aC_Table => k_is)
    (case a1 => k_is)
    (case l1 => k_is)
    (case c1 => k_is)
    (case k1 => k_is)
    (case a2 => k_is)
    (case l2 => k_is)
    (case c2 => k_is)
    (case k2 => k_is)
    (case a3 => k_is)
    (case l3 => k_is)
    (case c3 => k_is)
    (case k3 => k_is)
    (case a4 => k_is)
    (case l4 => k_is)
    (case c4 => k_is)
    (case k4 => k_is)
    (case a5 => k_is)
    (case l5 => k_is)
    (case c5 => k_is)
    (case k5 => k_is)
    (case a6 => k_is)
    (case l6 => k_is)
    (case c6 => k_is)
    (case k6 => k_is)
    (case a7 => k_is)
    (case l7 => k_is)
    (case c7 => k_is)
    (case k7 => k_is)
    (case a8 => k_is)
    (case l8 => k_is)
    (case c8 => k_is)
    (case k8 => k_is)
    (case a9 => k_is)
    (case l9 => k_is)
    (case c9 => k_is)
    (case k9 => k_is)
    (case i9 => k_is)
    (case mk_Seen => k_is)
    (case kc_Seen => k_is)
    (case a10 => k_is)
    (case l10 => k_is)
    (case c10 => k_is)
    (case k10 => k_is)
    (case i10 => k_is)
    (case mk_Book => k_is)
    (case kc_Book => k_is)
    (case a11 => k_is)
    (case l11 => k_is)
    (case c11 => k_is)
    (case k11 => k_is)
    (case a12 => k_is)
    (case l12 => k_is)
    (case c12 => k_is)
    (case k12 => k_is)
    (case a13 => k_is)
    (case l13 => k_is)
    (case c13 => k_is)
    (case k13 => k_is)
    (case i13 => k_is)
    (case a14 => k_is)
    (case l14 => k_is)
    (case c14 => k_is)
    (case k14 => k_is)
    (case a15 => k_is)
    (case l15 => k_is)
    (case c15 => k_is)
    (case k15 => k_is)
    (case a16 => k_is)
    (case l16 => k_is)
    (case c16 => k_is)
    (case k16 => k_is)
    (case a17 => k_is)
    (case l17 => k_is)
    (case c17 => k_is)
    (case k17 => k_is)
    (case a18 => k_is)
    (case l18 => k_is)
    (case c18 => k_is)
    (case k18 => k_is)
    (case a19 => k_is)
    (case l19 => k_is)
    (case c19 => k_is)
    (case k19 => k_is)
    (case a20 => k_is)
    (case l20 => k_is)
    (case c20 => k_is)
    (case k20 => k_is)
    (case a21 => k_is)
    (case l21 => k_is)
    (case c21 => k_is)
    (case k21 => k_is)
    (case a22 => k_is)
    (case l22 => k_is)
    (case c22 => k_is)
    (case k22 => k_is)
    (case a23 => k_is)
    (case l23 => k_is)
    (case c23 => k_is)
    (case k23 => k_is)
    (case a24 => k_is)
    (case l24 => k_is)
    (case c24 => k_is)
    (case k24 => k_is)
    (case a25 => k_is)
    (case l25 => k_is)
    (case c25 => k_is)
    (case k25 => k_is)
    (case a26 => k_is)
    (case l26 => k_is)
    (case c26 => k_is)
    (case k26 => k_is)
    (case i26 => k_is)
    (case a27 => k_is)
    (case l27 => k_is)
    (case c27 => k_is)
    (case k27 => k_is)
    (case a28 => k_is)
    (case l28 => k_is)
    (case c28 => k_is)
    (case k28 => k_is)
    (case a29 => k_is)
    (case l29 => k_is)
    (case c29 => k_is)
    (case k29 => k_is)
    (case a30 => k_is)
    (case l30 => k_is)
    (case c30 => k_is)
    (case k30 => k_is)
    (case a31 => k_is)
    (case l31 => k_is)
    (case c31 => k_is)
    (case k31 => k_is)
    (case a32 => k_is)
    (case l32 => k_is)
    (case c32 => k_is)
    (case k32 => k_is)
    (case a33 => k_is)
    (case l33 => k_is)
    (case c33 => k_is)
    (case k33 => k_is)
    (case a34 => k_is)
    (case l34 => k_is)
    (case c34 => k_is)
    (case k34 => k_is)
    (case a35 => k_is)
    (case l35 => k_is)
    (case c35 => k_is)
    (case k35 => k_is)
    (case a36 => k_is)
    (case l36 => k_is)
    (case c36 => k_is)
    (case k36 => k_is)
    (case a37 => k_is)
    (case l37 => k_is)
    (case c37 => k_is)
    (case k37 => k_is)
    (case a38 => k_is)
    (case l38 => k_is)
    (case c38 => k_is)
    (case k38 => k_is)
    (case i38 => k_is)
    (case a39 => k_is)
    (case l39 => k_is)
    (case c39 => k_is)
    (case k39 => k_is)
    (case a40 => k_is)
    (case l40 => k_is)
    (case c40 => k_is)
    (case k40 => k_is)
    (case a41 => k_is)
    (case l41 => k_is)
    (case c41 => k_is)
    (case k41 => k_is)
    (case a42 => k_is)
    (case l42 => k_is)
    (case c42 => k_is)
    (case k42 => k_is)
    (case a43 => k_is)
    (case l43 => k_is)
    (case c43 => k_is)
    (case k43 => k_is)
    (case a44 => k_is)
    (case l44 => k_is)
    (case c44 => k_is)
    (case k44 => k_is)
    (case i44 => k_is)
    (case pa_Book_size => k_is)
    (case pb_Book_size => k_is)
    (case pc_Book_size => k_is)
    (case pd_Book_size => k_is)
    (case l45 => k_is)
    (case c45 => k_is)
    (case k45 => k_is)
    (case a46 => k_is)
    (case l46 => k_is)
    (case c46 => k_is)
    (case k46 => k_is)
    (case a47 => k_is)
    (case l47 => k_is)
    (case c47 => k_is)
    (case k47 => k_is)
    (case a48 => k_is)
    (case l48 => k_is)
    (case c48 => k_is)
    (case k48 => k_is)
    (case i48 => k_is)
    (case mk_Table => k_is)
    (case kc_Table => k_is)
    (case a49 => k_is)
    (case l49 => k_is)
    (case c49 => k_is)
    (case k49 => k_is)
    (case a50 => k_is)
    (case l50 => k_is)
    (case c50 => k_is)
    (case k50 => k_is)
    (case a51 => k_is)
    (case l51 => k_is)
    (case c51 => k_is)
    (case k51 => k_is)
    (case pg_Seen => k_is)
    (case hd_Seen => k_is)
    (case po_Seen => k_is)
    (case sa_Seen => k_is)
    (case n_Seen_no => k_is)
    (case n_Seen_yes => k_is)
    (case n_Seen_n => k_is)
    (case pg_Book => k_is)
    (case hd_Book => k_is)
    (case po_Book => k_is)
    (case sa_Book => k_is)
    (case n_Book_rules => k_is)
    (case n_Book_n => k_is)
    (case rd_Book => k_is)
    (case ga_Book => k_is)
    (case pg_Table => k_is)
    (case hd_Table => k_is)
    (case po_Table => k_is)
    (case sa_Table => k_is)
    (case n_Table_rows => k_is)
    (case n_Table_n => k_is)
    (case cv_Book_MOST_LETTERS => k_is)
    (case cv_Book_MOST_RULES => k_is)
    (case qa_MANNERS => k_is)
    (case ql_MANNERS => k_is)
    (case qt_MANNERS => rfl)
    (case qz_MANNERS => decide)
    (case z_combinations => k_is)
    (case qt_top => rfl)
    (case qt_file => rfl)
    (case th_any => k_is)
    (case aC_BadCount => k_is)
    (case xk_BadCount => k_is)
    (case xe_BadCount => k_is)
    (case xt_BadCount => k_is)
    (case ix_BadCount => k_is)
    (case lx_BadCount => k_is)
    (case cx_BadCount => k_is)
    (case lf_BadCount => k_is)
    (case qt_f_BadCount => rfl)
    (case lc_BadCount => k_is)
    (case lo_BadCount => k_is)
    (case qt_o_BadCount => rfl)
    (case sx_BadCount => k_is)
    (case ms_BadCount => k_is)
    (case si_BadCount => ks_is)
    (case sb_BadCount => k_is)
    (case tx_BadCount => k_is)
    (case xn_BadCount_number => k_is)
    (case aC_TooMany => k_is)
    (case xk_TooMany => k_is)
    (case xe_TooMany => k_is)
    (case xt_TooMany => k_is)
    (case ix_TooMany => k_is)
    (case lx_TooMany => k_is)
    (case cx_TooMany => k_is)
    (case lf_TooMany => k_is)
    (case qt_f_TooMany => rfl)
    (case lc_TooMany => k_is)
    (case lo_TooMany => k_is)
    (case qt_o_TooMany => rfl)
    (case sx_TooMany => k_is)
    (case ms_TooMany => k_is)
    (case si_TooMany => ks_is)
    (case sb_TooMany => k_is)
    (case tx_TooMany => k_is)
    (case xn_TooMany_limit => k_is)
    (case aC_BadVerdict => k_is)
    (case xk_BadVerdict => k_is)
    (case xe_BadVerdict => k_is)
    (case xt_BadVerdict => k_is)
    (case ix_BadVerdict => k_is)
    (case lx_BadVerdict => k_is)
    (case cx_BadVerdict => k_is)
    (case lf_BadVerdict => k_is)
    (case qt_f_BadVerdict => rfl)
    (case lc_BadVerdict => k_is)
    (case lo_BadVerdict => k_is)
    (case qt_o_BadVerdict => rfl)
    (case sx_BadVerdict => k_is)
    (case ms_BadVerdict => k_is)
    (case si_BadVerdict => ks_is)
    (case sb_BadVerdict => k_is)
    (case tx_BadVerdict => k_is)
    (case xn_BadVerdict_number => k_is)
    (case aC_BadRule => k_is)
    (case xk_BadRule => k_is)
    (case xe_BadRule => k_is)
    (case xt_BadRule => k_is)
    (case ix_BadRule => k_is)
    (case lx_BadRule => k_is)
    (case cx_BadRule => k_is)
    (case lf_BadRule => k_is)
    (case qt_f_BadRule => rfl)
    (case lc_BadRule => k_is)
    (case lo_BadRule => k_is)
    (case qt_o_BadRule => rfl)
    (case sx_BadRule => k_is)
    (case ms_BadRule => k_is)
    (case si_BadRule => ks_is)
    (case sb_BadRule => k_is)
    (case tx_BadRule => k_is)
    (case xn_BadRule_number => k_is)
    (case aC_UnknownManner => k_is)
    (case xk_UnknownManner => k_is)
    (case xe_UnknownManner => k_is)
    (case xt_UnknownManner => k_is)
    (case ix_UnknownManner => k_is)
    (case lx_UnknownManner => k_is)
    (case cx_UnknownManner => k_is)
    (case lf_UnknownManner => k_is)
    (case qt_f_UnknownManner => rfl)
    (case lc_UnknownManner => k_is)
    (case lo_UnknownManner => k_is)
    (case qt_o_UnknownManner => rfl)
    (case sx_UnknownManner => k_is)
    (case ms_UnknownManner => k_is)
    (case si_UnknownManner => ks_is)
    (case sb_UnknownManner => k_is)
    (case tx_UnknownManner => k_is)
    (case xn_UnknownManner_manner => k_is)
    (case aC_NoFit => k_is)
    (case xk_NoFit => k_is)
    (case xe_NoFit => k_is)
    (case xt_NoFit => k_is)
    (case ix_NoFit => k_is)
    (case lx_NoFit => k_is)
    (case cx_NoFit => k_is)
    (case lf_NoFit => k_is)
    (case qt_f_NoFit => rfl)
    (case lc_NoFit => k_is)
    (case lo_NoFit => k_is)
    (case qt_o_NoFit => rfl)
    (case sx_NoFit => k_is)
    (case ms_NoFit => k_is)
    (case si_NoFit => ks_is)
    (case sb_NoFit => k_is)
    (case tx_NoFit => k_is)
    (case xn_NoFit_number => k_is)
    (case aC_BadTable => k_is)
    (case xk_BadTable => k_is)
    (case xe_BadTable => k_is)
    (case xt_BadTable => k_is)
    (case ix_BadTable => k_is)
    (case lx_BadTable => k_is)
    (case cx_BadTable => k_is)
    (case lf_BadTable => k_is)
    (case qt_f_BadTable => rfl)
    (case lc_BadTable => k_is)
    (case lo_BadTable => k_is)
    (case qt_o_BadTable => rfl)
    (case sx_BadTable => k_is)
    (case ms_BadTable => k_is)
    (case si_BadTable => ks_is)
    (case sb_BadTable => k_is)
    (case tx_BadTable => k_is)
    (case xn_BadTable_place => k_is)
    (case kv_VERDICT_LIMIT => k_is)
    (case kv_SELECTION_LIMIT => k_is)
    (case kv_TABLE_LETTERS => k_is)
    (case z_len => k_is)
    (case z_int => k_is)
    (case z_abs => k_is)
    (case z_range => k_is)
    (case z_enumerate => k_is)
    (case z_tuple => k_is)
    (case z_list => k_is)
    (case z_iter => k_is)
    (case z_any => k_is)
    (case z_all => k_is)
    (case z_isinstance => k_is)
    (case z_str => k_is)
    (case z_sorted => k_is)
    (case z_reversed => k_is)
    (case z_sum => k_is)
    (case z_super => k_is)
