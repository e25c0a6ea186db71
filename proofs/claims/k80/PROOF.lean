import PyProof.Rows.All
import Wide.All
import OpenK.AllK
import Wide.FinOn
import HandS.ForMost
import HandS.ForExc
import HandS.CallSlots
import HandS.IsInst
import HandS.StrMore
import HandS.Deep
import HandS.Rev
import HandS.ClsMeth
import HandS.Property
import HandS.TupAny
import HandS.IterVal
import HandS.GenList
import HandS.GenYield
import HandS.OwnIter
import HandS.GenBody
import HandS.GenCall
import HandS.Iter
import HandS.Exc
import HandS.ExcField
import HandS.ExcIs
import KE.KExcIs
import HandS.Nested
import HandS.ExcInit
import HandS.ExcOwn
import HandS.ExcSuper
import KE.KExcSuper
import HandS.TupSets
import KE.KeyNested
import HandS.SetBool
import KE.SortCalls
import HandS.Conv
import HandS.Sort
import HandS.RevRange
import HandS.TupLe
import HandS.Defaults
import HandS.Star
import KE.GoesMore
import HandS.GenOver
import HandS.Text
import HandS.EndBits
import PySem.Challenge.RW_whatisdue_k80_whole_blame_of_least_group
set_option Elab.async false
set_option linter.all false
set_option maxRecDepth 100000
set_option maxHeartbeats 1000000
/-! DL1: values as data (no heap), what represents them, and the readings of expressions by plain functions. -/
namespace DL
open PySem PySem.Spec PyProof.Rows L2

/-- a value as plain data -/
inductive D where
  | non | bl (b : Bool) | int (i : Int) | str (x : Str)
  | tup (xs : List D) | lst (xs : List D) | obj (c : Str) (ns : List Str) (fs : List D)
  deriving Inhabited

structure Exn where
  c : Str
  ns : List Str
  fs : List D

inductive Res (α : Type) where
  | ok (a : α) | er (x : Exn) | st
def Res.bind {α β : Type} (r : Res α) (g : α → Res β) : Res β := match r with
  | .ok a => g a
  | .er x => .er x
  | .st => .st

/-- what a slot holds: nothing that is known, a value that stands still, a list of the def's own that may change, an instance of its own; t: it came in that slot at the entry -/
inductive Slot where
  | un | d (v : D) | own (t : Bool) (xs : List D) | obo (t : Bool) (c : Str) (ns : List Str) (fs : List D) | exc (x : Exn)
def Slot.val : Slot → Option D
  | .un => none
  | .d v => some v
  | .own _ xs => some (.lst xs)
  | .obo _ c ns fs => some (.obj c ns fs)
  | .exc _ => none
abbrev DEnv := List Slot
/-- the exception that an except clause holds: where, its class, its fields -/
abbrev EXP := Option (Addr × Value × Option Addr)
/-- what is wished of an exception; what is at hand of a caught one -/
structure WeX where
  w : WX
  ex : EXP := none
instance : CoeFun WeX (fun _ => WX) := ⟨WeX.w⟩
instance : Coe WeX WX := ⟨WeX.w⟩

mutual
inductive Rep (K : PySem.W.Frag) (mg : Str → Option Value) (F : Hp) : V → D → Prop
  | non : Rep K mg F .non .non
  | bl (b : Bool) : Rep K mg F (.bl b) (.bl b)
  | int (i : Int) : Rep K mg F (.int i) (.int i)
  | str (x : Str) : Rep K mg F (.str x) (.str x)
  | lst {a : Addr} {xs : List V} {ds : List D} : SqL K F a xs → RepAll K mg F xs ds → Rep K mg F (.ref a) (.lst ds)
  | tup {a : Addr} {xs : List V} {ds : List D} : SqT K F a xs → RepAll K mg F xs ds → Rep K mg F (.ref a) (.tup ds)
  | obj {a C dx : Addr} {c : Str} {ns : List Str} {fs : List (Str × V)} {ds : List D} : mg c = some (.ref C) → F a = some (.ins C dx fs) → fs.map (·.1) = ns → RepAll K mg F (fs.map (·.2)) ds → Rep K mg F (.ref a) (.obj c ns ds)
inductive RepAll (K : PySem.W.Frag) (mg : Str → Option Value) (F : Hp) : List V → List D → Prop
  | nil : RepAll K mg F [] []
  | cons {v : V} {vs : List V} {d : D} {ds : List D} : Rep K mg F v d → RepAll K mg F vs ds → RepAll K mg F (v :: vs) (d :: ds)
end

mutual
/-- no list within; b: no instance either -/
def D.nlx (b : Bool) : D → Bool
  | .lst _ => false
  | .tup xs => nlxs b xs
  | .obj _ _ fs => !b && nlxs b fs
  | _ => true
def nlxs (b : Bool) : List D → Bool
  | [] => true
  | d :: ds => d.nlx b && nlxs b ds
end

section
variable {K : PySem.W.Frag} {mg : Str → Option Value}
mutual
theorem Rep.mono {F F' : Hp} (e : Same F F') : ∀ (d : D) (v : V), Rep K mg F v d → Rep K mg F' v d
  | .non, _, h => by cases h; exact .non
  | .bl b, _, h => by cases h; exact .bl b
  | .int i, _, h => by cases h; exact .int i
  | .str x, _, h => by cases h; exact .str x
  | .lst ds, _, h => by
    cases h with
    | lst a b => exact .lst (e.seq a) (RepAll.mono e ds _ b)
  | .tup ds, _, h => by
    cases h with
    | tup a b =>
      refine .tup ?_ (RepAll.mono e ds _ b)
      rcases a with (a | ⟨o, a⟩) | a
      · exact .inl (.inl (e _ _ a))
      · exact .inl (.inr ⟨o, e _ _ a⟩)
      · exact .inr a
  | .obj c ns ds, _, h => by
    cases h with
    | obj a b n r => exact .obj a (e _ _ b) n (RepAll.mono e ds _ r)
theorem RepAll.mono {F F' : Hp} (e : Same F F') : ∀ (ds : List D) (vs : List V), RepAll K mg F vs ds → RepAll K mg F' vs ds
  | [], _, h => by cases h; exact .nil
  | d :: ds, _, h => by
    cases h with
    | cons a b => exact .cons (Rep.mono e d _ a) (RepAll.mono e ds _ b)
end
/-- lists taken away; b: instances too -/
def LessL (b : Bool) (F F' : Hp) : Prop := ∀ p o, F p = some o → ((∃ xs, o = .lst xs) ∨ (b = true ∧ ∃ C dx fs, o = .ins C dx fs)) ∨ F' p = some o
mutual
theorem Rep.less {b : Bool} {F F' : Hp} (e : LessL b F F') : ∀ (d : D) (v : V), d.nlx b = true → Rep K mg F v d → Rep K mg F' v d
  | .non, _, _, h => by cases h; exact .non
  | .bl b, _, _, h => by cases h; exact .bl b
  | .int i, _, _, h => by cases h; exact .int i
  | .str x, _, _, h => by cases h; exact .str x
  | .lst ds, _, n, h => by
    have : false = true := n
    cases this
  | .tup ds, _, n, h => by
    cases h with
    | tup a c =>
      refine .tup ?_ (RepAll.less e ds _ n c)
      rcases a with (a | ⟨o, a⟩) | a
      · rcases e _ _ a with (⟨xs, q⟩ | ⟨_, _, _, _, q⟩) | q
        · cases q
        · cases q
        · exact .inl (.inl q)
      · rcases e _ _ a with (⟨xs, q⟩ | ⟨_, _, _, _, q⟩) | q
        · cases q
        · cases q
        · exact .inl (.inr ⟨o, q⟩)
      · exact .inr a
  | .obj c ns ds, _, n, h => by
    have n : (!b && nlxs b ds) = true := n
    rw [Bool.and_eq_true, Bool.not_eq_true'] at n
    cases h with
    | obj a c m r =>
      rcases e _ _ c with (⟨xs, q⟩ | ⟨q, _⟩) | q
      · cases q
      · rw [n.1] at q; cases q
      · exact .obj a q m (RepAll.less e ds _ n.2 r)
theorem RepAll.less {b : Bool} {F F' : Hp} (e : LessL b F F') : ∀ (ds : List D) (vs : List V), nlxs b ds = true → RepAll K mg F vs ds → RepAll K mg F' vs ds
  | [], _, _, h => by cases h; exact .nil
  | d :: ds, _, n, h => by
    have n' : (d.nlx b && nlxs b ds) = true := n
    rw [Bool.and_eq_true] at n'
    cases h with
    | cons a c => exact .cons (Rep.less e d _ n'.1 a) (RepAll.less e ds _ n'.2 c)
end
theorem RepAll.length {F : Hp} : ∀ {vs : List V} {ds : List D}, RepAll K mg F vs ds → vs.length = ds.length
  | [], [], _ => rfl
  | [], _ :: _, h => by cases h
  | _ :: _, [], h => by cases h
  | _ :: _, _ :: _, h => by
    cases h with
    | cons a b => rw [List.length_cons, List.length_cons, RepAll.length b]
theorem RepAll.get {F : Hp} : ∀ {vs : List V} {ds : List D} {i : Nat} {d : D}, RepAll K mg F vs ds → ds[i]? = some d → ∃ v, vs[i]? = some v ∧ Rep K mg F v d
  | [], [], _, _, _, e => by simp at e
  | [], _ :: _, _, _, h, _ => by cases h
  | _ :: _, [], _, _, h, _ => by cases h
  | _ :: _, _ :: _, 0, _, h, e => by
    cases h with
    | cons a b => simp at e; subst e; exact ⟨_, rfl, a⟩
  | _ :: _, _ :: _, i + 1, _, h, e => by
    cases h with
    | cons a b =>
      obtain ⟨v, h1, h2⟩ := RepAll.get (i := i) b (by simpa using e)
      exact ⟨v, by simpa using h1, h2⟩
theorem RepAll.append {F : Hp} : ∀ {vs us : List V} {ds es : List D}, RepAll K mg F vs ds → RepAll K mg F us es → RepAll K mg F (vs ++ us) (ds ++ es)
  | [], _, [], _, _, s => s
  | [], _, _ :: _, _, h, _ => by cases h
  | _ :: _, _, [], _, h, _ => by cases h
  | _ :: _, _, _ :: _, _, h, s => by
    cases h with
    | cons a b => exact .cons a (RepAll.append b s)
theorem RepAll.take {F : Hp} : ∀ {vs : List V} {ds : List D} (n : Nat), RepAll K mg F vs ds → RepAll K mg F (vs.take n) (ds.take n)
  | _, _, 0, _ => by simpa using RepAll.nil
  | [], [], _ + 1, _ => .nil
  | [], _ :: _, _ + 1, h => by cases h
  | _ :: _, [], _ + 1, h => by cases h
  | _ :: _, _ :: _, n + 1, h => by
    cases h with
    | cons a b => exact .cons a (RepAll.take n b)
theorem RepAll.drop {F : Hp} : ∀ {vs : List V} {ds : List D} (n : Nat), RepAll K mg F vs ds → RepAll K mg F (vs.drop n) (ds.drop n)
  | _, _, 0, h => h
  | [], [], _ + 1, _ => .nil
  | [], _ :: _, _ + 1, h => by cases h
  | _ :: _, [], _ + 1, h => by cases h
  | _ :: _, _ :: _, n + 1, h => by
    cases h with
    | cons a b => exact RepAll.drop n b
theorem RepAll.set {F : Hp} {v : V} {d : D} (r : Rep K mg F v d) : ∀ {vs : List V} {ds : List D} (i : Nat), RepAll K mg F vs ds → RepAll K mg F (vs.set i v) (ds.set i d)
  | [], [], _, _ => .nil
  | [], _ :: _, _, h => by cases h
  | _ :: _, [], _, h => by cases h
  | _ :: _, _ :: _, 0, h => by
    cases h with
    | cons a b => exact .cons r b
  | _ :: _, _ :: _, i + 1, h => by
    cases h with
    | cons a b => exact .cons a (RepAll.set r i b)
theorem RepAll.reverse {F : Hp} : ∀ {vs : List V} {ds : List D}, RepAll K mg F vs ds → RepAll K mg F vs.reverse ds.reverse
  | [], [], _ => .nil
  | [], _ :: _, h => by cases h
  | _ :: _, [], h => by cases h
  | _ :: _, _ :: _, h => by
    cases h with
    | cons a b =>
      rw [List.reverse_cons, List.reverse_cons]
      exact RepAll.append (RepAll.reverse b) (.cons a .nil)
theorem RepAll.one {F : Hp} {vs : List V} {d : D} (h : RepAll K mg F vs [d]) : ∃ v, vs = [v] ∧ Rep K mg F v d := by
  cases h with
  | cons a b => cases b; exact ⟨_, rfl, a⟩
theorem RepAll.two {F : Hp} {vs : List V} {d e : D} (h : RepAll K mg F vs [d, e]) : ∃ v u, vs = [v, u] ∧ Rep K mg F v d ∧ Rep K mg F u e := by
  cases h with
  | cons a b =>
    cases b with
    | cons a' b' => cases b'; exact ⟨_, _, rfl, a, a'⟩
end

/-! ### the heap grows -/
/-- from (F, H): F what stands still, H all that is tracked -/
def Ext (F H F' H' : Hp) : Prop := Same F F' ∧ Same F' H' ∧ Same H H' ∧ ∀ p o, H p = some o → F' p = F p
section
variable {F H F1 H1 F2 H2 : Hp} {p : Addr} {o : HO}
theorem Ext.refl (h : Same F H) : Ext F H F H := ⟨Same.refl F, h, Same.refl H, fun _ _ _ => rfl⟩
theorem Ext.trans (a : Ext F H F1 H1) (b : Ext F1 H1 F2 H2) : Ext F H F2 H2 :=
  ⟨a.1.trans b.1, b.2.1, a.2.2.1.trans b.2.2.1, fun p o h => (b.2.2.2 p o (a.2.2.1 p o h)).trans (a.2.2.2 p o h)⟩
theorem same_upd (n : H p = none) : Same H (upd H p o) := fun b x e => by
  rw [upd_ne (ne_of_none e n)]
  exact e
theorem Ext.new (h : Same F H) (n : H p = none) : Ext F H (upd F p o) (upd H p o) := by
  refine ⟨same_upd (h.free n), fun b x e => ?_, same_upd n, fun b x e => ?_⟩
  · by_cases z : b = p
    · subst z; rw [upd_same] at e ⊢; exact e
    · rw [upd_ne z] at e ⊢; exact h _ _ e
  · exact upd_ne (ne_of_none e n)
/-- a new object that is not frozen -/
theorem Ext.new0 (h : Same F H) (n : H p = none) : Ext F H F (upd H p o) :=
  ⟨Same.refl F, h.trans (same_upd n), same_upd n, fun _ _ _ => rfl⟩
end

/-! ### what comes out -/
def XFs (K : PySem.W.Frag) (mg : Str → Option Value) (H H' : Hp) (d : Option Addr) (ns : List Str) (fs : List D) : Prop :=
  (ns = [] ∧ d = none) ∨ ∃ dx fv, d = some dx ∧ H dx = none ∧ H' dx = some (.xd fv) ∧ fv.map (·.1) = ns ∧ RepAll K mg (fun _ => none) (fv.map (·.2)) fs
theorem XFs.back {K : PySem.W.Frag} {mg : Str → Option Value} {H H1 H' : Hp} {d : Option Addr} {ns : List Str} {fs : List D} (e : Same H H1) (x : XFs K mg H1 H' d ns fs) : XFs K mg H H' d ns fs := by
  rcases x with x | ⟨dx, fv, e1, e2, r⟩
  · exact .inl x
  · exact .inr ⟨dx, fv, e1, e.free e2, r⟩

def Out (K : PySem.W.Frag) (mg : Str → Option Value) {α β : Type} (We : WeX) (R : Hp → Hp → Hp → α → β → Prop) (F H : Hp) (σ : L2.St) (Q : α → Hp → Prop) : Res β → Prop
  | .ok d => ∀ F' H' v, Ext F H F' H' → R H F' H' v d → Q v H'
  | .er x => ∀ C d H', Same H H' → mg x.c = some (.ref C) → XFs K mg H H' d x.ns x.fs → We (.ref C) d σ H'
  | .st => False
abbrev RD (K : PySem.W.Frag) (mg : Str → Option Value) : Hp → Hp → Hp → V → D → Prop := fun _ F' _ v d => Rep K mg F' v d
abbrev RDs (K : PySem.W.Frag) (mg : Str → Option Value) : Hp → Hp → Hp → List V → List D → Prop := fun _ F' _ v d => RepAll K mg F' v d
abbrev RB : Hp → Hp → Hp → Bool → Bool → Prop := fun _ _ _ v d => v = d
/-- a new list -/
def RF (K : PySem.W.Frag) (mg : Str → Option Value) : Hp → Hp → Hp → V → List D → Prop := fun H F' H' v xs =>
  ∃ p vs, v = .ref p ∧ H p = none ∧ F' p = none ∧ H' p = some (.lst vs) ∧ RepAll K mg F' vs xs
class Anti {α β : Type} (R : Hp → Hp → Hp → α → β → Prop) : Prop where
  anti : ∀ {H H1 F' H' : Hp} {v : α} {d : β}, Same H H1 → R H1 F' H' v d → R H F' H' v d
instance {K : PySem.W.Frag} {mg : Str → Option Value} : Anti (RD K mg) := ⟨fun _ h => h⟩
instance {K : PySem.W.Frag} {mg : Str → Option Value} : Anti (RDs K mg) := ⟨fun _ h => h⟩
instance : Anti RB := ⟨fun _ h => h⟩
instance {K : PySem.W.Frag} {mg : Str → Option Value} : Anti (RF K mg) := ⟨fun e ⟨p, vs, h1, h2, h3⟩ => ⟨p, vs, h1, e.free h2, h3⟩⟩
section
variable {K : PySem.W.Frag} {mg : Str → Option Value} {α β γ δ : Type} {We : WeX} {R : Hp → Hp → Hp → α → β → Prop} {T : Hp → Hp → Hp → γ → δ → Prop} {F H F1 H1 : Hp} {σ : L2.St} {Q : α → Hp → Prop} {Q' : γ → Hp → Prop}
theorem Out.mono [Anti R] {r : Res β} (h : Out K mg We R F H σ Q r) (e : Ext F H F1 H1) : Out K mg We R F1 H1 σ Q r := by
  cases r with
  | ok d => exact fun F' H' v e' q => h F' H' v (e.trans e') (Anti.anti e.2.2.1 q)
  | er x => exact fun C d H' e' m q => h C d H' (e.2.2.1.trans e') m (q.back e.2.2.1)
  | st => exact h
theorem Out.bind [Anti R] {r : Res δ} {g : δ → Res β} (h : Out K mg We R F H σ Q (r.bind g)) (k : ∀ d F1 H1 v, Ext F H F1 H1 → T H F1 H1 v d → Out K mg We R F1 H1 σ Q (g d) → Q' v H1) : Out K mg We T F H σ Q' r := by
  cases r with
  | ok d => exact fun F' H' v e' q => k d F' H' v e' q (Out.mono (R := R) h e')
  | er x => exact h
  | st => exact h
theorem Out.imp {r : Res β} {Q1 : α → Hp → Prop} (h : Out K mg We R F H σ Q r) (k : ∀ F' H' v d, Ext F H F' H' → R H F' H' v d → Q v H' → Q1 v H') : Out K mg We R F H σ Q1 r := by
  cases r with
  | ok d => exact fun F' H' v e' q => k F' H' v d e' q (h F' H' v e' q)
  | er x => exact h
  | st => exact h
end

/-! ### the slots as data -/
def ExcOk (K : PySem.W.Frag) (mg : Str → Option Value) (ex : EXP) (F : Hp) (y : Option (Option V)) (x : Exn) : Prop :=
  ∃ (a C : Addr) (d : Option Addr), ex = some (a, .ref C, d) ∧ y = some (some (.ref a)) ∧ mg x.c = some (.ref C) ∧ ((x.ns = [] ∧ d = none) ∨ ∃ dx fv, d = some dx ∧ F dx = some (.xd fv) ∧ fv.map (·.1) = x.ns ∧ RepAll K mg (fun _ => none) (fv.map (·.2)) x.fs)
theorem ExcOk.mono {K : PySem.W.Frag} {mg : Str → Option Value} {ex : EXP} {F F' : Hp} {y : Option (Option V)} {x : Exn} (h : ExcOk K mg ex F y x) (e : Same F F') : ExcOk K mg ex F' y x := by
  obtain ⟨a, C, d, h1, h2, h3, h4⟩ := h
  refine ⟨a, C, d, h1, h2, h3, ?_⟩
  rcases h4 with h4 | ⟨dx, fv, k1, k2, k3⟩
  · exact .inl h4
  · exact .inr ⟨dx, fv, k1, e _ _ k2, k3⟩
def EnvE (K : PySem.W.Frag) (mg : Str → Option Value) (ex : EXP) (S : List Nat) (F : Hp) (σ : L2.St) (ρ : DEnv) : Prop :=
  σ.length = ρ.length ∧ (∀ i ∈ S, ∀ s d, ρ[i]? = some s → s.val = some d → ∃ v, σ[i]? = some (some v) ∧ Rep K mg F v d) ∧ ∀ i ∈ S, ∀ x, ρ[i]? = some (.exc x) → ExcOk K mg ex F σ[i]? x
section
variable {K : PySem.W.Frag} {mg : Str → Option Value} {ex : EXP} {S T : List Nat} {F F' : Hp} {σ : L2.St} {ρ : DEnv}
theorem EnvE.mono (h : EnvE K mg ex S F σ ρ) (e : Same F F') : EnvE K mg ex S F' σ ρ := ⟨h.1, fun i hi s d a b => by
  obtain ⟨v, q, r⟩ := h.2.1 i hi s d a b
  exact ⟨v, q, r.mono e⟩, fun i hi x q => (h.2.2 i hi x q).mono e⟩
theorem EnvE.sub (h : EnvE K mg ex T F σ ρ) (e : ∀ i ∈ S, i ∈ T) : EnvE K mg ex S F σ ρ := ⟨h.1, fun i hi => h.2.1 i (e i hi), fun i hi => h.2.2 i (e i hi)⟩
theorem EnvE.l (h : EnvE K mg ex (S ++ T) F σ ρ) : EnvE K mg ex S F σ ρ := h.sub fun _ q => List.mem_append_left _ q
theorem EnvE.r (h : EnvE K mg ex (S ++ T) F σ ρ) : EnvE K mg ex T F σ ρ := h.sub fun _ q => List.mem_append_right _ q
end
/-- the reading of a function of the slots -/
def tG (K : PySem.W.Frag) (mg : Str → Option Value) {α β : Type} (We : WeX) (R : Hp → Hp → Hp → α → β → Prop) (S : List Nat) (f : DEnv → Res β) : L2.St → Hp → (α → Hp → Prop) → Prop := fun σ H Q =>
  ∃ F ρ, Same F H ∧ EnvE K mg We.ex S F σ ρ ∧ Out K mg We R F H σ Q (f ρ)

abbrev PD (X : Cx) (We : WeX) (S : List Nat) (e : PySem.Expr) (f : DEnv → Res D) : Prop := PE X e (tG X.K X.mg We (RD X.K X.mg) S f)
abbrev PF (X : Cx) (We : WeX) (S : List Nat) (e : PySem.Expr) (f : DEnv → Res (List D)) : Prop := PE X e (tG X.K X.mg We (RF X.K X.mg) S f)
abbrev PTD (X : Cx) (We : WeX) (S : List Nat) (e : PySem.Expr) (f : DEnv → Res Bool) : Prop := PT X e (tG X.K X.mg We RB S f)
abbrev PWD (X : Cx) (We : WeX) (S : List Nat) (e : PySem.Expr) (f : DEnv → Res Bool) : Prop := PW X e (tG X.K X.mg We RB S f)
abbrev PAD (X : Cx) (We : WeX) (S : List Nat) (es : List PySem.Expr) (f : DEnv → Res (List D)) : Prop := PA X es (tG X.K X.mg We (RDs X.K X.mg) S f)

section
variable {X : Cx} {e : PySem.Expr} {es : List PySem.Expr}
theorem pe_imp {t t' : TE} (h : PE X e t) (i : ∀ σ H Q, t' σ H Q → t σ H Q) : PE X e t' := ⟨fun pins s σ H Q I q => h.run pins s σ H Q I (i σ H Q q)⟩
theorem pt_imp {t t' : TT} (h : PT X e t) (i : ∀ σ H Q, t' σ H Q → t σ H Q) : PT X e t' := ⟨fun pins s σ H Q I q => h.run pins s σ H Q I (i σ H Q q)⟩
theorem pw_imp {t t' : TT} (h : PW X e t) (i : ∀ σ H Q, t' σ H Q → t σ H Q) : PW X e t' := ⟨fun wh pins s σ H Q I q => h.run wh pins s σ H Q I (i σ H Q q)⟩
theorem pa_imp {t t' : TA} (h : PA X es t) (i : ∀ σ H Q, t' σ H Q → t σ H Q) : PA X es t' := ⟨fun pos pins s σ H Q I q => h.run pos pins s σ H Q I (i σ H Q q)⟩
theorem ps_imp {st : Stmt} {t t' : TS} (h : PS X st t) (i : ∀ D σ H, t' D σ H → t D σ H) : PS X st t' := ⟨fun pins s σ H D I q => h.run pins s σ H D I (i D σ H q)⟩
theorem pss_imp {st : List Stmt} {t t' : TS} (h : PSs X st t) (i : ∀ D σ H, t' D σ H → t D σ H) : PSs X st t' := ⟨fun pins s σ H D I q => h.run pins s σ H D I (i D σ H q)⟩
end

/-! ### names, constants -/
def eVar (i : Nat) : DEnv → Res D := fun ρ => match ρ[i]? with
  | some s => match s.val with
    | some d => .ok d
    | none => .st
  | none => .st
def eC (d : D) : DEnv → Res D := fun _ => .ok d
section
variable {X : Cx} {We : WeX} {pos : Pos}
theorem pd_var (i : Nat) {x : Str} (hN : X.N[i]? = some x := by rfl) (hv : Vis X.env.scope x := by first | exact Or.inl rfl | exact Or.inr (Or.inl rfl) | exact Or.inr (Or.inr rfl)) (hd : (x == ("__debug__" : Str)) = false := by decide)
    (hcd : (x == ("__classdict__" : Str)) = false := by decide) : PD X We [i] (.Name x pos) (eVar i) := by
  refine pe_imp (pe_var hN hv hd hcd) fun σ H Q ⟨F, ρ, hF, hE, h⟩ => ?_
  unfold eVar at h
  cases h1 : ρ[i]? with
  | none => rw [h1] at h; exact h.elim
  | some s =>
    rw [h1] at h
    cases h2 : s.val with
    | none => simp only [h2] at h; exact h.elim
    | some d =>
      simp only [h2] at h
      obtain ⟨v, a, b⟩ := hE.2.1 i (by simp) s d h1 h2
      exact ⟨v, a, h F H v (Ext.refl hF) b⟩
theorem pd_c {v : V} {d : D} (h : PE X e (tC v)) (r : ∀ F, Rep X.K X.mg F v d) : PD X We [] e (eC d) :=
  pe_imp h fun σ H Q ⟨F, ρ, hF, hE, q⟩ => q F H v (Ext.refl hF) (r F)
theorem pd_int {i : Int} {j} : PD X We [] (.Constant (.int i) j pos) (eC (.int i)) := pd_c pe_int fun _ => .int i
theorem pd_bl {b : Bool} {j} : PD X We [] (.Constant (.bool b) j pos) (eC (.bl b)) := pd_c pe_bl fun _ => .bl b
theorem pd_non {j} : PD X We [] (.Constant .none j pos) (eC .non) := pd_c pe_non fun _ => .non
theorem pd_str {x : Str} {j} : PD X We [] (.Constant (.str x) j pos) (eC (.str x)) := pd_c pe_str fun _ => .str x
end

/-! ### operators by values -/
/-- what an operator's rule asks, from data -/
def OpD (K : PySem.W.Frag) (mg : Str → Option Value) (r : R2) (o : D → D → Res D) : Prop :=
  ∀ (We : WeX) (F H : Hp) (σ : L2.St) (x y : D) (v u : V) (Q : VK), Same F H → Rep K mg F v x → Rep K mg F u y → Out K mg We (RD K mg) F H σ Q (o x y) → r v u H Q
def OpF (K : PySem.W.Frag) (mg : Str → Option Value) (r : R2) (o : D → D → Res (List D)) : Prop :=
  ∀ (We : WeX) (F H : Hp) (σ : L2.St) (x y : D) (v u : V) (Q : VK), Same F H → Rep K mg F v x → Rep K mg F u y → Out K mg We (RF K mg) F H σ Q (o x y) → r v u H Q
def e2 {β : Type} (o : D → D → Res β) (fa fb : DEnv → Res D) : DEnv → Res β := fun ρ => (fa ρ).bind fun x => (fb ρ).bind fun y => o x y
def e1 {β : Type} (o : D → Res β) (fa : DEnv → Res D) : DEnv → Res β := fun ρ => (fa ρ).bind fun x => o x
section
variable {K : PySem.W.Frag} {mg : Str → Option Value} {We : WeX} {Sa Sb Sc : List Nat} {fa fb fc : DEnv → Res D}
theorem tG_op {r : R2} {o : D → D → Res D} (hop : OpD K mg r o) {σ : L2.St} {H : Hp} {Q : VK} (h : tG K mg We (RD K mg) (Sa ++ Sb) (e2 o fa fb) σ H Q) :
    tOp r (tG K mg We (RD K mg) Sa fa) (tG K mg We (RD K mg) Sb fb) σ H Q := by
  obtain ⟨F, ρ, hF, hE, q⟩ := h
  refine ⟨F, ρ, hF, hE.l, Out.bind q fun x F1 H1 v ex rx q1 => ?_⟩
  refine ⟨F1, ρ, ex.2.1, hE.r.mono ex.1, Out.bind q1 fun y F2 H2 u ey ry q2 => ?_⟩
  exact hop We F2 H2 σ x y v u Q ey.2.1 (rx.mono ey.1) ry q2
theorem tG_opF {r : R2} {o : D → D → Res (List D)} (hop : OpF K mg r o) {σ : L2.St} {H : Hp} {Q : VK} (h : tG K mg We (RF K mg) (Sa ++ Sb) (e2 o fa fb) σ H Q) :
    tOp r (tG K mg We (RD K mg) Sa fa) (tG K mg We (RD K mg) Sb fb) σ H Q := by
  obtain ⟨F, ρ, hF, hE, q⟩ := h
  refine ⟨F, ρ, hF, hE.l, Out.bind q fun x F1 H1 v ex rx q1 => ?_⟩
  refine ⟨F1, ρ, ex.2.1, hE.r.mono ex.1, Out.bind q1 fun y F2 H2 u ey ry q2 => ?_⟩
  exact hop We F2 H2 σ x y v u Q ey.2.1 (rx.mono ey.1) ry q2
end
section
variable {X : Cx} {We : WeX} {Sa Sb Sc : List Nat} {fa fb fc : DEnv → Res D} {a b c : PySem.Expr} {pos : Pos} {op op' : Operator}
theorem pd_bin {op : Operator} {r : R2} {o : D → D → Res D} (ho : OpR X (binaryOp op) r) (hop : OpD X.K X.mg r o) (ha : PD X We Sa a fa) (hb : PD X We Sb b fb) : PD X We (Sa ++ Sb) (.BinOp a op b pos) (e2 o fa fb) :=
  pe_imp (pe_op ho ha hb) fun _ _ _ h => tG_op hop h
theorem pf_bin {op : Operator} {r : R2} {o : D → D → Res (List D)} (ho : OpR X (binaryOp op) r) (hop : OpF X.K X.mg r o) (ha : PD X We Sa a fa) (hb : PD X We Sb b fb) : PF X We (Sa ++ Sb) (.BinOp a op b pos) (e2 o fa fb) :=
  pe_imp (pe_op ho ha hb) fun _ _ _ h => tG_opF hop h
theorem pd_cmp {op : CmpOp} {r : R2} {o : D → D → Res D} (ho : OpR X (compareOp op) r) (hop : OpD X.K X.mg r o) (ha : PD X We Sa a fa) (hb : PD X We Sb b fb) (hm : behindInMarks op b = false) : PD X We (Sa ++ Sb) (.Compare a [op] [b] pos) (e2 o fa fb) :=
  pe_imp (pe_cmpR ho ha hb hm) fun _ _ _ h => tG_op hop h
end
/-- a result that is a bool -/
def asB : D → Res Bool
  | .bl b => .ok b
  | _ => .st
def eB (f : DEnv → Res D) : DEnv → Res Bool := fun ρ => (f ρ).bind asB
section
variable {K : PySem.W.Frag} {mg : Str → Option Value} {We : WeX} {F H : Hp} {σ : L2.St}
theorem asB_out {d : D} {v : V} {Q : Bool → Hp → Prop} (hF : Same F H) (r : Rep K mg F v d) (h : Out K mg We RB F H σ Q (asB d)) : ∃ k, v = .bl k ∧ Q k H := by
  cases d with
  | bl b => cases r; exact ⟨b, rfl, h F H b (Ext.refl hF) rfl⟩
  | _ => exact h.elim
/-- a value's reading continues as a bool's -/
theorem tG_B {S : List Nat} {f : DEnv → Res D} {Q : Bool → Hp → Prop} (h : tG K mg We RB S (eB f) σ H Q) : tG K mg We (RD K mg) S f σ H (fun x H' => ∃ k, x = .bl k ∧ Q k H') := by
  obtain ⟨F, ρ, hF, hE, q⟩ := h
  exact ⟨F, ρ, hF, hE, Out.bind q fun x F1 H1 v ex rx q1 => asB_out ex.2.1 rx q1⟩
end
section
variable {X : Cx} {We : WeX} {Sa Sb Sc : List Nat} {fa fb fc : DEnv → Res D} {a b c : PySem.Expr} {pos : Pos}
theorem ptd_cmp {op : CmpOp} {r : R2} {o : D → D → Res D} (ho : OpR X (compareOp op) r) (hop : OpD X.K X.mg r o) (ha : PD X We Sa a fa) (hb : PD X We Sb b fb) (hm : behindInMarks op b = false) : PTD X We (Sa ++ Sb) (.Compare a [op] [b] pos) (eB (e2 o fa fb)) :=
  pt_imp (pt_cmpR ho ha hb hm) fun _ _ _ h => tG_op hop (tG_B h)
/-- a op b op' c -/
def eCh (o o' : D → D → Res D) (fa fb fc : DEnv → Res D) : DEnv → Res D := fun ρ => (fa ρ).bind fun x => (fb ρ).bind fun y => (o x y).bind fun k => match k with
  | .bl true => (fc ρ).bind fun z => o' y z
  | .bl false => .ok (.bl false)
  | _ => .st
theorem tG_ch {r r' : R2} {o o' : D → D → Res D} (hop : OpD X.K X.mg r o) (hop' : OpD X.K X.mg r' o') {σ : L2.St} {H : Hp} {Q : VK} (h : tG X.K X.mg We (RD X.K X.mg) (Sa ++ Sb ++ Sc) (eCh o o' fa fb fc) σ H Q) :
    tChain r r' (tG X.K X.mg We (RD X.K X.mg) Sa fa) (tG X.K X.mg We (RD X.K X.mg) Sb fb) (tG X.K X.mg We (RD X.K X.mg) Sc fc) σ H Q := by
  obtain ⟨F, ρ, hF, hE, q⟩ := h
  refine ⟨F, ρ, hF, hE.l.l, Out.bind q fun x F1 H1 v ex rx q1 => ?_⟩
  refine ⟨F1, ρ, ex.2.1, hE.l.r.mono ex.1, Out.bind q1 fun y F2 H2 u ey ry q2 => ?_⟩
  refine hop We F2 H2 σ x y v u _ ey.2.1 (rx.mono ey.1) ry (Out.bind q2 fun k F3 H3 z ek rk q3 => ?_)
  cases k with
  | bl k =>
    cases rk
    refine ⟨k, rfl, ?_⟩
    cases k with
    | true =>
      rw [if_pos rfl]
      refine ⟨F3, ρ, ek.2.1, hE.r.mono ((ex.1.trans ey.1).trans ek.1), Out.bind q3 fun z F4 H4 w ez rz q4 => ?_⟩
      exact hop' We F4 H4 σ y z u w Q ez.2.1 ((ry.mono ek.1).mono ez.1) rz q4
    | false =>
      rw [if_neg Bool.false_ne_true]
      exact q3 F3 H3 _ (Ext.refl ek.2.1) (.bl false)
  | _ => exact q3.elim
theorem pd_chain {op op' : CmpOp} {r r' : R2} {o o' : D → D → Res D} (ho : OpR X (compareOp op) r) (hop : OpD X.K X.mg r o) (ho' : OpR X (compareOp op') r') (hop' : OpD X.K X.mg r' o') (ha : PD X We Sa a fa) (hb : PD X We Sb b fb) (hc : PD X We Sc c fc)
    (hm : lastMarks [op, op'] [b, c] = false := by with_unfolding_all rfl) : PD X We (Sa ++ Sb ++ Sc) (.Compare a [op, op'] [b, c] pos) (eCh o o' fa fb fc) :=
  pe_imp (pe_chain ho ho' ha hb hc hm) fun _ _ _ h => tG_ch hop hop' h
theorem ptd_chain {op op' : CmpOp} {r r' : R2} {o o' : D → D → Res D} (ho : OpR X (compareOp op) r) (hop : OpD X.K X.mg r o) (ho' : OpR X (compareOp op') r') (hop' : OpD X.K X.mg r' o') (ha : PD X We Sa a fa) (hb : PD X We Sb b fb) (hc : PD X We Sc c fc)
    (hm : lastMarks [op, op'] [b, c] = false := by with_unfolding_all rfl) : PTD X We (Sa ++ Sb ++ Sc) (.Compare a [op, op'] [b, c] pos) (eB (eCh o o' fa fb fc)) :=
  pt_imp (pt_chain ho ho' ha hb hc hm) fun _ _ _ h => tG_ch hop hop' (tG_B h)
end

/-! ### tests -/
def lim : Nat := 100000
theorem lim_le : lim ≤ sizeLine := by rw [sizeLine_eq]; decide
theorem le_line {n : Nat} (h : n ≤ lim) : n ≤ sizeLine := Nat.le_trans h lim_le
theorem lt_line {n : Nat} (h : n < lim) : n < sizeLine := Nat.lt_of_lt_of_le h lim_le
/-- a value's truth -/
def truth : D → Res Bool
  | .non => .ok false
  | .bl b => .ok b
  | .int i => .ok (i != 0)
  | .str z => if z.length ≤ lim then .ok ((z.length : Int) != 0) else .st
  | .lst xs => .ok (!xs.isEmpty)
  | .tup xs => .ok (!xs.isEmpty)
  | .obj _ _ _ => .st
theorem RepAll.isEmpty {K : PySem.W.Frag} {mg : Str → Option Value} {F : Hp} {vs : List V} {ds : List D} (r : RepAll K mg F vs ds) : vs.isEmpty = ds.isEmpty := by
  cases r <;> rfl
theorem SqL.same {K : PySem.W.Frag} {F H : Hp} {a : Addr} {xs : List V} (e : Same F H) (h : SqL K F a xs) : SqL K H a xs := e.seq h
theorem SqT.same {K : PySem.W.Frag} {F H : Hp} {a : Addr} {xs : List V} (e : Same F H) (h : SqT K F a xs) : SqT K H a xs := by
  rcases h with (h | ⟨o, h⟩) | h
  · exact .inl (.inl (e _ _ h))
  · exact .inl (.inr ⟨o, e _ _ h⟩)
  · exact .inr h
section
variable {K : PySem.W.Frag} {mg : Str → Option Value} {We : WeX} {F H : Hp} {σ : L2.St}
theorem truth_out {d : D} {v : V} {Q : Bool → Hp → Prop} (hF : Same F H) (r : Rep K mg F v d) (h : Out K mg We RB F H σ Q (truth d)) : ∃ k, TruV K v H k ∧ Q k H := by
  cases d with
  | non => cases r; exact ⟨false, rfl, h F H _ (Ext.refl hF) rfl⟩
  | bl b => cases r; exact ⟨b, rfl, h F H _ (Ext.refl hF) rfl⟩
  | int i => cases r; exact ⟨i != 0, rfl, h F H _ (Ext.refl hF) rfl⟩
  | str z =>
    cases r
    have h : Out K mg We RB F H σ Q (if z.length ≤ lim then .ok ((z.length : Int) != 0) else .st) := h
    by_cases hz : z.length ≤ lim
    · rw [if_pos hz] at h
      exact ⟨_, ⟨le_line hz, rfl⟩, h F H _ (Ext.refl hF) rfl⟩
    · rw [if_neg hz] at h; exact h.elim
  | lst xs =>
    cases r with
    | lst a b => exact ⟨_, .inl ⟨_, SqL.same hF a, rfl⟩, h F H _ (Ext.refl hF) (by rw [b.isEmpty])⟩
  | tup xs =>
    cases r with
    | tup a b => exact ⟨_, .inr (.inl ⟨_, SqT.same hF a, rfl⟩), h F H _ (Ext.refl hF) (by rw [b.isEmpty])⟩
  | obj _ _ _ => exact h.elim
end
def eTru (f : DEnv → Res D) : DEnv → Res Bool := fun ρ => (f ρ).bind truth
def eAnd (f g : DEnv → Res Bool) : DEnv → Res Bool := fun ρ => (f ρ).bind fun b => if b then g ρ else .ok false
def eOr (f g : DEnv → Res Bool) : DEnv → Res Bool := fun ρ => (f ρ).bind fun b => if b then .ok true else g ρ
def eNot (f : DEnv → Res Bool) : DEnv → Res Bool := fun ρ => (f ρ).bind fun b => .ok (!b)
def eIf {β : Type} (c : DEnv → Res Bool) (f g : DEnv → Res β) : DEnv → Res β := fun ρ => (c ρ).bind fun b => if b then f ρ else g ρ
def eAndV (f g : DEnv → Res D) : DEnv → Res D := fun ρ => (f ρ).bind fun x => (asB x).bind fun b => if b then g ρ else .ok (.bl false)
def eOrV (f g : DEnv → Res D) : DEnv → Res D := fun ρ => (f ρ).bind fun x => (asB x).bind fun b => if b then .ok (.bl true) else g ρ
def eNotV (f : DEnv → Res D) : DEnv → Res D := fun ρ => (f ρ).bind fun x => (asB x).bind fun b => .ok (.bl (!b))
section
variable {X : Cx} {We : WeX} {Sa Sb Sc : List Nat} {fa fb : DEnv → Res D} {ca cb : DEnv → Res Bool} {a b c : PySem.Expr} {rest : List PySem.Expr} {pos : Pos}
theorem ptd_tru (ha : PD X We Sa a fa) (he : ∀ whole, isTrue a X.env whole = (do let v ← whole; standAt a.pos; holding [v] (truthy v)) := by intro _; rfl) : PTD X We Sa a (eTru fa) :=
  pt_imp (pt_truth ha he) fun σ H Q ⟨F, ρ, hF, hE, q⟩ => ⟨F, ρ, hF, hE, Out.bind q fun x F1 H1 v ex rx q1 => truth_out ex.2.1 rx q1⟩
theorem ptd_val (ha : PD X We Sa a fa) (he : ∀ whole, isTrue a X.env whole = (do let v ← whole; standAt a.pos; holding [v] (truthy v)) := by intro _; rfl) : PTD X We Sa a (eB fa) :=
  pt_imp (pt_val ha he) fun σ H Q h => tG_B h
theorem ptd_not (ha : PTD X We Sa a ca) : PTD X We Sa (.UnaryOp .Not a pos) (eNot ca) :=
  pt_imp (pt_not ha) fun σ H Q ⟨F, ρ, hF, hE, q⟩ => ⟨F, ρ, hF, hE, Out.bind q fun x F1 H1 v ex rx q1 => by
    have e : v = x := rx
    subst e
    exact q1 F1 H1 _ (Ext.refl ex.2.1) rfl⟩
theorem tG_and {σ : L2.St} {H : Hp} {Q : Bool → Hp → Prop} (h : tG X.K X.mg We RB (Sa ++ Sb) (eAnd ca cb) σ H Q) : tAnd (tG X.K X.mg We RB Sa ca) (tG X.K X.mg We RB Sb cb) σ H Q := by
  obtain ⟨F, ρ, hF, hE, q⟩ := h
  refine ⟨F, ρ, hF, hE.l, Out.bind q fun x F1 H1 v ex rx q1 => ?_⟩
  have e : v = x := rx
  subst e
  cases v with
  | true => rw [if_pos rfl]; exact ⟨F1, ρ, ex.2.1, hE.r.mono ex.1, q1⟩
  | false => rw [if_neg Bool.false_ne_true]; exact q1 F1 H1 _ (Ext.refl ex.2.1) rfl
theorem tG_or {σ : L2.St} {H : Hp} {Q : Bool → Hp → Prop} (h : tG X.K X.mg We RB (Sa ++ Sb) (eOr ca cb) σ H Q) : tOr (tG X.K X.mg We RB Sa ca) (tG X.K X.mg We RB Sb cb) σ H Q := by
  obtain ⟨F, ρ, hF, hE, q⟩ := h
  refine ⟨F, ρ, hF, hE.l, Out.bind q fun x F1 H1 v ex rx q1 => ?_⟩
  have e : v = x := rx
  subst e
  cases v with
  | true => rw [if_pos rfl]; exact q1 F1 H1 _ (Ext.refl ex.2.1) rfl
  | false => rw [if_neg Bool.false_ne_true]; exact ⟨F1, ρ, ex.2.1, hE.r.mono ex.1, q1⟩
theorem pwd_and1 (ha : PTD X We Sa a ca) : PWD X We Sa (.BoolOp .And [a] pos) ca := pw_and1 ha
theorem pwd_or1 (ha : PTD X We Sa a ca) : PWD X We Sa (.BoolOp .Or [a] pos) ca := pw_or1 ha
theorem pwd_and (ha : PTD X We Sa a ca) (hb : PWD X We Sb (.BoolOp .And (b :: rest) pos) cb) : PWD X We (Sa ++ Sb) (.BoolOp .And (a :: b :: rest) pos) (eAnd ca cb) :=
  pw_imp (pw_and ha hb) fun _ _ _ h => tG_and h
theorem pwd_or (ha : PTD X We Sa a ca) (hb : PWD X We Sb (.BoolOp .Or (b :: rest) pos) cb) : PWD X We (Sa ++ Sb) (.BoolOp .Or (a :: b :: rest) pos) (eOr ca cb) :=
  pw_imp (pw_or ha hb) fun _ _ _ h => tG_or h
theorem ptd_w (h : PWD X We Sa a ca) : PTD X We Sa a ca := h.pt
theorem pd_one {op} (h : PD X We Sa a fa) : PD X We Sa (.BoolOp op [a] pos) fa := pe_one h
theorem pd_and (ha : PD X We Sa a fa) (hb : PD X We Sb (.BoolOp .And (b :: rest) pos) fb) : PD X We (Sa ++ Sb) (.BoolOp .And (a :: b :: rest) pos) (eAndV fa fb) :=
  pe_imp (pe_and ha hb) fun σ H Q ⟨F, ρ, hF, hE, q⟩ => ⟨F, ρ, hF, hE.l, Out.bind q fun x F1 H1 v ex rx q1 => by
    cases x with
    | bl k =>
      cases rx
      refine ⟨k, rfl, ?_⟩
      cases k with
      | true => rw [if_pos rfl]; exact ⟨F1, ρ, ex.2.1, hE.r.mono ex.1, q1⟩
      | false => rw [if_neg Bool.false_ne_true]; exact q1 F1 H1 _ (Ext.refl ex.2.1) (.bl false)
    | _ => exact q1.elim⟩
theorem pd_or (ha : PD X We Sa a fa) (hb : PD X We Sb (.BoolOp .Or (b :: rest) pos) fb) : PD X We (Sa ++ Sb) (.BoolOp .Or (a :: b :: rest) pos) (eOrV fa fb) :=
  pe_imp (pe_or ha hb) fun σ H Q ⟨F, ρ, hF, hE, q⟩ => ⟨F, ρ, hF, hE.l, Out.bind q fun x F1 H1 v ex rx q1 => by
    cases x with
    | bl k =>
      cases rx
      refine ⟨k, rfl, ?_⟩
      cases k with
      | true => rw [if_pos rfl]; exact q1 F1 H1 _ (Ext.refl ex.2.1) (.bl true)
      | false => rw [if_neg Bool.false_ne_true]; exact ⟨F1, ρ, ex.2.1, hE.r.mono ex.1, q1⟩
    | _ => exact q1.elim⟩
theorem pd_not (ha : PD X We Sa a fa) : PD X We Sa (.UnaryOp .Not a pos) (eNotV fa) :=
  pe_imp (pe_not ha) fun σ H Q ⟨F, ρ, hF, hE, q⟩ => ⟨F, ρ, hF, hE, Out.bind q fun x F1 H1 v ex rx q1 => by
    cases x with
    | bl k =>
      cases rx
      exact ⟨k, rfl, q1 F1 H1 _ (Ext.refl ex.2.1) (.bl (!k))⟩
    | _ => exact q1.elim⟩
theorem tG_if {α β : Type} {R : Hp → Hp → Hp → α → β → Prop} [Anti R] {f g : DEnv → Res β} {σ : L2.St} {H : Hp} {Q : α → Hp → Prop} (h : tG X.K X.mg We R (Sa ++ Sb ++ Sc) (eIf ca f g) σ H Q) :
    tG X.K X.mg We RB Sa ca σ H fun c H1 => if c = true then tG X.K X.mg We R Sb f σ H1 Q else tG X.K X.mg We R Sc g σ H1 Q := by
  obtain ⟨F, ρ, hF, hE, q⟩ := h
  refine ⟨F, ρ, hF, hE.l.l, Out.bind q fun x F1 H1 v ex rx q1 => ?_⟩
  have e : v = x := rx
  subst e
  cases v with
  | true => rw [if_pos rfl] at q1 ⊢; exact ⟨F1, ρ, ex.2.1, hE.l.r.mono ex.1, q1⟩
  | false => rw [if_neg Bool.false_ne_true] at q1 ⊢; exact ⟨F1, ρ, ex.2.1, hE.r.mono ex.1, q1⟩
theorem pd_if (hc : PTD X We Sa c ca) (ha : PD X We Sb a fa) (hb : PD X We Sc b fb) : PD X We (Sa ++ Sb ++ Sc) (.IfExp c a b pos) (eIf ca fa fb) :=
  pe_imp (pe_ifExp hc ha hb) fun _ _ _ h => tG_if h
end

/-! ### arguments, displays -/
def eNil : DEnv → Res (List D) := fun _ => .ok []
def eCons (f : DEnv → Res D) (g : DEnv → Res (List D)) : DEnv → Res (List D) := fun ρ => (f ρ).bind fun x => (g ρ).bind fun xs => .ok (x :: xs)
/-- the length as a display or a call wants it -/
def okLen (xs : List D) : Res (List D) := if xs.length ≤ lim then .ok xs else .st
def eTup (f : DEnv → Res (List D)) : DEnv → Res D := fun ρ => (f ρ).bind fun xs => (okLen xs).bind fun ys => .ok (.tup ys)
def eLst (f : DEnv → Res (List D)) : DEnv → Res (List D) := fun ρ => (f ρ).bind okLen
/-- a new list as a value -/
def eFz (f : DEnv → Res (List D)) : DEnv → Res D := fun ρ => (f ρ).bind fun xs => .ok (.lst xs)
section
variable {X : Cx} {We : WeX} {Sa Sb : List Nat} {f : DEnv → Res D} {g : DEnv → Res (List D)} {e : PySem.Expr} {es : List PySem.Expr} {pos : Pos}
theorem pad_nil : PAD X We [] [] eNil := pa_imp pa_nil fun σ H Q ⟨F, ρ, hF, hE, q⟩ => q F H _ (Ext.refl hF) .nil
theorem pad_cons (ha : PD X We Sa e f) (hr : PAD X We Sb es g) (hs : starEach (e :: es) X.env = (false, eval e X.env) :: starEach es X.env := by rfl) : PAD X We (Sa ++ Sb) (e :: es) (eCons f g) :=
  pa_imp (pa_cons ha hr hs) fun σ H Q ⟨F, ρ, hF, hE, q⟩ => ⟨F, ρ, hF, hE.l, Out.bind q fun x F1 H1 v ex rx q1 =>
    ⟨F1, ρ, ex.2.1, hE.r.mono ex.1, Out.bind q1 fun xs F2 H2 vs ey ry q2 => q2 F2 H2 _ (Ext.refl ey.2.1) (.cons (rx.mono ey.1) ry)⟩⟩
theorem pd_tup {k} (h : PAD X We Sa es g) : PD X We Sa (.Tuple es k pos) (eTup g) :=
  pe_imp (pe_tup h) fun σ H Q ⟨F, ρ, hF, hE, q⟩ => ⟨F, ρ, hF, hE, Out.bind q fun xs F1 H1 vs ex rx q1 => by
    unfold okLen at q1
    by_cases hl : xs.length ≤ lim
    · rw [if_pos hl] at q1
      refine ⟨by rw [rx.length]; exact le_line hl, fun p hp => ?_⟩
      exact q1 (upd F1 p (.tup vs)) _ _ (Ext.new ex.2.1 hp) (.tup (SqT.of upd_same) (rx.mono (same_upd (ex.2.1.free hp))))
    · rw [if_neg hl] at q1; exact q1.elim⟩
theorem pf_lst (h : PAD X We Sa es g) : PF X We Sa (.List es pos) (eLst g) :=
  pe_imp (pe_lst h) fun σ H Q ⟨F, ρ, hF, hE, q⟩ => ⟨F, ρ, hF, hE, Out.bind q fun xs F1 H1 vs ex rx q1 => by
    unfold okLen at q1
    by_cases hl : xs.length ≤ lim
    · rw [if_pos hl] at q1
      refine ⟨by rw [rx.length]; exact le_line hl, fun p hp => ?_⟩
      exact q1 F1 _ _ (Ext.new0 ex.2.1 hp) ⟨p, vs, rfl, hp, ex.2.1.free hp, upd_same, rx⟩
    · rw [if_neg hl] at q1; exact q1.elim⟩
/-- a new list put to rest -/
theorem fz_ok {K : PySem.W.Frag} {mg : Str → Option Value} {F H F1 H1 : Hp} {v : V} {xs : List D} (ex : Ext F H F1 H1) (h : RF K mg H F1 H1 v xs) : ∃ F2, Ext F H F2 H1 ∧ Same F1 F2 ∧ Rep K mg F2 v (.lst xs) := by
  obtain ⟨p, vs, rfl, hp, f1, h1, r⟩ := h
  refine ⟨upd F1 p (.lst vs), ⟨ex.1.trans (same_upd f1), fun b o q => ?_, ex.2.2.1, fun b o q => ?_⟩, same_upd f1, .lst (SqL.of upd_same) (r.mono (same_upd f1))⟩
  · by_cases z : b = p
    · subst z; rw [upd_same] at q; cases q; exact h1
    · rw [upd_ne z] at q; exact ex.2.1 _ _ q
  · rw [upd_ne (ne_of_none q hp)]; exact ex.2.2.2 b o q
theorem pd_fz (h : PF X We Sa e g) : PD X We Sa e (eFz g) :=
  pe_imp h fun σ H Q ⟨F, ρ, hF, hE, q⟩ => ⟨F, ρ, hF, hE, by
    show Out _ _ _ _ _ _ _ _ (g ρ)
    have q' : Out X.K X.mg We (RD X.K X.mg) F H σ Q ((g ρ).bind fun xs => .ok (.lst xs)) := q
    cases hg : g ρ with
    | ok xs =>
      rw [hg] at q'
      intro F' H' v ex r
      obtain ⟨F2, ex2, _, r2⟩ := fz_ok ex r
      exact q' F2 H' v ex2 r2
    | er x => rw [hg] at q'; exact q'
    | st => rw [hg] at q'; exact q'⟩
end
end DL
set_option Elab.async false
set_option linter.all false
set_option maxRecDepth 100000
set_option maxHeartbeats 1000000
/-! DL2: statements by plain functions of the slots. -/
namespace DL
open PySem PySem.Spec PyProof.Rows L2

/-- a def's base: what stands still and what is tracked at its entry (without what is its own), the addresses of its own things by slot -/
structure Bs where
  F : Hp
  H : Hp
  τ : Nat → Addr
def SlotOk (K : PySem.W.Frag) (mg : Str → Option Value) (ex : EXP) (B : Bs) (F H : Hp) (i : Nat) (x : Option (Option V)) : Slot → Prop
  | .un => True
  | .d d => ∃ v, x = some (some v) ∧ Rep K mg F v d
  | .own t xs => ∃ a vs, x = some (some (.ref a)) ∧ F a = none ∧ B.H a = none ∧ H a = some (.lst vs) ∧ RepAll K mg F vs xs ∧ (t = true → B.τ i = a)
  | .obo t c ns fs => ∃ a C dx fv, x = some (some (.ref a)) ∧ F a = none ∧ B.H a = none ∧ mg c = some (.ref C) ∧ H a = some (.ins C dx fv) ∧ fv.map (·.1) = ns ∧ RepAll K mg F (fv.map (·.2)) fs ∧ (t = true → B.τ i = a)
  | .exc z => ExcOk K mg ex F x z
def Slot.isO : Slot → Bool
  | .own _ _ => true
  | .obo _ _ _ _ => true
  | _ => false
/-- a def's state -/
structure EnvS (K : PySem.W.Frag) (mg : Str → Option Value) (ex : EXP) (B : Bs) (F : Hp) (σ : L2.St) (H : Hp) (ρ : DEnv) : Prop where
  f0 : Same B.F B.H
  ff : Same B.F F
  fh : Same F H
  hh : Same B.H H
  ag : ∀ p o, B.H p = some o → F p = B.F p
  len : σ.length = ρ.length
  sl : ∀ (i : Nat) (s : Slot), ρ[i]? = some s → SlotOk K mg ex B F H i σ[i]? s
  ap : ∀ (i j : Nat) (a : Addr) (s t : Slot), ρ[i]? = some s → ρ[j]? = some t → s.isO = true → t.isO = true → σ[i]? = some (some (V.ref a)) → σ[j]? = some (some (V.ref a)) → i = j

def demS (b : Bool) : Slot → Slot
  | .own t xs => if b then .d (.lst xs) else .own t xs
  | .obo t c ns fs => if b then .d (.obj c ns fs) else .obo t c ns fs
  | s => s
def dem (S : List Nat) (ρ : DEnv) : DEnv := ρ.mapIdx fun i s => demS (S.contains i) s
/-- is an instance of the def's own among S -/
def hasO (S : List Nat) (ρ : DEnv) : Bool := S.any fun i => match ρ[i]? with
  | some (.obo _ _ _ _) => true
  | _ => false

section
variable {K : PySem.W.Frag} {mg : Str → Option Value} {ex : EXP} {B : Bs} {F F1 H H1 : Hp} {σ : L2.St} {ρ : DEnv} {S : List Nat}
theorem EnvS.ext (E : EnvS K mg ex B F σ H ρ) : Ext B.F B.H F H := ⟨E.ff, E.fh, E.hh, E.ag⟩
theorem dem_get {i : Nat} : (dem S ρ)[i]? = (ρ[i]?).map (demS (S.contains i)) := by
  unfold dem
  rw [List.getElem?_mapIdx]
/-- a slot that is the def's own behind dem was so before -/
theorem dem_own {i : Nat} {t : Slot} (h : (dem S ρ)[i]? = some t) (o : t.isO = true) : ρ[i]? = some t ∧ S.contains i = false := by
  rw [dem_get] at h
  cases h3 : ρ[i]? with
  | none => rw [h3] at h; cases h
  | some u =>
    rw [h3] at h
    have h : demS (S.contains i) u = t := Option.some.inj h
    cases z : S.contains i with
    | true =>
      rw [z] at h
      subst h
      cases u <;> cases o
    | false =>
      rw [z] at h
      subst h
      cases u <;> first | (cases o; done) | exact ⟨rfl, rfl⟩
/-- the heap grows, what stands still too -/
theorem EnvS.grow (E : EnvS K mg ex B F σ H ρ) (e : Ext F H F1 H1) : EnvS K mg ex B F1 σ H1 ρ where
  f0 := E.f0
  ff := E.ff.trans e.1
  fh := e.2.1
  hh := E.hh.trans e.2.2.1
  ag := fun p o q => (e.2.2.2 p o (E.hh p o q)).trans (E.ag p o q)
  len := E.len
  sl := fun i s q => by
    have z := E.sl i s q
    cases s with
    | un => trivial
    | d d => obtain ⟨v, a, b⟩ := z; exact ⟨v, a, b.mono e.1⟩
    | own t xs => obtain ⟨a, vs, a1, a2, a3, a4, a5, a6⟩ := z; exact ⟨a, vs, a1, (e.2.2.2 _ _ a4).trans a2, a3, e.2.2.1 _ _ a4, a5.mono e.1, a6⟩
    | obo t c ns fs => obtain ⟨a, C, dx, fv, a1, a2, a3, m, a4, n, a5, a6⟩ := z; exact ⟨a, C, dx, fv, a1, (e.2.2.2 _ _ a4).trans a2, a3, m, e.2.2.1 _ _ a4, n, a5.mono e.1, a6⟩
    | exc x => exact z.mono e.1
  ap := E.ap
theorem EnvS.heap (E : EnvS K mg ex B F σ H ρ) (e : Same H H1) : EnvS K mg ex B F σ H1 ρ :=
  E.grow ⟨Same.refl F, E.fh.trans e, e, fun _ _ _ => rfl⟩

/-- the address of the def's own thing at a slot -/
theorem EnvS.at (E : EnvS K mg ex B F σ H ρ) {i : Nat} {s : Slot} (h : ρ[i]? = some s) (o : s.isO = true) : ∃ a u, σ[i]? = some (some (.ref a)) ∧ F a = none ∧ B.H a = none ∧ H a = some u ∧
    ((∃ t xs, s = .own t xs ∧ ∃ vs, u = .lst vs ∧ RepAll K mg F vs xs ∧ (t = true → B.τ i = a)) ∨ ∃ t c ns fs, s = .obo t c ns fs ∧ ∃ C dx fv, u = .ins C dx fv ∧ mg c = some (.ref C) ∧ fv.map (·.1) = ns ∧ RepAll K mg F (fv.map (·.2)) fs ∧ (t = true → B.τ i = a)) := by
  have z := E.sl i s h
  cases s with
  | un => cases o
  | d d => cases o
  | exc x => cases o
  | own t xs => obtain ⟨a, vs, a1, a2, a3, a4, a5, a6⟩ := z; exact ⟨a, _, a1, a2, a3, a4, .inl ⟨t, xs, rfl, vs, rfl, a5, a6⟩⟩
  | obo t c ns fs => obtain ⟨a, C, dx, fv, a1, a2, a3, m, a4, n, a5, a6⟩ := z; exact ⟨a, _, a1, a2, a3, a4, .inr ⟨t, c, ns, fs, rfl, C, dx, fv, rfl, m, n, a5, a6⟩⟩
/-- the own things of S are put to rest for a while -/
theorem EnvS.fz (E : EnvS K mg ex B F σ H ρ) (S : List Nat) : ∃ Fp, Same Fp H ∧ EnvE K mg ex S Fp σ ρ ∧ (∀ F' H', Ext Fp H F' H' → EnvS K mg ex B F' σ H' (dem S ρ)) ∧
    ∀ F' H', Ext Fp H F' H' → ∃ F2, EnvS K mg ex B F2 σ H' ρ ∧ LessL (hasO S ρ) F' F2 ∧ Same F2 F' := by
  classical
  let own : Addr → Prop := fun p => ∃ i ∈ S, ∃ s, ρ[i]? = some s ∧ s.isO = true ∧ σ[i]? = some (some (V.ref p))
  have ownF : ∀ p, own p → F p = none ∧ B.H p = none ∧ ∃ u, H p = some u ∧ ((∃ vs, u = .lst vs) ∨ (hasO S ρ = true ∧ ∃ C dx fv, u = .ins C dx fv)) := fun p ⟨i, hi, s, h1, ho, h2⟩ => by
    obtain ⟨a, u, a1, a2, a3, a4, z⟩ := E.at h1 ho
    rw [h2] at a1; cases a1
    refine ⟨a2, a3, u, a4, ?_⟩
    rcases z with ⟨_, xs, _, vs, e, _⟩ | ⟨_, c, ns, fs, es, C, dx, fv, e, _⟩
    · exact .inl ⟨vs, e⟩
    · refine .inr ⟨List.any_eq_true.mpr ⟨i, hi, ?_⟩, C, dx, fv, e⟩
      rw [h1, es]
  let Fp : Hp := fun p => if own p then H p else F p
  have fpo : ∀ p, own p → Fp p = H p := fun p h => if_pos h
  have fpn : ∀ p, ¬ own p → Fp p = F p := fun p h => if_neg h
  have sF : Same F Fp := fun p o q => by
    have n : ¬ own p := fun z => by rw [(ownF p z).1] at q; cases q
    rw [fpn p n]; exact q
  have sH : Same Fp H := fun p o q => by
    by_cases z : own p
    · rw [fpo p z] at q; exact q
    · rw [fpn p z] at q; exact E.fh _ _ q
  -- behind the evaluation
  have after : ∀ F' H', Ext Fp H F' H' → Same F F' ∧ (∀ p o, B.H p = some o → F' p = B.F p) := fun F' H' e => ⟨sF.trans e.1, fun p o q => by
    have n : ¬ own p := fun z => by rw [(ownF p z).2.1] at q; cases q
    rw [e.2.2.2 p o (E.hh p o q), fpn p n]
    exact E.ag p o q⟩
  have apart : ∀ {i a u}, S.contains i = false → (∃ s, ρ[i]? = some s ∧ s.isO = true) → σ[i]? = some (some (V.ref a)) → H a = some u → F a = none → ∀ F' H', Ext Fp H F' H' → F' a = none := fun {i a u} hi ⟨s, h1, ho⟩ a1 a4 a2 F' H' e => by
    have n : ¬ own a := fun ⟨j, hj, t, q1, qo, q2⟩ => by
      have := E.ap i j a s t h1 q1 ho qo a1 q2
      subst this
      have : S.contains i = true := by simpa using hj
      rw [hi] at this; cases this
    rw [e.2.2.2 _ _ a4, fpn a n]; exact a2
  refine ⟨Fp, sH, ⟨E.len, fun i hi s d h1 h2 => ?_, fun i hi x h1 => (show ExcOk K mg ex F σ[i]? x from E.sl i _ h1).mono sF⟩, fun F' H' e => ?_, fun F' H' e => ?_⟩
  · have z := E.sl i s h1
    cases s with
    | un => cases h2
    | d v =>
      cases h2
      obtain ⟨v, a, b⟩ := z
      exact ⟨v, a, b.mono sF⟩
    | exc x => cases h2
    | own t xs =>
      cases h2
      obtain ⟨a, vs, a1, a2, a3, a4, a5, a6⟩ := z
      refine ⟨_, a1, .lst (SqL.of ?_) (a5.mono sF)⟩
      rw [fpo a ⟨i, hi, _, h1, rfl, a1⟩]; exact a4
    | obo t c ns fs =>
      cases h2
      obtain ⟨a, C, dx, fv, a1, a2, a3, m, a4, n, a5, a6⟩ := z
      refine ⟨_, a1, .obj (dx := dx) m ?_ n (a5.mono sF)⟩
      rw [fpo a ⟨i, hi, _, h1, rfl, a1⟩]; exact a4
  · obtain ⟨aF, ag⟩ := after F' H' e
    refine ⟨E.f0, E.ff.trans aF, e.2.1, E.hh.trans e.2.2.1, ag, ?_, fun i s h1 => ?_, fun i j a s t h1 h2 o1 o2 => ?_⟩
    · unfold dem; rw [List.length_mapIdx]; exact E.len
    · rw [dem_get] at h1
      cases h2 : ρ[i]? with
      | none => rw [h2] at h1; cases h1
      | some t =>
        rw [h2] at h1
        have h1 : demS (S.contains i) t = s := Option.some.inj h1
        have z := E.sl i t h2
        cases t with
        | un => subst h1; trivial
        | d d => subst h1; obtain ⟨v, a, b⟩ := z; exact ⟨v, a, b.mono aF⟩
        | exc x => subst h1; exact z.mono aF
        | own t xs =>
          obtain ⟨a, vs, a1, a2, a3, a4, a5, a6⟩ := z
          cases hi : S.contains i with
          | true =>
            rw [hi] at h1
            subst h1
            have hi' : i ∈ S := by simpa using hi
            refine ⟨_, a1, .lst (SqL.of (e.1 _ _ ?_)) (a5.mono aF)⟩
            rw [fpo a ⟨i, hi', _, h2, rfl, a1⟩]; exact a4
          | false =>
            rw [hi] at h1
            subst h1
            exact ⟨a, vs, a1, apart hi ⟨_, h2, rfl⟩ a1 a4 a2 F' H' e, a3, e.2.2.1 _ _ a4, a5.mono aF, a6⟩
        | obo t c ns fs =>
          obtain ⟨a, C, dx, fv, a1, a2, a3, m, a4, n, a5, a6⟩ := z
          cases hi : S.contains i with
          | true =>
            rw [hi] at h1
            subst h1
            have hi' : i ∈ S := by simpa using hi
            refine ⟨_, a1, .obj (dx := dx) m (e.1 _ _ ?_) n (a5.mono aF)⟩
            rw [fpo a ⟨i, hi', _, h2, rfl, a1⟩]; exact a4
          | false =>
            rw [hi] at h1
            subst h1
            exact ⟨a, C, dx, fv, a1, apart hi ⟨_, h2, rfl⟩ a1 a4 a2 F' H' e, a3, m, e.2.2.1 _ _ a4, n, a5.mono aF, a6⟩
    · exact E.ap i j a s t (dem_own h1 o1).1 (dem_own h2 o2).1 o1 o2
  · obtain ⟨aF, ag⟩ := after F' H' e
    let F2 : Hp := fun p => if own p then none else F' p
    have f2o : ∀ p, own p → F2 p = none := fun p h => if_pos h
    have f2n : ∀ p, ¬ own p → F2 p = F' p := fun p h => if_neg h
    have s2 : Same F2 F' := fun p o q => by
      by_cases z : own p
      · rw [f2o p z] at q; cases q
      · rw [f2n p z] at q; exact q
    have sF2 : Same F F2 := fun p o q => by
      have n : ¬ own p := fun z => by rw [(ownF p z).1] at q; cases q
      rw [f2n p n]; exact aF _ _ q
    have at2 : ∀ {a u}, F a = none → H a = some u → F2 a = none := fun {a u} a2 a4 => by
      by_cases z : own a
      · exact f2o a z
      · rw [f2n a z, e.2.2.2 _ _ a4, fpn a z]; exact a2
    refine ⟨F2, ⟨E.f0, E.ff.trans sF2, s2.trans e.2.1, E.hh.trans e.2.2.1, fun p o q => ?_, E.len, fun i s h1 => ?_, E.ap⟩, fun p o q => ?_, s2⟩
    · have n : ¬ own p := fun z => by rw [(ownF p z).2.1] at q; cases q
      rw [f2n p n]; exact ag p o q
    · have z := E.sl i s h1
      cases s with
      | un => trivial
      | d d => obtain ⟨v, a, b⟩ := z; exact ⟨v, a, b.mono sF2⟩
      | exc x => exact z.mono sF2
      | own t xs =>
        obtain ⟨a, vs, a1, a2, a3, a4, a5, a6⟩ := z
        exact ⟨a, vs, a1, at2 a2 a4, a3, e.2.2.1 _ _ a4, a5.mono sF2, a6⟩
      | obo t c ns fs =>
        obtain ⟨a, C, dx, fv, a1, a2, a3, m, a4, n, a5, a6⟩ := z
        exact ⟨a, C, dx, fv, a1, at2 a2 a4, a3, m, e.2.2.1 _ _ a4, n, a5.mono sF2, a6⟩
    · by_cases z : own p
      · obtain ⟨_, _, u, q2, z2⟩ := ownF p z
        have q3 : F' p = some u := e.1 p _ (by rw [fpo p z]; exact q2)
        rw [q3] at q; cases q
        exact .inl z2
      · exact .inr (by rw [f2n p z]; exact q)

theorem set_get {α : Type} {l : List α} {i j : Nat} {x y : α} (h : (l.set i x)[j]? = some y) : (j = i ∧ y = x ∧ i < l.length) ∨ (j ≠ i ∧ l[j]? = some y) := by
  by_cases e : j = i
  · subst e
    by_cases hl : j < l.length
    · rw [List.getElem?_set_self hl] at h
      exact .inl ⟨rfl, (Option.some.inj h).symm, hl⟩
    · rw [List.getElem?_eq_none (by simpa using hl)] at h; cases h
  · rw [List.getElem?_set_ne (Ne.symm e)] at h
    exact .inr ⟨e, h⟩
theorem EnvS.set (E : EnvS K mg ex B F σ H ρ) {v : V} {d : D} (r : Rep K mg F v d) (i : Nat) : EnvS K mg ex B F (σ.set i (some v)) H (ρ.set i (.d d)) := by
  refine ⟨E.f0, E.ff, E.fh, E.hh, E.ag, by rw [List.length_set, List.length_set]; exact E.len, fun j s h => ?_, fun j k a s t h1 h2 o1 o2 h3 h4 => ?_⟩
  · rcases set_get h with ⟨rfl, rfl, hl⟩ | ⟨hn, h⟩
    · exact ⟨v, by rw [List.getElem?_set_self (by rw [E.len]; exact hl)], r⟩
    · rw [List.getElem?_set_ne (Ne.symm hn)]
      exact E.sl j s h
  · rcases set_get h1 with ⟨_, z, _⟩ | ⟨n1, h1⟩
    · rw [z] at o1; cases o1
    · rcases set_get h2 with ⟨_, z, _⟩ | ⟨n2, h2⟩
      · rw [z] at o2; cases o2
      · rw [List.getElem?_set_ne (Ne.symm n1)] at h3
        rw [List.getElem?_set_ne (Ne.symm n2)] at h4
        exact E.ap j k a s t h1 h2 o1 o2 h3 h4
/-- a thing of the def's own comes to slot i -/
theorem EnvS.setO (E : EnvS K mg ex B F σ H ρ) {p : Addr} {t : Slot} (ok : ∀ i, SlotOk K mg ex B F H i (some (some (V.ref p))) t) (new : ∀ (j : Nat) s, ρ[j]? = some s → s.isO = true → σ[j]? ≠ some (some (V.ref p))) (i : Nat) :
    EnvS K mg ex B F (σ.set i (some (V.ref p))) H (ρ.set i t) := by
  refine ⟨E.f0, E.ff, E.fh, E.hh, E.ag, by rw [List.length_set, List.length_set]; exact E.len, fun j s h => ?_, fun j k a s t' h1 h2 o1 o2 h3 h4 => ?_⟩
  · rcases set_get h with ⟨rfl, rfl, hl⟩ | ⟨hn, h⟩
    · rw [List.getElem?_set_self (by rw [E.len]; exact hl)]; exact ok _
    · rw [List.getElem?_set_ne (Ne.symm hn)]
      exact E.sl j s h
  · rcases set_get h1 with ⟨e1, z1, l1⟩ | ⟨n1, h1'⟩
    · rcases set_get h2 with ⟨e2, z2, l2⟩ | ⟨n2, h2'⟩
      · rw [e1, e2]
      · rw [e1, List.getElem?_set_self (by rw [E.len]; exact l1)] at h3
        cases h3
        rw [List.getElem?_set_ne (Ne.symm n2)] at h4
        exact absurd h4 (new k _ h2' o2)
    · rcases set_get h2 with ⟨e2, z2, l2⟩ | ⟨n2, h2'⟩
      · rw [e2, List.getElem?_set_self (by rw [E.len]; exact l2)] at h4
        cases h4
        rw [List.getElem?_set_ne (Ne.symm n1)] at h3
        exact absurd h3 (new j _ h1' o1)
      · rw [List.getElem?_set_ne (Ne.symm n1)] at h3
        rw [List.getElem?_set_ne (Ne.symm n2)] at h4
        exact E.ap j k a _ _ h1' h2' o1 o2 h3 h4
theorem EnvS.setOwn (E : EnvS K mg ex B F σ H ρ) {p : Addr} {vs : List V} {xs : List D} (n0 : B.H p = none) (nf : F p = none) (hp : H p = some (.lst vs)) (r : RepAll K mg F vs xs) (new : ∀ (j : Nat) s, ρ[j]? = some s → s.isO = true → σ[j]? ≠ some (some (V.ref p))) (i : Nat) :
    EnvS K mg ex B F (σ.set i (some (V.ref p))) H (ρ.set i (.own false xs)) := E.setO (t := .own false xs) (fun _ => ⟨p, vs, rfl, nf, n0, hp, r, fun z => by cases z⟩) new i
/-- a new address is no slot's -/
theorem EnvS.newA (E : EnvS K mg ex B F σ H ρ) {p : Addr} (n : H p = none) : ∀ (j : Nat) s, ρ[j]? = some s → s.isO = true → σ[j]? ≠ some (some (V.ref p)) := fun j s h1 o h2 => by
  obtain ⟨a, u, a1, _, _, a4, _⟩ := E.at h1 o
  rw [h2] at a1; cases a1
  rw [n] at a4; cases a4
/-- a new list comes to a slot -/
theorem EnvS.setNew (E : EnvS K mg ex B F σ H ρ) {p : Addr} {vs : List V} {xs : List D} {H1 : Hp} (e : Ext F H F1 H1) (n : H p = none) (nf : F1 p = none) (hp : H1 p = some (.lst vs)) (r : RepAll K mg F1 vs xs) (i : Nat) :
    EnvS K mg ex B F1 (σ.set i (some (V.ref p))) H1 (ρ.set i (.own false xs)) := (E.grow e).setOwn (E.hh.free n) nf hp r (E.newA n) i
/-- the def's own thing at slot i changes -/
theorem EnvS.mutO (E : EnvS K mg ex B F σ H ρ) {i : Nat} {a : Addr} {s t : Slot} {u : HO} (h : ρ[i]? = some s) (o : s.isO = true) (ha : σ[i]? = some (some (V.ref a))) (ok : SlotOk K mg ex B F (upd H a u) i (some (some (V.ref a))) t) :
    EnvS K mg ex B F σ (upd H a u) (ρ.set i t) := by
  obtain ⟨a', w, a1, a2, a3, a4, _⟩ := E.at h o
  rw [ha] at a1; cases a1
  have hi : i < ρ.length := (List.getElem?_eq_some_iff.mp h).1
  refine ⟨E.f0, E.ff, fun p o q => ?_, fun p o q => ?_, E.ag, by rw [List.length_set]; exact E.len, fun j s' hj => ?_, fun j k b s' t' h1 h2 o1 o2 h3 h4 => ?_⟩
  · have n : p ≠ a := fun z => by rw [z, a2] at q; cases q
    rw [upd_ne n]; exact E.fh _ _ q
  · have n : p ≠ a := fun z => by rw [z, a3] at q; cases q
    rw [upd_ne n]; exact E.hh _ _ q
  · rcases set_get hj with ⟨rfl, rfl, hl⟩ | ⟨hn, hj⟩
    · rw [ha]; exact ok
    · have z := E.sl j s' hj
      cases s' with
      | un => trivial
      | d d => exact z
      | exc x => exact z
      | own t zs =>
        obtain ⟨b, ws, b1, b2, b3, b4, b5⟩ := z
        refine ⟨b, ws, b1, b2, b3, ?_, b5⟩
        have n : b ≠ a := fun z => hn (by subst z; exact E.ap j i b _ s hj h rfl o b1 ha)
        rw [upd_ne n]; exact b4
      | obo t c ns fs =>
        obtain ⟨b, C, dx, fv, b1, b2, b3, m, b4, n', b5⟩ := z
        refine ⟨b, C, dx, fv, b1, b2, b3, m, ?_, n', b5⟩
        have n : b ≠ a := fun z => hn (by subst z; exact E.ap j i b _ s hj h rfl o b1 ha)
        rw [upd_ne n]; exact b4
  · rcases set_get h1 with ⟨e1, z1, _⟩ | ⟨n1, h1'⟩
    · rcases set_get h2 with ⟨e2, z2, _⟩ | ⟨n2, h2'⟩
      · rw [e1, e2]
      · rw [e1] at h3
        rw [e1]
        exact E.ap _ _ b s t' h h2' o o2 h3 h4
    · rcases set_get h2 with ⟨e2, z2, _⟩ | ⟨n2, h2'⟩
      · rw [e2] at h4
        rw [e2]
        exact E.ap _ _ b s' s h1' h o1 o h3 h4
      · exact E.ap _ _ b s' t' h1' h2' o1 o2 h3 h4
theorem EnvS.mut (E : EnvS K mg ex B F σ H ρ) {i : Nat} {a : Addr} {t : Bool} {xs ys : List D} {us : List V} (h : ρ[i]? = some (.own t xs)) (ha : σ[i]? = some (some (V.ref a))) (r : RepAll K mg F us ys) :
    EnvS K mg ex B F σ (upd H a (.lst us)) (ρ.set i (.own t ys)) := by
  obtain ⟨a', vs, a1, a2, a3, a4, a5, a6⟩ := E.sl i _ h
  rw [ha] at a1; cases a1
  exact E.mutO h rfl ha ⟨a, us, rfl, a2, a3, upd_same, r, a6⟩
end

/-! ### what a statement comes to -/
inductive SRes where
  | nx (ρ : DEnv) | rt (d : D) | bk (ρ : DEnv) | ct (ρ : DEnv) | er (x : Exn) (ρ : DEnv) | st
/-- how a def hands back: fr: a list that is its own -/
def RR (K : PySem.W.Frag) (mg : Str → Option Value) : Bool → Hp → Hp → Hp → V → D → Prop
  | false => RD K mg
  | true => fun H F' H' v d => ∃ xs, d = .lst xs ∧ RF K mg H F' H' v xs
def OutS (K : PySem.W.Frag) (mg : Str → Option Value) (fr : Bool) (We : WeX) (B : Bs) (E : Ends) : SRes → Prop
  | .nx ρ => ∀ F σ H, EnvS K mg We.ex B F σ H ρ → E.nx σ H
  | .bk ρ => ∀ F σ H, EnvS K mg We.ex B F σ H ρ → E.bk σ H
  | .ct ρ => ∀ F σ H, EnvS K mg We.ex B F σ H ρ → E.ct σ H
  | .rt d => ∀ F H v, Ext B.F B.H F H → RR K mg fr B.H F H v d → E.rt v H
  | .er x ρ => ∀ F σ H C d, EnvS K mg We.ex B F σ H ρ → mg x.c = some (.ref C) → XFs K mg B.H H d x.ns x.fs → We (.ref C) d σ H
  | .st => False
def tS (K : PySem.W.Frag) (mg : Str → Option Value) (fr : Bool) (We : WeX) (g : DEnv → SRes) : TS := fun E σ H => ∃ B F ρ, EnvS K mg We.ex B F σ H ρ ∧ OutS K mg fr We B E (g ρ)
abbrev SD (X : Cx) (fr : Bool) (We : WeX) (st : Stmt) (g : DEnv → SRes) : Prop := PS X st (tS X.K X.mg fr We g)
abbrev SDs (X : Cx) (fr : Bool) (We : WeX) (st : List Stmt) (g : DEnv → SRes) : Prop := PSs X st (tS X.K X.mg fr We g)

def sNil : DEnv → SRes := .nx
def SRes.seq (r : SRes) (g : DEnv → SRes) : SRes := match r with
  | .nx ρ => g ρ
  | r => r
def sSeq (f g : DEnv → SRes) : DEnv → SRes := fun ρ => (f ρ).seq g
/-- what follows an evaluation: keep (S's lists stay the def's own: no list in the value), or not -/
def after {β : Type} (r : Res β) (ρ : DEnv) (g : β → SRes) : SRes := match r with
  | .ok d => g d
  | .er x => .er x ρ
  | .st => .st
def rest (k : Bool) (S : List Nat) (d : Bool → Bool) (ρ : DEnv) (g : DEnv → SRes) : SRes := if k then (if d (hasO S ρ) then g ρ else .st) else g (dem S ρ)

section
variable {K : PySem.W.Frag} {mg : Str → Option Value} {fr : Bool} {We : WeX} {B : Bs} {F H : Hp} {σ : L2.St} {ρ : DEnv} {E : Ends} {S : List Nat}
theorem OutS.imp {r : SRes} {E' : Ends} (h : OutS K mg fr We B E r) (h1 : ∀ σ H, E.nx σ H → E'.nx σ H) (h2 : ∀ v H, E.rt v H → E'.rt v H) (h3 : ∀ σ H, E.bk σ H → E'.bk σ H) (h4 : ∀ σ H, E.ct σ H → E'.ct σ H) : OutS K mg fr We B E' r := by
  cases r with
  | nx ρ => exact fun F σ H q => h1 _ _ (h F σ H q)
  | bk ρ => exact fun F σ H q => h3 _ _ (h F σ H q)
  | ct ρ => exact fun F σ H q => h4 _ _ (h F σ H q)
  | rt d => exact fun F H v a b => h2 _ _ (h F H v a b)
  | er x ρ => exact h
  | st => exact h
theorem OutS.seq {r : SRes} {g : DEnv → SRes} (h : OutS K mg fr We B E (r.seq g)) : OutS K mg fr We B { E with nx := tS K mg fr We g E } r := by
  cases r with
  | nx ρ => exact fun F σ H q => ⟨B, F, ρ, q, h⟩
  | bk ρ => exact h
  | ct ρ => exact h
  | rt d => exact h
  | er x ρ => exact h
  | st => exact h
/-- an expression within a statement -/
theorem OutS.eval {α β : Type} {R : Hp → Hp → Hp → α → β → Prop} {f : DEnv → Res β} {g : β → SRes} {Q : α → Hp → Prop} (e : EnvS K mg We.ex B F σ H ρ) (h : OutS K mg fr We B E (after (f ρ) ρ g))
    (k : ∀ Fp F' H' v d, f ρ = .ok d → OutS K mg fr We B E (g d) → Ext Fp H F' H' → R H F' H' v d → EnvS K mg We.ex B F' σ H' (dem S ρ) → (∃ F2, EnvS K mg We.ex B F2 σ H' ρ ∧ LessL (hasO S ρ) F' F2 ∧ Same F2 F') → Q v H') : tG K mg We R S f σ H Q := by
  obtain ⟨Fp, h1, h2, h3, h4⟩ := e.fz S
  refine ⟨Fp, ρ, h1, h2, ?_⟩
  cases hf : f ρ with
  | ok d =>
    rw [hf] at h
    exact fun F' H' v ex r => k Fp F' H' v d hf h ex r (h3 F' H' ex) (h4 F' H' ex)
  | er x =>
    rw [hf] at h
    exact fun C d H' sm m q => h F σ H' C d (e.heap sm) m (q.back e.hh)
  | st => rw [hf] at h; exact h
/-- .. a value -/
theorem OutS.evalD {k : Bool} {f : DEnv → Res D} {g : D → DEnv → SRes} {Q : VK} (e : EnvS K mg We.ex B F σ H ρ) (h : OutS K mg fr We B E (after (f ρ) ρ fun d => rest k S (fun b => d.nlx b) ρ (g d)))
    (q : ∀ F' H' v d ρ', EnvS K mg We.ex B F' σ H' ρ' → Rep K mg F' v d → OutS K mg fr We B E (g d ρ') → Q v H') : tG K mg We (RD K mg) S f σ H Q := by
  refine OutS.eval e h fun Fp F' H' v d hf hg ex r e1 ⟨F2, e2, l, s2⟩ => ?_
  cases k with
  | true =>
    have hg : OutS K mg fr We B E (if d.nlx (hasO S ρ) then g d ρ else .st) := hg
    cases hn : d.nlx (hasO S ρ) with
    | true =>
      rw [hn, if_pos rfl] at hg
      exact q F2 H' v d ρ e2 (r.less l d v hn) hg
    | false => rw [hn, if_neg Bool.false_ne_true] at hg; exact hg.elim
  | false => exact q F' H' v d _ e1 r hg
/-- .. a bool -/
theorem OutS.evalB {f : DEnv → Res Bool} {g : Bool → SRes} {Q : Bool → Hp → Prop} (e : EnvS K mg We.ex B F σ H ρ) (h : OutS K mg fr We B E (after (f ρ) ρ g))
    (q : ∀ F' H' b, EnvS K mg We.ex B F' σ H' ρ → OutS K mg fr We B E (g b) → Q b H') : tG K mg We RB S f σ H Q := by
  refine OutS.eval e h fun Fp F' H' v d hf hg ex r e1 ⟨F2, e2, l, s2⟩ => ?_
  have z : v = d := r
  subst z
  exact q F2 H' v e2 hg
end

section
variable {X : Cx} {fr : Bool} {We : WeX} {st : Stmt} {rest' : List Stmt} {f g : DEnv → SRes} {e c : PySem.Expr} {S : List Nat} {pos : Pos}
theorem sds_nil : SDs X fr We [] sNil := pss_imp pss_nil fun E σ H ⟨B, F, ρ, e, h⟩ => h F σ H e
theorem sds_cons (h1 : SD X fr We st f) (h2 : SDs X fr We rest' g) : SDs X fr We (st :: rest') (sSeq f g) :=
  pss_imp (pss_cons h1 h2) fun E σ H ⟨B, F, ρ, e, h⟩ => ⟨B, F, ρ, e, OutS.seq h⟩
theorem sds_one (h1 : SD X fr We st f) : SDs X fr We [st] f := pss_one h1
def sNever : DEnv → SRes := fun _ => .st
theorem sd_never : SD X fr We st sNever := ps_imp ps_never fun E σ H ⟨B, F, ρ, e, h⟩ => h
theorem sds_never {sts : List Stmt} : SDs X fr We sts sNever := pss_imp pss_never fun E σ H ⟨B, F, ρ, e, h⟩ => h
theorem sd_pass : SD X fr We (.Pass pos) sNil := ps_imp ps_pass fun E σ H ⟨B, F, ρ, e, h⟩ => h F σ H e
def sBk : DEnv → SRes := .bk
def sCt : DEnv → SRes := .ct
theorem sd_break : SD X fr We (.Break pos) sBk := ps_imp ps_break fun E σ H ⟨B, F, ρ, e, h⟩ => h F σ H e
theorem sd_cont : SD X fr We (.Continue pos) sCt := ps_imp ps_continue fun E σ H ⟨B, F, ρ, e, h⟩ => h F σ H e
/-! ### name = value -/
def sAsg (k : Bool) (S : List Nat) (i : Nat) (f : DEnv → Res D) : DEnv → SRes := fun ρ => after (f ρ) ρ fun d => rest k S (fun b => d.nlx b) ρ fun ρ' => .nx (ρ'.set i (.d d))
theorem sd_asg (k : Bool) {i : Nat} {x : Str} {pos' : Pos} {fe : DEnv → Res D} (hN : X.N.Nodup) (he : PD X We S e fe) (hi : X.N[i]? = some x := by rfl) (hx : Loc X.env.scope x := by first | exact Or.inl rfl | exact Or.inr rfl)
    (hs : swapsWith e (some (.Name x pos')) pos.line X.env = pure false := by rfl) (hf : X.fn x = true ∨ X.env.scope.names.lookup x = some .local := by first | exact .inl rfl | exact .inr rfl | assumption) :
    SD X fr We (.Assign [.Name x pos'] e pos) (sAsg k S i fe) :=
  ps_imp (ps_set hN hi hx he hs hf) fun E σ H ⟨B, F, ρ, e, h⟩ => OutS.evalD e h fun F' H' v d ρ' e' r q => q F' _ H' (e'.set r i)
def sAsgF (k : Bool) (S : List Nat) (i : Nat) (f : DEnv → Res (List D)) : DEnv → SRes := fun ρ => after (f ρ) ρ fun xs => rest k S (fun b => nlxs b xs) ρ fun ρ' => .nx (ρ'.set i (.own false xs))
theorem evalF_set {K : PySem.W.Frag} {mg : Str → Option Value} {B : Bs} {F H : Hp} {σ : L2.St} {ρ : DEnv} {E : Ends} {k : Bool} {i : Nat} {fe : DEnv → Res (List D)} (e : EnvS K mg We.ex B F σ H ρ) (h : OutS K mg fr We B E (sAsgF k S i fe ρ)) :
    tG K mg We (RF K mg) S fe σ H (fun v H' => E.nx (σ.set i (some v)) H') := by
  refine OutS.eval e h fun Fp F' H' v xs hf hg ex r e1 ⟨F2, e2, l, s2⟩ => ?_
  obtain ⟨p, vs, rfl, n, nf, hp, r⟩ := r
  have new := e.newA n
  cases k with
  | true =>
    have hg : OutS K mg fr We B E (if nlxs (hasO S ρ) xs then .nx (ρ.set i (.own false xs)) else .st) := hg
    cases hn : nlxs (hasO S ρ) xs with
    | true =>
      rw [hn, if_pos rfl] at hg
      refine hg F2 _ H' (e2.setOwn (e.hh.free n) ?_ hp (r.less l xs vs hn) new i)
      cases q : F2 p with
      | none => rfl
      | some o => rw [s2 p o q] at nf; cases nf
    | false => rw [hn, if_neg Bool.false_ne_true] at hg; exact hg.elim
  | false => exact hg F' _ H' (e1.setOwn (e.hh.free n) nf hp r (fun j s h1 o => new j s (dem_own h1 o).1 o) i)
theorem sd_asgF (k : Bool) {i : Nat} {x : Str} {pos' : Pos} {fe : DEnv → Res (List D)} (hN : X.N.Nodup) (he : PF X We S e fe) (hi : X.N[i]? = some x := by rfl) (hx : Loc X.env.scope x := by first | exact Or.inl rfl | exact Or.inr rfl)
    (hs : swapsWith e (some (.Name x pos')) pos.line X.env = pure false := by rfl) (hf : X.fn x = true ∨ X.env.scope.names.lookup x = some .local := by first | exact .inl rfl | exact .inr rfl | assumption) :
    SD X fr We (.Assign [.Name x pos'] e pos) (sAsgF k S i fe) :=
  ps_imp (ps_set hN hi hx he hs hf) fun E σ H ⟨B, F, ρ, e, h⟩ => evalF_set e h

/-! ### if, while, return -/
def sIf (c : DEnv → Res Bool) (f g : DEnv → SRes) : DEnv → SRes := fun ρ => after (c ρ) ρ fun b => if b then f ρ else g ρ
theorem sd_if {a b : List Stmt} {ce : DEnv → Res Bool} (hc : PTD X We S c ce) (ha : SDs X fr We a f) (hb : SDs X fr We b g) : SD X fr We (.If c a b pos) (sIf ce f g) :=
  ps_imp (ps_if hc ha hb) fun E σ H ⟨B, F, ρ, e, h⟩ => OutS.evalB e h fun F' H' b e' q => by
    cases b with
    | true => rw [if_pos rfl] at q ⊢; exact ⟨B, F', ρ, e', q⟩
    | false => rw [if_neg Bool.false_ne_true] at q ⊢; exact ⟨B, F', ρ, e', q⟩
def sRet (S : List Nat) (f : DEnv → Res D) : DEnv → SRes := fun ρ => after (f ρ) ρ fun d => .rt d
theorem sd_ret {fe : DEnv → Res D} (he : PD X We S e fe) : SD X false We (.Return (some e) pos) (sRet S fe) :=
  ps_imp (ps_ret he) fun E σ H ⟨B, F, ρ, e, h⟩ => OutS.eval e h fun Fp F' H' v d hf hg ex r e1 _ => hg F' H' v e1.ext r
def sRetF (S : List Nat) (f : DEnv → Res (List D)) : DEnv → SRes := fun ρ => after (f ρ) ρ fun xs => .rt (.lst xs)
theorem sd_retF {fe : DEnv → Res (List D)} (he : PF X We S e fe) : SD X true We (.Return (some e) pos) (sRetF S fe) :=
  ps_imp (ps_ret he) fun E σ H ⟨B, F, ρ, e, h⟩ => OutS.eval e h fun Fp F' H' v d hf hg ex r e1 _ => hg F' H' v e1.ext ⟨d, rfl, Anti.anti e.hh r⟩
/-- return of the def's own list -/
def sRetO (i : Nat) : DEnv → SRes := fun ρ => match ρ[i]? with
  | some (.own _ xs) => .rt (.lst xs)
  | _ => .st
theorem sd_retO (i : Nat) {x : Str} {p : Pos} (hN : X.N[i]? = some x := by rfl) (hv : Vis X.env.scope x := by first | exact Or.inl rfl | exact Or.inr (Or.inl rfl) | exact Or.inr (Or.inr rfl)) (hd : (x == ("__debug__" : Str)) = false := by decide)
    (hcd : (x == ("__classdict__" : Str)) = false := by decide) : SD X true We (.Return (some (.Name x p)) pos) (sRetO i) :=
  ps_imp (ps_ret (pe_var hN hv hd hcd)) fun E σ H ⟨B, F, ρ, e, h⟩ => by
    unfold sRetO at h
    cases h1 : ρ[i]? with
    | none => rw [h1] at h; exact h.elim
    | some s =>
      rw [h1] at h
      cases s with
      | own t xs =>
        obtain ⟨a, vs, a1, a2, a3, a4, a5, _⟩ := e.sl i _ h1
        exact ⟨_, a1, h F H _ e.ext ⟨xs, rfl, a, vs, rfl, a3, a2, a4, a5⟩⟩
      | un => exact h.elim
      | d d => exact h.elim
      | obo t c ns fs => exact h.elim
      | exc x => exact h.elim
def sRetN : DEnv → SRes := fun _ => .rt .non
theorem sd_retN : SD X false We (.Return none pos) sRetN :=
  ps_imp ps_retN fun E σ H ⟨B, F, ρ, e, h⟩ => h F H .non e.ext .non
/-- while: n turns at most -/
def whL (c : DEnv → Res Bool) (f : DEnv → SRes) : Nat → DEnv → SRes
  | 0, _ => .st
  | n + 1, ρ => after (c ρ) ρ fun b => if b then (match f ρ with
      | .nx ρ' => whL c f n ρ'
      | .ct ρ' => whL c f n ρ'
      | .bk ρ' => .nx ρ'
      | r => r) else .nx ρ
theorem sd_while (n : Nat) {body : List Stmt} {ce : DEnv → Res Bool} (hp : PassesOwn (model X.prog X.w) X.A X.env X.xe) (hc : PTD X We S c ce) (hb : SDs X fr We body f) : SD X fr We (.While c body [] pos) (whL ce f n) :=
  ps_imp (ps_while hp hc hb) fun E σ H ⟨B, F, ρ, e, h⟩ => by
    refine ⟨fun m σ H => ∃ F ρ, EnvS X.K X.mg We.ex B F σ H ρ ∧ OutS X.K X.mg fr We B E (whL ce f m ρ), ⟨n, F, ρ, e, h⟩, fun m σ H ⟨F, ρ, e, h⟩ => ?_⟩
    cases m with
    | zero => exact h.elim
    | succ m =>
      refine OutS.evalB e h fun F' H' b e' q => ?_
      cases b with
      | false => rw [if_neg Bool.false_ne_true] at q ⊢; exact q F' σ H' e'
      | true =>
        rw [if_pos rfl] at q ⊢
        refine ⟨fun σ H => ∃ F ρ, EnvS X.K X.mg We.ex B F σ H ρ ∧ OutS X.K X.mg fr We B E (whL ce f m ρ), fun σ' H' h' => ⟨m, Nat.lt_succ_self m, h'⟩, B, F', ρ, e', ?_⟩
        cases hf : f ρ with
        | nx ρ' => rw [hf] at q; exact fun F σ H z => ⟨F, ρ', z, q⟩
        | ct ρ' => rw [hf] at q; exact fun F σ H z => ⟨F, ρ', z, q⟩
        | bk ρ' => rw [hf] at q; exact q
        | rt d => rw [hf] at q; exact q
        | er x ρ' => rw [hf] at q; exact q
        | st => rw [hf] at q; exact q
/-- an expression's value is dropped -/
def sDrop (k : Bool) (S : List Nat) (f : DEnv → Res D) : DEnv → SRes := fun ρ => after (f ρ) ρ fun d => rest k S (fun b => d.nlx b) ρ fun ρ' => .nx ρ'
theorem sd_drop (k : Bool) {fe : DEnv → Res D} (he : PD X We S e fe) (hs : swapsWith e none pos.line X.env = pure false := by rfl) : SD X fr We (.Expr e pos) (sDrop k S fe) :=
  ps_imp (ps_expr he hs) fun E σ H ⟨B, F, ρ, e, h⟩ => OutS.evalD e h fun F' H' v d ρ' e' r q => q F' _ H' e'
end

/-! ### targets: which slots get what -/
def setAll {α : Type} (l : List α) : List Nat → List α → List α
  | [], _ => l
  | _ :: _, [] => l
  | i :: is, x :: xs => setAll (l.set i x) is xs
def tT (K : PySem.W.Frag) (mg : Str → Option Value) (sl : List Nat) (g : D → Option (List D)) : TG := fun v σ H Q =>
  ∃ F d ds, Same F H ∧ Rep K mg F v d ∧ g d = some ds ∧ ds.length = sl.length ∧ ∀ vs, RepAll K mg F vs ds → Q (setAll σ sl (vs.map some)) H
def tTs (K : PySem.W.Frag) (mg : Str → Option Value) (sl : List Nat) (g : List D → Option (List D)) : TGs := fun vs σ H Q =>
  ∃ F d ds, Same F H ∧ RepAll K mg F vs d ∧ g d = some ds ∧ ds.length = sl.length ∧ ∀ vs, RepAll K mg F vs ds → Q (setAll σ sl (vs.map some)) H
abbrev GD (X : Cx) (tg : PySem.Expr) (sl : List Nat) (g : D → Option (List D)) : Prop := PG X tg (tT X.K X.mg sl g) ∧ ∀ d ds, g d = some ds → ds.length = sl.length
abbrev GDs (X : Cx) (tgs : List PySem.Expr) (sl : List Nat) (g : List D → Option (List D)) : Prop := PGs X tgs (tTs X.K X.mg sl g) ∧ ∀ d ds, g d = some ds → ds.length = sl.length
theorem pg_imp {X : Cx} {tg : PySem.Expr} {t t' : TG} (h : PG X tg t) (i : ∀ v σ H Q, t' v σ H Q → t v σ H Q) : PG X tg t' := ⟨fun pins s σ H v u Q I r q => h.run pins s σ H v u Q I r (i v σ H Q q)⟩
theorem pgs_imp {X : Cx} {tg : List PySem.Expr} {t t' : TGs} (h : PGs X tg t) (i : ∀ v σ H Q, t' v σ H Q → t v σ H Q) : PGs X tg t' := ⟨fun pins s σ H v u Q I r q => h.run pins s σ H v u Q I r (i v σ H Q q)⟩
def g1 : D → Option (List D) := fun d => some [d]
def gN : List D → Option (List D)
  | [] => some []
  | _ => none
def gC (g : D → Option (List D)) (r : List D → Option (List D)) : List D → Option (List D)
  | d :: ds => (g d).bind fun a => (r ds).bind fun b => some (a ++ b)
  | [] => none
def gT (n : Nat) (g : List D → Option (List D)) : D → Option (List D)
  | .tup xs => if xs.length = n then g xs else none
  | _ => none
def gL (n : Nat) (g : List D → Option (List D)) : D → Option (List D)
  | .lst xs => if xs.length = n then g xs else none
  | _ => none
theorem setAll_append {α : Type} : ∀ (a b : List Nat) (xs ys : List α) (l : List α), xs.length = a.length → setAll l (a ++ b) (xs ++ ys) = setAll (setAll l a xs) b ys
  | [], _, [], _, _, _ => rfl
  | [], _, _ :: _, _, _, h => by cases h
  | _ :: _, _, [], _, _, h => by cases h
  | i :: a, b, x :: xs, ys, l, h => setAll_append a b xs ys (l.set i x) (by simpa using h)
theorem RepAll.split {K : PySem.W.Frag} {mg : Str → Option Value} {F : Hp} : ∀ {ds es : List D} {vs : List V}, RepAll K mg F vs (ds ++ es) → ∃ us ws, vs = us ++ ws ∧ RepAll K mg F us ds ∧ RepAll K mg F ws es
  | [], _, vs, h => ⟨[], vs, rfl, .nil, h⟩
  | d :: ds, es, vs, h => by
    cases h with
    | cons a b =>
      obtain ⟨us, ws, e, r1, r2⟩ := RepAll.split b
      exact ⟨_ :: us, ws, by rw [e]; rfl, .cons a r1, r2⟩
section
variable {X : Cx} {pos : Pos}
theorem gd_name {i : Nat} {x : Str} (hN : X.N.Nodup) (hi : X.N[i]? = some x := by rfl) (hx : Loc X.env.scope x := by first | exact Or.inl rfl | exact Or.inr rfl) (hf : X.fn x = true ∨ X.env.scope.names.lookup x = some .local := by first | exact .inl rfl | exact .inr rfl | assumption) : GD X (.Name x pos) [i] g1 := by
  refine ⟨pg_imp (pg_name hN hi hx hf) fun v σ H Q ⟨F, d, ds, hF, r, e, _, q⟩ => ?_, fun d ds e => ?_⟩
  · cases e
    exact q [v] (.cons r .nil)
  · cases e; rfl
theorem gds_nil : GDs X [] [] gN := by
  refine ⟨pgs_imp pgs_nil fun v σ H Q ⟨F, d, ds, hF, r, e, _, q⟩ => ?_, fun d ds e => ?_⟩
  · cases d with
    | nil => cases r; cases e; exact ⟨rfl, q [] .nil⟩
    | cons a b => cases e
  · cases d with
    | nil => cases e; rfl
    | cons a b => cases e
theorem gC_some {g : D → Option (List D)} {r : List D → Option (List D)} {a : D} {b : List D} {ds : List D} (e : gC g r (a :: b) = some ds) : ∃ x y, g a = some x ∧ r b = some y ∧ ds = x ++ y := by
  have e : ((g a).bind fun x => (r b).bind fun y => some (x ++ y)) = some ds := e
  cases ha : g a with
  | none => rw [ha] at e; cases e
  | some x =>
    rw [ha] at e
    cases hb : r b with
    | none => simp only [Option.bind_some, hb] at e; cases e
    | some y =>
      simp only [Option.bind_some, hb] at e
      cases e
      exact ⟨x, y, rfl, rfl, rfl⟩
theorem gds_cons {e : PySem.Expr} {es : List PySem.Expr} {s1 s2 : List Nat} {g : D → Option (List D)} {r : List D → Option (List D)} (h1 : GD X e s1 g) (h2 : GDs X es s2 r)
    (hs : (assignEach (e :: es) X.env).map (·.2) = assign e X.env :: (assignEach es X.env).map (·.2) := by rfl) : GDs X (e :: es) (s1 ++ s2) (gC g r) := by
  refine ⟨pgs_imp (pgs_cons h1.1 h2.1 hs) fun v σ H Q ⟨F, d, ds, hF, rr, e, _, q⟩ => ?_, fun d ds e => ?_⟩
  · cases d with
    | nil => cases e
    | cons a b =>
      obtain ⟨x, y, ha, hb, rfl⟩ := gC_some e
      cases v with
      | nil => cases rr
      | cons v0 vs0 =>
      cases rr with
      | cons r1 r2 =>
        refine ⟨v0, vs0, rfl, F, a, x, hF, r1, ha, h1.2 _ _ ha, fun us ru => ?_⟩
        refine ⟨F, b, y, hF, r2, hb, h2.2 _ _ hb, fun ws rw' => ?_⟩
        have z := q (us ++ ws) (ru.append rw')
        rw [List.map_append, setAll_append s1 s2 _ _ _ (by rw [List.length_map, ru.length]; exact h1.2 _ _ ha)] at z
        exact z
  · cases d with
    | nil => cases e
    | cons a b =>
      obtain ⟨x, y, ha, hb, rfl⟩ := gC_some e
      rw [List.length_append, List.length_append, h1.2 _ _ ha, h2.2 _ _ hb]
theorem gT_some {n : Nat} {g : List D → Option (List D)} {d : D} {ds : List D} (e : gT n g d = some ds) : ∃ xs, d = .tup xs ∧ xs.length = n ∧ g xs = some ds := by
  cases d with
  | tup xs =>
    have e : (if xs.length = n then g xs else none) = some ds := e
    by_cases hl : xs.length = n
    · rw [if_pos hl] at e; exact ⟨xs, rfl, hl, e⟩
    · rw [if_neg hl] at e; cases e
  | _ => cases e
theorem gd_tup {es : List PySem.Expr} {k n : Nat} {s : List Nat} {g : List D → Option (List D)} (hc : X.calm = true) (h : GDs X es s g)
    (hn : (assignEach es X.env).length = n := by rfl) (hst : (assignEach es X.env).findIdx? (·.1) = none := by rfl) : GD X (.Tuple es k pos) s (gT n g) := by
  refine ⟨pg_imp (pg_tup hc h.1 hn hst) fun v σ H Q ⟨F, d, ds, hF, r, e, l, q⟩ => ?_, fun d ds e => ?_⟩
  · obtain ⟨xs, rfl, hl, e⟩ := gT_some e
    cases r with
    | tup a b => exact ⟨_, _, rfl, SqT.same hF a, by rw [b.length]; exact hl, F, xs, ds, hF, b, e, l, q⟩
  · obtain ⟨xs, rfl, hl, e⟩ := gT_some e
    exact h.2 _ _ e
end

section
variable {K : PySem.W.Frag} {mg : Str → Option Value} {B : Bs} {F H : Hp}
theorem EnvS.setAll {ex : EXP} : ∀ (sl : List Nat) (vs : List V) (ds : List D) {σ : L2.St} {ρ : DEnv}, EnvS K mg ex B F σ H ρ → RepAll K mg F vs ds → EnvS K mg ex B F (DL.setAll σ sl (vs.map some)) H (DL.setAll ρ sl (ds.map Slot.d))
  | [], [], [], _, _, e, _ => e
  | [], _ :: _, _ :: _, _, _, e, _ => e
  | _, [], _ :: _, _, _, _, h => by cases h
  | _, _ :: _, [], _, _, _, h => by cases h
  | _ :: _, [], [], _, _, e, _ => e
  | i :: sl, v :: vs, d :: ds, _, _, e, h => by
    cases h with
    | cons a b => exact EnvS.setAll sl vs ds (e.set a i) b
end
/-- a, b = e -/
def sTgt (k : Bool) (S sl : List Nat) (g : D → Option (List D)) (f : DEnv → Res D) : DEnv → SRes := fun ρ => after (f ρ) ρ fun d => rest k S (fun b => d.nlx b) ρ fun ρ' => match g d with
  | some ds => .nx (setAll ρ' sl (ds.map Slot.d))
  | none => .st
section
variable {X : Cx} {fr : Bool} {We : WeX} {S sl : List Nat} {pos : Pos} {e tg : PySem.Expr}
theorem sd_tgt (k : Bool) {g : D → Option (List D)} {fe : DEnv → Res D} (he : PD X We S e fe) (hg : GD X tg sl g) (hs : swapsWithSole [tg] e pos.line X.env = pure false := by rfl) (hw : swappedStores [tg] e X.env = pure none := by rfl)
    (h1 : (assignEach [tg] X.env).map (·.2) = [assign tg X.env] := by rfl) : SD X fr We (.Assign [tg] e pos) (sTgt k S sl g fe) :=
  ps_imp (ps_asg he hg.1 hs hw h1) fun E σ H ⟨B, F, ρ, e, h⟩ => OutS.evalD e h fun F' H' v d ρ' e' r q => by
    cases hd : g d with
    | none => rw [hd] at q; exact q.elim
    | some ds =>
      rw [hd] at q
      exact ⟨F', d, ds, e'.fh, r, hd, hg.2 _ _ hd, fun vs rv => q F' _ H' (EnvS.setAll sl vs ds e' rv)⟩

/-! ### the def's own list changes -/
def sApp (k : Bool) (S : List Nat) (i : Nat) (f : DEnv → Res D) : DEnv → SRes := fun ρ => match ρ[i]? with
  | some (.own _ _) => after (f ρ) ρ fun d => rest k S (fun b => d.nlx b) ρ fun ρ' => match ρ'[i]? with
    | some (.own t xs) => if xs.length < lim then .nx (ρ'.set i (.own t (xs ++ [d]))) else .st
    | _ => .st
  | _ => .st
theorem sd_app (k : Bool) (i : Nat) {x : Str} {np apos cpos : Pos} {e : PySem.Expr} {fe : DEnv → Res D} (he : PD X We S e fe) (hN : X.N[i]? = some x := by rfl) (hv : Vis X.env.scope x := by first | exact Or.inl rfl | exact Or.inr (Or.inl rfl) | exact Or.inr (Or.inr rfl))
    (hpe : ∀ {r : TE} {t : TA}, PE X (.Name x np) r → PA X [e] t → PE X (.Call (.Attribute (.Name x np) "append" apos) [e] [] cpos) (tBM X.K "list" rAppend r t) := by exact fun a b => pe_bm PySem.F.plainAttrs_list PySem.F.slot_list_append PySem.F.type_list_append mt_append a b)
    (hd : (x == ("__debug__" : Str)) = false := by decide) (hcd : (x == ("__classdict__" : Str)) = false := by decide) (hs1 : starEach [e] X.env = (false, eval e X.env) :: starEach [] X.env := by rfl)
    (hs : swapsWith (.Call (.Attribute (.Name x np) "append" apos) [e] [] cpos) none pos.line X.env = pure false := by rfl) : SD X fr We (.Expr (.Call (.Attribute (.Name x np) "append" apos) [e] [] cpos) pos) (sApp k S i fe) :=
  ps_imp (ps_expr (hpe (pe_var hN hv hd hcd) (pa_cons he pa_nil hs1)) hs) fun E σ H ⟨B, F, ρ, e, h⟩ => by
    have h : OutS X.K X.mg fr We B E (match ρ[i]? with
      | some (.own _ _) => after (fe ρ) ρ fun d => rest k S (fun b => d.nlx b) ρ fun ρ' => match ρ'[i]? with
        | some (.own t xs) => if xs.length < lim then .nx (ρ'.set i (.own t (xs ++ [d]))) else .st
        | _ => .st
      | _ => .st) := h
    cases h0 : ρ[i]? with
    | none => rw [h0] at h; exact h.elim
    | some s =>
    rw [h0] at h
    cases s with
    | un => exact h.elim
    | d d => exact h.elim
    | exc x => exact h.elim
    | obo t c ns fs => exact h.elim
    | own t xs =>
    obtain ⟨a, vs, ha, a2, a3, a4, a5, _⟩ := e.sl i _ h0
    refine ⟨_, ha, .inl ⟨rfl, _, SqL.of a4⟩, ?_⟩
    refine OutS.evalD (k := k) (g := fun d ρ' => match ρ'[i]? with
        | some (.own t xs) => if xs.length < lim then .nx (ρ'.set i (.own t (xs ++ [d]))) else .st
        | _ => .st) e h fun F' H' v d ρ' e' r q => by
      cases h1 : ρ'[i]? with
      | none => rw [h1] at q; exact q.elim
      | some s =>
        rw [h1] at q
        cases s with
        | un => exact q.elim
        | d d => exact q.elim
        | exc x => exact q.elim
        | obo t c ns fs => exact q.elim
        | own t xs =>
          have q : OutS X.K X.mg fr We B E (if xs.length < lim then .nx (ρ'.set i (.own t (xs ++ [d]))) else .st) := q
          by_cases hl : xs.length < lim
          · rw [if_pos hl] at q
            obtain ⟨a', vs, a1, a2, a3, a4, a5, _⟩ := e'.sl i _ h1
            rw [ha] at a1; cases a1
            exact ⟨a, vs, v, rfl, rfl, a4, by rw [a5.length]; exact lt_line hl, q F' σ _ (e'.mut h1 ha (a5.append (.cons r .nil)))⟩
          · rw [if_neg hl] at q; exact q.elim
end
end DL
set_option Elab.async false
set_option linter.all false
set_option maxRecDepth 100000
set_option maxHeartbeats 1000000
/-! DL3: operators, built-ins, by data. -/
namespace DL
open PySem PySem.Spec PyProof.Rows L2

/-! ### arithmetic -/
def dAdd : D → D → Res D
  | .int i, .int j => .ok (.int (i + j))
  | .str x, .str y => if x.length + y.length ≤ lim then .ok (.str (x ++ y)) else .st
  | .tup xs, .tup ys => if xs.length + ys.length ≤ lim then .ok (.tup (xs ++ ys)) else .st
  | _, _ => .st
def dI2 (g : Int → Int → Int) : D → D → Res D
  | .int i, .int j => .ok (.int (g i j))
  | _, _ => .st
def dI2c (c : Int → Int → Bool) (g : Int → Int → Int) : D → D → Res D
  | .int i, .int j => if c i j = true then .ok (.int (g i j)) else .st
  | _, _ => .st
def dI2b (g : Int → Int → Bool) : D → D → Res D
  | .int i, .int j => .ok (.bl (g i j))
  | _, _ => .st
def big : Int := 18446744073709551616
def cMul (i j : Int) : Bool := decide (i.natAbs < 18446744073709551616) || decide (j.natAbs < 18446744073709551616)
def cDiv (_ j : Int) : Bool := decide (0 < j.toNat) && decide (j.toNat < 1073741824)
def cMod (_ j : Int) : Bool := decide (0 < j.toNat)
def cPow (i j : Int) : Bool := decide (0 ≤ j) && decide (j.toNat ≤ 1000000) && decide (i.natAbs < 18446744073709551616)
def cShr (_ j : Int) : Bool := decide (0 ≤ j)
abbrev dSub := dI2 (· - ·)
abbrev dMul := dI2c cMul (· * ·)
abbrev dDiv := dI2c cDiv (· / ·)
abbrev dMod := dI2c cMod (· % ·)
abbrev dPow := dI2c cPow fun i j => i ^ j.toNat
abbrev dShl := dI2c cPow fun i j => i * 2 ^ j.toNat
abbrev dShr := dI2c cShr fun i j => i / 2 ^ j.toNat
abbrev dAnd := dI2 Builtin.bitAnd
abbrev dOr := dI2 Builtin.bitOr
abbrev dXor := dI2 Builtin.bitXor
abbrev dLt := dI2b fun i j => decide (i < j)
abbrev dLe := dI2b fun i j => decide (i ≤ j)
abbrev dGt := dI2b fun i j => decide (j < i)
abbrev dGe := dI2b fun i j => decide (j ≤ i)
def dNeg : D → Res D
  | .int i => .ok (.int (-i))
  | _ => .st
def dInv : D → Res D
  | .int i => .ok (.int (Builtin.bitNot i))
  | _ => .st
section
variable {K : PySem.W.Frag} {mg : Str → Option Value}
theorem od_or {r r' : R2} {o : D → D → Res D} (h : ∀ (We : WeX) (F H : Hp) (σ : L2.St) (x y : D) (v u : V) (Q : VK), Same F H → Rep K mg F v x → Rep K mg F u y → Out K mg We (RD K mg) F H σ Q (o x y) → r v u H Q ∨ r' v u H Q) : OpD K mg (fun x y H Q => r x y H Q ∨ r' x y H Q) o := h
theorem od_int {g : Int → Int → Int} : OpD K mg (rI0 fun i j => .int (g i j)) (dI2 g) := fun We F H σ x y v u Q hF rx ry h => by
  cases x <;> try exact h.elim
  cases y <;> try exact h.elim
  cases rx; cases ry
  exact ⟨_, _, rfl, rfl, h F H _ (Ext.refl hF) (.int _)⟩
theorem od_intc {c : Int → Int → Bool} {C : Int → Int → Prop} {g : Int → Int → Int} (hc : ∀ i j, c i j = true → C i j) : OpD K mg (rI C fun i j => .int (g i j)) (dI2c c g) := fun We F H σ x y v u Q hF rx ry h => by
  cases x <;> try exact h.elim
  cases y <;> try exact h.elim
  cases rx; cases ry
  rename_i i j
  have h : Out K mg We (RD K mg) F H σ Q (if c i j = true then .ok (.int (g i j)) else .st) := h
  by_cases z : c i j = true
  · rw [if_pos z] at h
    exact ⟨_, _, rfl, rfl, hc _ _ z, h F H _ (Ext.refl hF) (.int _)⟩
  · rw [if_neg z] at h; exact h.elim
theorem od_intb {g : Int → Int → Bool} : OpD K mg (rI0 fun i j => .bl (g i j)) (dI2b g) := fun We F H σ x y v u Q hF rx ry h => by
  cases x <;> try exact h.elim
  cases y <;> try exact h.elim
  cases rx; cases ry
  exact ⟨_, _, rfl, rfl, h F H _ (Ext.refl hF) (.bl _)⟩
theorem od_sub : OpD K mg (rI0 fun i j => .int (i - j)) dSub := od_int
theorem od_and : OpD K mg (rI0 fun i j => .int (Builtin.bitAnd i j)) dAnd := od_int
theorem od_orr : OpD K mg (rI0 fun i j => .int (Builtin.bitOr i j)) dOr := od_int
theorem od_xor : OpD K mg (rI0 fun i j => .int (Builtin.bitXor i j)) dXor := od_int
theorem od_mul : OpD K mg (rI CMul fun i j => .int (i * j)) dMul := od_intc fun i j h => by
  simp only [cMul, Bool.or_eq_true, decide_eq_true_eq] at h
  have e : (2 : Int) ^ 64 = 18446744073709551616 := rfl
  unfold CMul
  rw [e]
  omega
theorem od_div : OpD K mg (rI CDiv fun i j => .int (i / j)) dDiv := od_intc fun i j h => by
  simp only [cDiv, Bool.and_eq_true, decide_eq_true_eq] at h
  exact ⟨by omega, by show j < 1073741824; omega⟩
theorem od_mod : OpD K mg (rI (fun _ j => 0 < j) fun i j => .int (i % j)) dMod := od_intc fun i j h => by
  simp only [cMod, decide_eq_true_eq] at h
  show 0 < j
  omega
theorem cPow_ok {i j : Int} (h : cPow i j = true) : CPow i j := by
  simp only [cPow, Bool.and_eq_true, decide_eq_true_eq] at h
  unfold CPow
  have e : (2 : Nat) ^ 64 = 18446744073709551616 := rfl
  refine ⟨h.1.1, by omega, ?_⟩
  rw [e]
  omega
theorem od_pow : OpD K mg (rI CPow fun i j => .int (i ^ j.toNat)) dPow := od_intc fun i j h => cPow_ok h
theorem od_shl : OpD K mg (rI CPow fun i j => .int (i * 2 ^ j.toNat)) dShl := od_intc fun i j h => cPow_ok h
theorem od_shr : OpD K mg (rI (fun _ j => 0 ≤ j) fun i j => .int (i / 2 ^ j.toNat)) dShr := od_intc fun i j h => by
  simp only [cShr, decide_eq_true_eq] at h
  exact h
def rAddA (K : PySem.W.Frag) : R2 := fun x y H Q => (rI0 (fun i j => .int (i + j)) x y H Q ∨ (∃ i j, x = .str i ∧ y = .str j ∧ i.length + j.length ≤ sizeLine ∧ Q (.str (i ++ j)) H)) ∨ rCatA K x y H Q
theorem op_addA {X : Cx} : OpR X (binaryOp .Add) (rAddA X.K) := (OpR.or (OpR.or op_add op_add_str) op_catA)
theorem od_add : OpD K mg (rAddA K) dAdd := fun We F H σ x y v u Q hF rx ry h => by
  cases x with
  | int i =>
    cases y <;> try exact h.elim
    cases rx; cases ry
    exact .inl (.inl ⟨_, _, rfl, rfl, h F H _ (Ext.refl hF) (.int _)⟩)
  | str a =>
    cases y <;> try exact h.elim
    cases rx; cases ry
    rename_i b
    have h : Out K mg We (RD K mg) F H σ Q (if a.length + b.length ≤ lim then .ok (.str (a ++ b)) else .st) := h
    by_cases z : a.length + b.length ≤ lim
    · rw [if_pos z] at h
      exact .inl (.inr ⟨_, _, rfl, rfl, le_line z, h F H _ (Ext.refl hF) (.str _)⟩)
    · rw [if_neg z] at h; exact h.elim
  | tup a =>
    cases y <;> try exact h.elim
    rename_i b
    have h : Out K mg We (RD K mg) F H σ Q (if a.length + b.length ≤ lim then .ok (.tup (a ++ b)) else .st) := h
    by_cases z : a.length + b.length ≤ lim
    · rw [if_pos z] at h
      cases rx with
      | tup s1 r1 =>
        cases ry with
        | tup s2 r2 =>
          refine .inr ⟨_, _, _, _, rfl, rfl, SqT.same hF s1, SqT.same hF s2, by rw [r1.length, r2.length]; exact le_line z, fun e => ?_, fun _ e => ?_, fun e e' p hp => ?_⟩
          · subst e
            cases r1
            exact h F H _ (Ext.refl hF) (.tup s2 r2)
          · subst e
            cases r2
            rw [List.append_nil] at h
            exact h F H _ (Ext.refl hF) (.tup s1 r1)
          · exact h _ _ _ (Ext.new hF hp) (.tup (SqT.of upd_same) ((r1.append r2).mono (same_upd (hF.free hp))))
    · rw [if_neg z] at h; exact h.elim
  | _ => exact h.elim
end

/-! ### == -/
mutual
def D.eqv : D → D → Bool
  | .non, .non => true
  | .bl a, .bl b => a == b
  | .bl a, .int j => (if a then 1 else 0) == j
  | .int i, .bl b => i == (if b then 1 else 0)
  | .int i, .int j => i == j
  | .str x, .str y => x == y
  | .lst xs, .lst ys => eqvs xs ys
  | .tup xs, .tup ys => eqvs xs ys
  | _, _ => false
def eqvs : List D → List D → Bool
  | [], [] => true
  | x :: xs, y :: ys => x.eqv y && eqvs xs ys
  | _, _ => false
end
mutual
def D.py : D → PyData
  | .non => .none
  | .bl b => .bool b
  | .int i => .int i
  | .str x => .str x
  | .lst xs => .list (pys xs)
  | .tup xs => .tuple (pys xs)
  | .obj _ _ _ => .none
def pys : List D → List PyData
  | [] => []
  | x :: xs => x.py :: pys xs
end
mutual
/-- of this depth at most, no instance, texts of real signs -/
def dOk : Nat → D → Bool
  | _, .non => true
  | _, .bl _ => true
  | _, .int _ => true
  | _, .str x => PyData.strOk x
  | n, .lst xs => match n with
    | 0 => false
    | n + 1 => dOks n xs
  | n, .tup xs => match n with
    | 0 => false
    | n + 1 => dOks n xs
  | _, .obj _ _ _ => false
def dOks : Nat → List D → Bool
  | _, [] => true
  | n, x :: xs => dOk n x && dOks n xs
end
mutual
theorem dOk_lay : ∀ (d : D) (n : Nat), dOk n d = true → d.py.canLay0 = true ∧ d.py.depth ≤ n
  | .non, _, _ => ⟨rfl, Nat.zero_le _⟩
  | .bl _, _, _ => ⟨rfl, Nat.zero_le _⟩
  | .int _, _, _ => ⟨rfl, Nat.zero_le _⟩
  | .str x, n, h => ⟨by cases n <;> exact h, Nat.zero_le _⟩
  | .lst xs, n, h => by
    cases n with
    | zero => cases h
    | succ n =>
      obtain ⟨a, b⟩ := dOks_lay xs n h
      exact ⟨a, Nat.succ_le_succ b⟩
  | .tup xs, n, h => by
    cases n with
    | zero => cases h
    | succ n =>
      obtain ⟨a, b⟩ := dOks_lay xs n h
      exact ⟨a, Nat.succ_le_succ b⟩
  | .obj _ _ _, n, h => by cases n <;> cases h
theorem dOks_lay : ∀ (ds : List D) (n : Nat), dOks n ds = true → PyData.canLayAll0 (pys ds) = true ∧ PyData.depthAll (pys ds) ≤ n
  | [], _, _ => ⟨rfl, Nat.zero_le _⟩
  | x :: xs, n, h => by
    have h : (dOk n x && dOks n xs) = true := by cases n <;> exact h
    rw [Bool.and_eq_true] at h
    obtain ⟨a, b⟩ := dOk_lay x n h.1
    obtain ⟨c, d⟩ := dOks_lay xs n h.2
    exact ⟨by show (_ && _) = true; rw [a, c]; rfl, Nat.max_le.mpr ⟨b, d⟩⟩
end
theorem dOk_shaped {d : D} (h : dOk 16 d = true) : SeqAt.shaped d.py = true := by
  obtain ⟨a, b⟩ := dOk_lay d 16 h
  unfold SeqAt.shaped
  rw [a, decide_eq_true (show d.py.depth ≤ 64 by omega)]
  rfl
mutual
theorem eqv_py : ∀ (d e : D) (n m : Nat), dOk n d = true → dOk m e = true → PyData.eqv d.py e.py = d.eqv e
  | .non, e, n, m, h1, h2 => by cases e <;> first | rfl | (cases m <;> cases h2)
  | .bl _, e, n, m, h1, h2 => by cases e <;> first | rfl | (cases m <;> cases h2)
  | .int _, e, n, m, h1, h2 => by cases e <;> first | rfl | (cases m <;> cases h2)
  | .str _, e, n, m, h1, h2 => by cases e <;> first | rfl | (cases m <;> cases h2)
  | .lst xs, e, n, m, h1, h2 => by
    cases e <;> first | rfl | (cases m <;> cases h2; done) | skip
    cases n with
    | zero => cases h1
    | succ n =>
      cases m with
      | zero => cases h2
      | succ m => exact eqvs_py xs _ n m h1 h2
  | .tup xs, e, n, m, h1, h2 => by
    cases e <;> first | rfl | (cases m <;> cases h2; done) | skip
    cases n with
    | zero => cases h1
    | succ n =>
      cases m with
      | zero => cases h2
      | succ m => exact eqvs_py xs _ n m h1 h2
  | .obj _ _ _, e, n, m, h1, h2 => by cases n <;> cases h1
theorem eqvs_py : ∀ (ds es : List D) (n m : Nat), dOks n ds = true → dOks m es = true → PyData.eqvAll (pys ds) (pys es) = eqvs ds es
  | [], es, n, m, h1, h2 => by cases es <;> rfl
  | x :: xs, es, n, m, h1, h2 => by
    cases es with
    | nil => rfl
    | cons y ys =>
      have h1 : (dOk n x && dOks n xs) = true := by cases n <;> exact h1
      have h2 : (dOk m y && dOks m ys) = true := by cases m <;> exact h2
      rw [Bool.and_eq_true] at h1 h2
      show (PyData.eqv x.py y.py && PyData.eqvAll (pys xs) (pys ys)) = (x.eqv y && eqvs xs ys)
      rw [eqv_py x y n m h1.1 h2.1, eqvs_py xs ys n m h1.2 h2.2]
end
section
variable {K : PySem.W.Frag} {mg : Str → Option Value}
mutual
theorem Rep.dp {F : Hp} : ∀ (d : D) (v : V) (n : Nat), dOk n d = true → Rep K mg F v d → Dp K F v d.py
  | .non, _, _, _, h => by cases h; exact .non
  | .bl b, _, _, _, h => by cases h; exact .bl b
  | .int i, _, _, _, h => by cases h; exact .int i
  | .str x, _, _, _, h => by cases h; exact .str x
  | .lst ds, _, n, k, h => by
    cases n with
    | zero => cases k
    | succ n =>
      cases h with
      | lst a b => exact .lst a (RepAll.dp ds _ n k b)
  | .tup ds, _, n, k, h => by
    cases n with
    | zero => cases k
    | succ n =>
      cases h with
      | tup a b => exact .tup a (RepAll.dp ds _ n k b)
  | .obj _ _ _, _, n, k, h => by cases n <;> cases k
theorem RepAll.dp {F : Hp} : ∀ (ds : List D) (vs : List V) (n : Nat), dOks n ds = true → RepAll K mg F vs ds → DpAll K F vs (pys ds)
  | [], _, _, _, h => by cases h; exact .nil
  | d :: ds, _, n, k, h => by
    have k : (dOk n d && dOks n ds) = true := by cases n <;> exact k
    rw [Bool.and_eq_true] at k
    cases h with
    | cons a b => exact .cons (Rep.dp d _ n k.1 a) (RepAll.dp ds _ n k.2 b)
end
end
def dEq (x y : D) : Res D := if dOk 16 x = true ∧ dOk 16 y = true then .ok (.bl (x.eqv y)) else .st
def dNe (x y : D) : Res D := if dOk 16 x = true ∧ dOk 16 y = true then .ok (.bl (!x.eqv y)) else .st
section
variable {K : PySem.W.Frag} {mg : Str → Option Value}
theorem od_eq : OpD K mg (rEqD K) dEq := fun We F H σ x y v u Q hF rx ry h => by
  unfold dEq at h
  by_cases z : dOk 16 x = true ∧ dOk 16 y = true
  · rw [if_pos z] at h
    exact ⟨x.py, y.py, (rx.mono hF).dp _ _ _ z.1, (ry.mono hF).dp _ _ _ z.2, dOk_shaped z.1, dOk_shaped z.2, by rw [eqv_py x y 16 16 z.1 z.2]; exact h F H _ (Ext.refl hF) (.bl _)⟩
  · rw [if_neg z] at h; exact h.elim
theorem od_ne : OpD K mg (rNeD K) dNe := fun We F H σ x y v u Q hF rx ry h => by
  unfold dNe at h
  by_cases z : dOk 16 x = true ∧ dOk 16 y = true
  · rw [if_pos z] at h
    exact ⟨x.py, y.py, (rx.mono hF).dp _ _ _ z.1, (ry.mono hF).dp _ _ _ z.2, dOk_shaped z.1, dOk_shaped z.2, by rw [eqv_py x y 16 16 z.1 z.2]; exact h F H _ (Ext.refl hF) (.bl _)⟩
  · rw [if_neg z] at h; exact h.elim
end
/-! ### is None -/
def D.isN : D → Bool
  | .non => true
  | _ => false
def dIsN : D → D → Res D
  | x, .non => .ok (.bl x.isN)
  | _, _ => .st
def dNotN : D → D → Res D
  | x, .non => .ok (.bl (!x.isN))
  | _, _ => .st
section
variable {K : PySem.W.Frag} {mg : Str → Option Value}
end
def rIsNone : R2 := fun x y H Q => y = .non ∧ Q (.bl (decide (x = .non))) H
def rNotNone : R2 := fun x y H Q => y = .non ∧ Q (.bl (!decide (x = .non))) H
section
variable {K : PySem.W.Frag} {mg : Str → Option Value}
theorem isN_of {F : Hp} {v : V} {x : D} (r : Rep K mg F v x) : decide (v = .non) = x.isN := by
  cases r <;> first | rfl | exact decide_eq_false (fun z => nomatch z)
theorem od_isN : OpD K mg rIsNone dIsN := fun We F H σ x y v u Q hF rx ry h => by
  cases y <;> try exact h.elim
  cases ry
  exact ⟨rfl, by rw [isN_of rx]; exact h F H _ (Ext.refl hF) (.bl _)⟩
theorem od_notN : OpD K mg rNotNone dNotN := fun We F H σ x y v u Q hF rx ry h => by
  cases y <;> try exact h.elim
  cases ry
  exact ⟨rfl, by rw [isN_of rx]; exact h F H _ (Ext.refl hF) (.bl _)⟩
end
end DL
set_option Elab.async false
set_option linter.all false
set_option maxRecDepth 100000
set_option maxHeartbeats 1000000
/-! DL4: what is walked, for, comprehensions, defs and their calls. -/
namespace DL
open PySem PySem.Spec PyProof.Rows L2

/-! ### what is walked -/
/-- J walks ds as long as F stands still -/
def ItD (K : PySem.W.Frag) (mg : Str → Option Value) (J : It) (F : Hp) (ds : List D) : Prop := ∀ (i : Nat) (Fc H : Hp), Same F Fc → Same Fc H →
  (i = ds.length → J.stop i H) ∧ ∀ d, ds[i]? = some d → J.go i H ∧ ∀ x H', J.yld i H x H' → ∃ F2, Ext Fc H F2 H' ∧ Rep K mg F2 x d
abbrev RI (K : PySem.W.Frag) (mg : Str → Option Value) : Hp → Hp → Hp → It → List D → Prop := fun _ F' _ J ds => ItD K mg J F' ds
abbrev RI0 (K : PySem.W.Frag) (mg : Str → Option Value) : Hp → Hp → Hp → It → List D → Prop := fun _ _ _ J ds => ItD K mg J (fun _ => none) ds
instance {K : PySem.W.Frag} {mg : Str → Option Value} : Anti (RI K mg) := ⟨fun _ h => h⟩
instance {K : PySem.W.Frag} {mg : Str → Option Value} : Anti (RI0 K mg) := ⟨fun _ h => h⟩
abbrev ID (X : Cx) (We : WeX) (S : List Nat) (tg iter : PySem.Expr) (f : DEnv → Res (List D)) : Prop := PI X tg iter (tG X.K X.mg We (RI X.K X.mg) S f)
abbrev ID0 (X : Cx) (We : WeX) (S : List Nat) (tg iter : PySem.Expr) (f : DEnv → Res (List D)) : Prop := PI X tg iter (tG X.K X.mg We (RI0 X.K X.mg) S f)
theorem pi_imp {X : Cx} {tg iter : PySem.Expr} {t t' : TI} (h : PI X tg iter t) (i : ∀ σ H Q, t' σ H Q → t σ H Q) : PI X tg iter t' := ⟨fun pins s σ H R I q => h.run pins s σ H R I (i σ H R q)⟩
theorem id_of0 {X : Cx} {We : WeX} {S : List Nat} {tg iter : PySem.Expr} {f : DEnv → Res (List D)} (h : ID0 X We S tg iter f) : ID X We S tg iter f :=
  pi_imp h fun σ H Q ⟨F, ρ, hF, hE, q⟩ => ⟨F, ρ, hF, hE, by
    cases hf : f ρ with
    | ok ds => rw [hf] at q; exact fun F' H' J ex r => q F' H' J ex fun i Fc H a b => r i Fc H (fun _ _ z => by cases z) b
    | er x => rw [hf] at q; exact q
    | st => rw [hf] at q; exact q⟩
section
variable {K : PySem.W.Frag} {mg : Str → Option Value} {F : Hp}
theorem itd_list {a : Addr} {vs : List V} {ds : List D} (h : SqL K F a vs) (r : RepAll K mg F vs ds) : ItD K mg (Itl K a) F ds := fun i Fc H s1 s2 => by
  have q := SqL.same (s1.trans s2) h
  refine ⟨fun e => ⟨vs, q, by rw [r.length, e]; exact Nat.le_refl _⟩, fun d hd => ?_⟩
  obtain ⟨v, hv, rv⟩ := r.get hd
  refine ⟨⟨vs, v, q, hv⟩, fun x H' y => ?_⟩
  obtain ⟨e, y⟩ := y
  subst e
  have e := (y vs q).symm.trans hv
  cases e
  exact ⟨Fc, Ext.refl s2, rv.mono s1⟩
theorem itd_tup {a : Addr} {vs : List V} {ds : List D} (h : SqT K F a vs) (r : RepAll K mg F vs ds) : ItD K mg (Itt K a) F ds := fun i Fc H s1 s2 => by
  have q := SqT.same (s1.trans s2) h
  refine ⟨fun e => ⟨vs, q, by rw [r.length, e]; exact Nat.le_refl _⟩, fun d hd => ?_⟩
  obtain ⟨v, hv, rv⟩ := r.get hd
  refine ⟨⟨vs, v, q, hv⟩, fun x H' y => ?_⟩
  obtain ⟨e, y⟩ := y
  subst e
  have e := (y vs q).symm.trans hv
  cases e
  exact ⟨Fc, Ext.refl s2, rv.mono s1⟩
/-- the signs of a text -/
def signs (z : Str) : List D := z.cps.toList.map fun c => .str ⟨#[c]⟩
theorem itd_str {z : Str} : ItD K mg (Its z) F (signs z) := fun i Fc H s1 s2 => by
  refine ⟨fun e => ?_, fun d hd => ?_⟩
  · show z.cps.size ≤ i
    rw [e]
    simp [signs]
  · unfold signs at hd
    rw [List.getElem?_map] at hd
    cases hc : z.cps.toList[i]? with
    | none => rw [hc] at hd; cases hd
    | some c =>
      rw [hc] at hd
      cases hd
      have hc' : z.cps[i]? = some c := by simpa using hc
      refine ⟨(Array.getElem?_eq_some_iff.mp hc').1, fun x H' y => ?_⟩
      obtain ⟨e, c', h1, h2⟩ := y
      subst e h2
      rw [hc'] at h1
      cases h1
      exact ⟨Fc, Ext.refl s2, .str _⟩
def rangeD (lo : Int) (n : Nat) : List D := (List.range n).map fun (k : Nat) => .int (lo + k)
theorem itd_range {lo : Int} {n : Nat} : ItD K mg (Itr lo n) F (rangeD lo n) := fun i Fc H s1 s2 => by
  refine ⟨fun e => ?_, fun d hd => ?_⟩
  · show n ≤ i
    rw [e]; simp [rangeD]
  · unfold rangeD at hd
    rw [List.getElem?_map] at hd
    cases hc : (List.range n)[i]? with
    | none => rw [hc] at hd; cases hd
    | some c =>
      rw [hc] at hd
      cases hd
      obtain ⟨h1, h2⟩ := List.getElem?_eq_some_iff.mp hc
      have h1 : i < n := by simpa using h1
      have h2 : i = c := by simpa using h2
      subst h2
      refine ⟨h1, fun x H' y => ?_⟩
      obtain ⟨e, e2⟩ := y
      subst e e2
      exact ⟨Fc, Ext.refl s2, .int _⟩
end
def items : D → Res (List D)
  | .lst xs => .ok xs
  | .tup xs => .ok xs
  | .str z => .ok (signs z)
  | _ => .st
def eIt (f : DEnv → Res D) : DEnv → Res (List D) := fun ρ => (f ρ).bind items
section
variable {X : Cx} {We : WeX} {S : List Nat} {tg e : PySem.Expr}
theorem id_seq {f : DEnv → Res D} (h : PD X We S e f) : ID X We S tg e (eIt f) := by
  refine ⟨fun pins s σ H R I ⟨F, ρ, hF, hE, q⟩ => ?_⟩
  have q : Out X.K X.mg We (RI X.K X.mg) F H σ R ((f ρ).bind items) := q
  cases hf : f ρ with
  | st => rw [hf] at q; exact q.elim
  | er x =>
    rw [hf] at q
    exact (pi_list h).run pins s σ H R I ⟨F, ρ, hF, hE, by rw [hf]; exact q⟩
  | ok d =>
    rw [hf] at q
    have q : Out X.K X.mg We (RI X.K X.mg) F H σ R (items d) := q
    cases d with
    | lst xs =>
      refine (pi_list h).run pins s σ H R I ⟨F, ρ, hF, hE, ?_⟩
      rw [hf]
      intro F' H' v ex r
      cases r with
      | lst a b => exact ⟨_, rfl, ⟨_, SqL.same ex.2.1 a⟩, q F' H' _ ex (itd_list a b)⟩
    | tup xs =>
      refine (pi_tup h).run pins s σ H R I ⟨F, ρ, hF, hE, ?_⟩
      rw [hf]
      intro F' H' v ex r
      cases r with
      | tup a b => exact ⟨_, rfl, ⟨_, SqT.same ex.2.1 a⟩, q F' H' _ ex (itd_tup a b)⟩
    | str z =>
      refine (pi_str h).run pins s σ H R I ⟨F, ρ, hF, hE, ?_⟩
      rw [hf]
      intro F' H' v ex r
      cases r
      exact ⟨_, rfl, q F' H' _ ex itd_str⟩
    | _ => exact q.elim
/-- a new list that is walked -/
theorem id_new {g : DEnv → Res (List D)} (h : PF X We S e g) : ID X We S tg e g := by
  refine pi_imp (pi_list h) fun σ H R ⟨F, ρ, hF, hE, q⟩ => ⟨F, ρ, hF, hE, ?_⟩
  cases hf : g ρ with
  | st => rw [hf] at q; exact q.elim
  | er x => rw [hf] at q; exact q
  | ok xs =>
    rw [hf] at q
    intro F' H' v ex r
    obtain ⟨F2, ex2, s2, r2⟩ := fz_ok ex r
    cases r2 with
    | lst a b => exact ⟨_, rfl, ⟨_, SqL.same ex2.2.1 a⟩, q F2 H' _ ex2 (itd_list a b)⟩
def cR (i : Int) : Bool := decide (i.natAbs < 4611686018427387904)
theorem cR_ok {i : Int} (h : cR i = true) : -(2 ^ 62) ≤ i ∧ i < 2 ^ 62 := by
  unfold cR at h
  rw [decide_eq_true_eq] at h
  have e : (2 : Int) ^ 62 = 4611686018427387904 := rfl
  rw [e]
  omega
def rng1 : List D → Res (List D)
  | [.int j] => if cR j = true then .ok (rangeD 0 j.toNat) else .st
  | _ => .st
def rng2 : List D → Res (List D)
  | [.int i, .int j] => if cR i = true ∧ cR j = true then .ok (rangeD i (j - i).toNat) else .st
  | _ => .st
def eL {β : Type} (r : List D → Res β) (g : DEnv → Res (List D)) : DEnv → Res β := fun ρ => (g ρ).bind r
theorem rng1_ok {ds : List D} {xs : List D} (h : rng1 ds = .ok xs) : ∃ j, ds = [.int j] ∧ cR j = true ∧ xs = rangeD 0 j.toNat := by
  unfold rng1 at h
  split at h
  · split at h
    · rename_i z
      cases h
      exact ⟨_, rfl, z, rfl⟩
    · cases h
  · cases h
theorem rng1_ner {ds : List D} {x : Exn} (h : rng1 ds = .er x) : False := by
  unfold rng1 at h
  split at h
  · split at h <;> cases h
  · cases h
theorem id_range1 {a : PySem.Expr} {g : DEnv → Res (List D)} {p pos : Pos} (hm : X.mg "range" = none) (ha : PAD X We S [a] g) (hg : Gl X "range" := by rfl) (hs : starEach [a] X.env = [(false, eval a X.env)] := by rfl) : ID0 X We S tg (.Call (.Name "range" p) [a] [] pos) (eL rng1 g) :=
  pi_imp (pi_range1 hg hm ha hs) fun σ H R ⟨F, ρ, hF, hE, q⟩ => ⟨F, ρ, hF, hE, Out.bind q fun ds F1 H1 vs ex r q1 => by
    cases h2 : rng1 ds with
    | st => rw [h2] at q1; exact q1.elim
    | er x => exact (rng1_ner h2).elim
    | ok xs =>
      rw [h2] at q1
      obtain ⟨j, rfl, c1, rfl⟩ := rng1_ok h2
      obtain ⟨v, rfl, rv⟩ := r.one
      cases rv
      exact ⟨j, rfl, (cR_ok c1).1, (cR_ok c1).2, q1 F1 H1 _ (Ext.refl ex.2.1) itd_range⟩⟩
theorem rng2_ok {ds : List D} {xs : List D} (h : rng2 ds = .ok xs) : ∃ i j, ds = [.int i, .int j] ∧ cR i = true ∧ cR j = true ∧ xs = rangeD i (j - i).toNat := by
  unfold rng2 at h
  split at h
  · split at h
    · rename_i z
      cases h
      exact ⟨_, _, rfl, z.1, z.2, rfl⟩
    · cases h
  · cases h
theorem rng2_ner {ds : List D} {x : Exn} (h : rng2 ds = .er x) : False := by
  unfold rng2 at h
  split at h
  · split at h <;> cases h
  · cases h
theorem id_range2 {a b : PySem.Expr} {g : DEnv → Res (List D)} {p pos : Pos} (hm : X.mg "range" = none) (ha : PAD X We S [a, b] g) (hg : Gl X "range" := by rfl) (hs : starEach [a, b] X.env = [(false, eval a X.env), (false, eval b X.env)] := by rfl) (hs2 : starEach [b] X.env = [(false, eval b X.env)] := by rfl) :
    ID0 X We S tg (.Call (.Name "range" p) [a, b] [] pos) (eL rng2 g) :=
  pi_imp (pi_range2 hg hm ha hs hs2) fun σ H R ⟨F, ρ, hF, hE, q⟩ => ⟨F, ρ, hF, hE, Out.bind q fun ds F1 H1 vs ex r q1 => by
    cases h2 : rng2 ds with
    | st => rw [h2] at q1; exact q1.elim
    | er x => exact (rng2_ner h2).elim
    | ok xs =>
      rw [h2] at q1
      obtain ⟨i, j, rfl, c1, c2, rfl⟩ := rng2_ok h2
      obtain ⟨v, u, rfl, rv, ru⟩ := r.two
      cases rv; cases ru
      exact ⟨i, j, rfl, ⟨(cR_ok c1).1, (cR_ok c1).2, (cR_ok c2).1, (cR_ok c2).2⟩, q1 F1 H1 _ (Ext.refl ex.2.1) itd_range⟩⟩
end

/-! ### for -/
def forL (sl : List Nat) (g : D → Option (List D)) (fb : DEnv → SRes) : List D → DEnv → SRes
  | [], ρ => .nx ρ
  | d :: ds, ρ => match g d with
    | none => .st
    | some vs => match fb (setAll ρ sl (vs.map Slot.d)) with
      | .nx ρ' => forL sl g fb ds ρ'
      | .ct ρ' => forL sl g fb ds ρ'
      | .bk ρ' => .nx ρ'
      | r => r
def sFor (S sl : List Nat) (fi : DEnv → Res (List D)) (g : D → Option (List D)) (fb : DEnv → SRes) : DEnv → SRes := fun ρ => after (fi ρ) ρ fun ds => forL sl g fb ds (dem S ρ)
/-- .. over a range: no list is put to rest -/
def sForR (sl : List Nat) (fi : DEnv → Res (List D)) (g : D → Option (List D)) (fb : DEnv → SRes) : DEnv → SRes := fun ρ => after (fi ρ) ρ fun ds => forL sl g fb ds ρ
section
variable {K : PySem.W.Frag} {mg : Str → Option Value} {fr : Bool} {We : WeX} {B : Bs} {F1 F H : Hp} {σ : L2.St} {ρ : DEnv} {E : Ends}
/-- another base: what stands still by now -/
def base2 (F1 H0 : Hp) : Hp := fun p => match F1 p with
  | some o => some o
  | none => H0 p
def Bs.b2 (B : Bs) (F1 : Hp) : Bs := ⟨F1, base2 F1 B.H, B.τ⟩
theorem base2_F {H0 : Hp} {p : Addr} {o : HO} (h : F1 p = some o) : base2 F1 H0 p = some o := by unfold base2; rw [h]
theorem EnvS.base {ex : EXP} (e : EnvS K mg ex B F1 σ H ρ) : EnvS K mg ex (B.b2 F1) F1 σ H ρ := by
  refine ⟨fun p o q => base2_F q, Same.refl _, e.fh, fun p o q => ?_, fun _ _ _ => rfl, e.len, fun i s h => ?_, e.ap⟩
  · have q : base2 F1 B.H p = some o := q
    unfold base2 at q
    split at q
    · rename_i z
      cases q
      exact e.fh _ _ z
    · exact e.hh _ _ q
  · have z := e.sl i s h
    have no : ∀ {a}, F1 a = none → B.H a = none → (B.b2 F1).H a = none := fun {a} a2 a3 => by
      show base2 F1 B.H a = none
      unfold base2
      rw [a2]
      exact a3
    cases s with
    | un => trivial
    | d d => exact z
    | exc x => exact z
    | own t xs =>
      obtain ⟨a, vs, a1, a2, a3, r⟩ := z
      exact ⟨a, vs, a1, a2, no a2 a3, r⟩
    | obo t c ns fs =>
      obtain ⟨a, C, dx, fv, a1, a2, a3, r⟩ := z
      exact ⟨a, C, dx, fv, a1, a2, no a2 a3, r⟩
theorem base2_H {F0 H0 : Hp} (h : ∀ p o, H0 p = some o → F1 p = F0 p) (f0 : Same F0 H0) {p : Addr} {o : HO} (q : H0 p = some o) : base2 F1 H0 p = some o := by
  unfold base2
  split
  · rename_i o' z
    have z1 := (h p o q).symm.trans z
    have z2 := f0 _ _ z1
    rw [q] at z2
    exact z2.symm
  · exact q
theorem base2_none {F0 H0 : Hp} {p : Addr} (h : ∀ p o, H0 p = some o → F1 p = F0 p) (f0 : Same F0 H0) (n : base2 F1 H0 p = none) : H0 p = none := by
  cases q : H0 p with
  | none => rfl
  | some o => rw [base2_H h f0 q] at n; cases n
theorem EnvS.unbase {ex : EXP} {F2 H2 : Hp} {σ2 : L2.St} {ρ2 : DEnv} (e : EnvS K mg ex B F1 σ H ρ) (e2 : EnvS K mg ex (B.b2 F1) F2 σ2 H2 ρ2) : EnvS K mg ex B F2 σ2 H2 ρ2 := by
  refine ⟨e.f0, e.ff.trans e2.ff, e2.fh, fun p o q => e2.hh _ _ (base2_H e.ag e.f0 q), fun p o q => (e2.ag p o (base2_H e.ag e.f0 q)).trans (e.ag p o q), e2.len, fun i s h => ?_, e2.ap⟩
  have z := e2.sl i s h
  cases s with
  | un => trivial
  | d d => exact z
  | exc x => exact z
  | own t xs =>
    obtain ⟨a, vs, a1, a2, a3, r⟩ := z
    exact ⟨a, vs, a1, a2, base2_none e.ag e.f0 a3, r⟩
  | obo t c ns fs =>
    obtain ⟨a, C, dx, fv, a1, a2, a3, r⟩ := z
    exact ⟨a, C, dx, fv, a1, a2, base2_none e.ag e.f0 a3, r⟩
theorem OutS.base (e : EnvS K mg We.ex B F1 σ H ρ) {r : SRes} (h : OutS K mg fr We B E r) : OutS K mg fr We (B.b2 F1) E r := by
  cases r with
  | nx ρ' => exact fun F2 σ2 H2 q => h F2 σ2 H2 (e.unbase q)
  | bk ρ' => exact fun F2 σ2 H2 q => h F2 σ2 H2 (e.unbase q)
  | ct ρ' => exact fun F2 σ2 H2 q => h F2 σ2 H2 (e.unbase q)
  | rt d =>
    intro F2 H2 v ex r
    refine h F2 H2 v ⟨e.ff.trans ex.1, ex.2.1, fun p o q => ex.2.2.1 _ _ (base2_H e.ag e.f0 q), fun p o q => (ex.2.2.2 p o (base2_H e.ag e.f0 q)).trans (e.ag p o q)⟩ ?_
    cases fr with
    | false => exact r
    | true =>
      obtain ⟨xs, e1, p, vs, h1, h2, h3⟩ := r
      exact ⟨xs, e1, p, vs, h1, base2_none e.ag e.f0 h2, h3⟩
  | er x ρ' =>
    intro F2 σ2 H2 C d q m z
    refine h F2 σ2 H2 C d (e.unbase q) m ?_
    rcases z with z | ⟨dx, fv, h1, h2, h3⟩
    · exact .inl z
    · exact .inr ⟨dx, fv, h1, base2_none e.ag e.f0 h2, h3⟩
  | st => exact h
end
section
variable {X : Cx} {fr : Bool} {We : WeX} {S sl : List Nat} {tg iter : PySem.Expr} {fi : DEnv → Res (List D)} {g : D → Option (List D)} {body : List Stmt} {fb : DEnv → SRes} {pos : Pos}
theorem for_loop {B : Bs} {F1 H1 : Hp} {σ1 : L2.St} {ρ1 : DEnv} {E : Ends} {J : It} {ds : List D} {Fi : Hp} (e1 : EnvS X.K X.mg We.ex B F1 σ1 H1 ρ1) (hj : ItD X.K X.mg J Fi ds) (hFi : Same Fi F1) (h : OutS X.K X.mg fr We B E (forL sl g fb ds ρ1)) (hg : ∀ d ds, g d = some ds → ds.length = sl.length) :
    ∃ W : Nat → Nat → L2.St → Hp → Prop, (∃ m, W 0 m σ1 H1) ∧ ∀ i m σ H, W i m σ H →
      (J.stop i H ∧ E.nx σ H) ∨ (J.go i H ∧ ∃ N : L2.St → Hp → Prop, (∀ σ' H', N σ' H' → ∃ m', m' < m ∧ W (i + 1) m' σ' H') ∧ ∀ x H', J.yld i H x H' → tT X.K X.mg sl g x σ H' fun σ2 H2 => tS X.K X.mg fr We fb { E with nx := N, ct := N, bk := E.nx } σ2 H2) := by
  refine ⟨fun i m σ H => m = ds.length - i ∧ i ≤ ds.length ∧ ∃ Fc ρ, EnvS X.K X.mg We.ex (B.b2 F1) Fc σ H ρ ∧ OutS X.K X.mg fr We (B.b2 F1) E (forL sl g fb (ds.drop i) ρ),
    ⟨ds.length, by simp, Nat.zero_le _, F1, ρ1, e1.base, h.base e1⟩, ?_⟩
  rintro i m σ H ⟨rfl, hi, Fc, ρ, e, q⟩
  obtain ⟨j1, j2⟩ := hj i Fc H (hFi.trans e.ff) e.fh
  by_cases hlt : i < ds.length
  · right
    have hd : ds[i]? = some ds[i] := List.getElem?_eq_getElem hlt
    obtain ⟨go, yl⟩ := j2 _ hd
    refine ⟨go, fun σ' H' => ∃ Fc ρ, EnvS X.K X.mg We.ex (B.b2 F1) Fc σ' H' ρ ∧ OutS X.K X.mg fr We (B.b2 F1) E (forL sl g fb (ds.drop (i + 1)) ρ), fun σ' H' n => ⟨ds.length - (i + 1), by omega, rfl, hlt, n⟩, fun x H' y => ?_⟩
    obtain ⟨F2, ex, rx⟩ := yl x H' y
    rw [List.drop_eq_getElem_cons hlt] at q
    have q : OutS X.K X.mg fr We (B.b2 F1) E (match g ds[i] with
      | none => .st
      | some vs => match fb (setAll ρ sl (vs.map Slot.d)) with
        | .nx ρ' => forL sl g fb (ds.drop (i + 1)) ρ'
        | .ct ρ' => forL sl g fb (ds.drop (i + 1)) ρ'
        | .bk ρ' => .nx ρ'
        | r => r) := q
    have e' := e.grow ex
    cases hgd : g ds[i] with
    | none => rw [hgd] at q; exact q.elim
    | some vs =>
      rw [hgd] at q
      refine ⟨F2, ds[i], vs, e'.fh, rx, hgd, hg _ _ hgd, fun us ru => ?_⟩
      refine ⟨B.b2 F1, F2, _, EnvS.setAll sl us vs e' ru, ?_⟩
      cases hf : fb (setAll ρ sl (vs.map Slot.d)) with
      | nx ρ' => simp only [hf] at q; exact fun F σ H z => ⟨F, ρ', z, q⟩
      | ct ρ' => simp only [hf] at q; exact fun F σ H z => ⟨F, ρ', z, q⟩
      | bk ρ' => simp only [hf] at q; exact q
      | rt d => simp only [hf] at q; exact q
      | er x ρ' => simp only [hf] at q; exact q
      | st => simp only [hf] at q; exact q
  · left
    have ei : i = ds.length := by omega
    refine ⟨j1 ei, ?_⟩
    rw [List.drop_eq_nil_of_le (by omega)] at q
    exact q Fc σ H e
theorem sd_for (hp : PassesOwn (model X.prog X.w) X.A X.env X.xe) (hc : X.calm = true) (hi : ID X We S tg iter fi) (hg : GD X tg sl g) (hb : SDs X fr We body fb)
    (hs : ∀ x, foldedSetIterable iter X.env x = pure x := by intro _; rfl) : SD X fr We (.For tg iter body [] pos) (sFor S sl fi g fb) :=
  ps_imp (ps_for hp hc hi hg.1 hb hs) fun E σ H ⟨B, F, ρ, e, h⟩ => OutS.eval e h fun Fp F' H' J ds hf hq ex r e1 _ => for_loop e1 r (Same.refl _) hq hg.2
theorem sd_forR (hp : PassesOwn (model X.prog X.w) X.A X.env X.xe) (hc : X.calm = true) (hi : ID0 X We S tg iter fi) (hg : GD X tg sl g) (hb : SDs X fr We body fb)
    (hs : ∀ x, foldedSetIterable iter X.env x = pure x := by intro _; rfl) : SD X fr We (.For tg iter body [] pos) (sForR sl fi g fb) :=
  ps_imp (ps_for hp hc hi hg.1 hb hs) fun E σ H ⟨B, F, ρ, e, h⟩ => OutS.eval e h fun Fp F' H' J ds hf hq ex r e1 ⟨F2, e2, _, _⟩ => for_loop e2 r (fun _ _ z => by cases z) hq hg.2
end

/-! ### list comprehensions -/
/-- nothing may be raised -/
abbrev We0 (ex : EXP) : WeX := ⟨fun _ _ _ _ => False, ex⟩
def Res.bindN {α β : Type} (r : Res α) (g : α → Res β) : Res β := match r with
  | .ok a => g a
  | _ => .st
def lcL (sl : List Nat) (g : D → Option (List D)) (ft : DEnv → Res Bool) (fe : DEnv → Res D) (ρ : DEnv) : List D → Res (List D)
  | [] => .ok []
  | d :: ds => match g d with
    | none => .st
    | some vs => (ft (setAll ρ sl (vs.map Slot.d))).bindN fun b => if b then (fe (setAll ρ sl (vs.map Slot.d))).bindN fun y => (lcL sl g ft fe ρ ds).bindN fun ys => .ok (y :: ys) else lcL sl g ft fe ρ ds
def eLc (sl : List Nat) (fi : DEnv → Res (List D)) (g : D → Option (List D)) (ft : DEnv → Res Bool) (fe : DEnv → Res D) : DEnv → Res (List D) := fun ρ => (fi ρ).bind fun ds => (lcL sl g ft fe ρ ds).bindN okLen
def tYesD : DEnv → Res Bool := fun _ => .ok true
abbrev PTsD (X : Cx) (We : WeX) (S : List Nat) (es : List PySem.Expr) (f : DEnv → Res Bool) : Prop := PTs X es (tG X.K X.mg We RB S f)
theorem ptsd_nil {X : Cx} {We : WeX} : PTsD X We [] [] tYesD := ⟨fun pins s σ H Q I ⟨F, ρ, hF, hE, q⟩ => pts_nil.run pins s σ H Q I (q F H true (Ext.refl hF) rfl)⟩
theorem ptsd_one {X : Cx} {We : WeX} {S : List Nat} {c : PySem.Expr} {f : DEnv → Res Bool} (h : PTD X We S c f) : PTsD X We S [c] f := pts_one h
theorem wipe_set {σ : L2.St} {i : Nat} {x : Option V} : ∀ {vs : List Nat}, i ∈ vs → wipe (σ.set i x) vs = wipe σ vs
  | v :: vs, h => by
    unfold wipe
    by_cases hi : i ∈ vs
    · rw [wipe_set hi]
    · have hv : i = v := by
        rcases List.mem_cons.mp h with h | h
        · exact h
        · exact absurd h hi
      subst hv
      have key : ∀ (us : List Nat) (τ : L2.St), i ∉ us → (wipe (τ.set i x) us) = (wipe τ us).set i x := fun us => by
        induction us with
        | nil => intro τ _; rfl
        | cons u us ih =>
          intro τ hu
          simp only [List.mem_cons, not_or] at hu
          unfold wipe
          rw [ih τ hu.2, List.set_comm _ _ hu.1]
      rw [key vs σ hi, List.set_set]
theorem wipe_setAll {vs : List Nat} : ∀ (sl : List Nat) (xs : List (Option V)) (σ : L2.St), (∀ i ∈ sl, i ∈ vs) → wipe (setAll σ sl xs) vs = wipe σ vs
  | [], xs, _, _ => by cases xs <;> rfl
  | _ :: _, [], _, _ => rfl
  | i :: sl, x :: xs, σ, h => by
    show wipe (setAll (σ.set i x) sl xs) vs = _
    rw [wipe_setAll sl xs _ fun j hj => h j (List.mem_cons_of_mem _ hj), wipe_set (h i List.mem_cons_self)]
theorem wipe_wipe {σ : L2.St} {vs : List Nat} : wipe (wipe σ vs) vs = wipe σ vs := by
  have key : ∀ (us : List Nat), (∀ u ∈ us, u ∈ vs) → wipe (wipe σ us) vs = wipe σ vs := fun us => by
    induction us with
    | nil => intro _; rfl
    | cons u us ih =>
      intro h
      show wipe ((wipe σ us).set u none) vs = _
      rw [wipe_set (h u List.mem_cons_self), ih fun w hw => h w (List.mem_cons_of_mem _ hw)]
  exact key vs fun _ h => h
theorem wipe_get {σ : L2.St} {i : Nat} : ∀ {vs : List Nat}, i ∉ vs → (wipe σ vs)[i]? = σ[i]?
  | [], _ => rfl
  | v :: vs, h => by
    simp only [List.mem_cons, not_or] at h
    unfold wipe
    rw [List.getElem?_set_ne (Ne.symm h.1), wipe_get h.2]
theorem setAll_get {α : Type} {i : Nat} : ∀ {sl : List Nat} {xs : List α} {l : List α}, i ∉ sl → (setAll l sl xs)[i]? = l[i]?
  | [], xs, _, _ => by cases xs <;> rfl
  | _ :: _, [], _, _ => rfl
  | j :: sl, x :: xs, l, h => by
    simp only [List.mem_cons, not_or] at h
    show (setAll (l.set j x) sl xs)[i]? = _
    rw [setAll_get h.2, List.getElem?_set_ne (Ne.symm h.1)]
theorem setAll_length {α : Type} : ∀ {sl : List Nat} {xs : List α} {l : List α}, (setAll l sl xs).length = l.length
  | [], xs, _ => by cases xs <;> rfl
  | _ :: _, [], _ => rfl
  | j :: sl, x :: xs, l => by
    show (setAll (l.set j x) sl xs).length = _
    rw [setAll_length, List.length_set]
/-- the slots sl of both sides set alike -/
theorem setAll_rel {K : PySem.W.Frag} {mg : Str → Option Value} {F : Hp} : ∀ (sl : List Nat) (vs : List V) (ds : List D) (σ : L2.St) (ρ : DEnv), σ.length = ρ.length → RepAll K mg F vs ds → ds.length = sl.length →
    ∀ (i : Nat) s d, ((∀ s d, ρ[i]? = some s → s.val = some d → ∃ v, σ[i]? = some (some v) ∧ Rep K mg F v d) ∨ i ∈ sl) → (setAll ρ sl (ds.map Slot.d))[i]? = some s → s.val = some d → ∃ v, (setAll σ sl (vs.map some))[i]? = some (some v) ∧ Rep K mg F v d
  | [], [], [], σ, ρ, _, _, _, i, s, d, h, h1, h2 => by
    rcases h with h | h
    · exact h s d h1 h2
    · cases h
  | [], _, _ :: _, _, _, _, _, l, _, _, _, _, _, _ => by cases l
  | [], _ :: _, [], _, _, _, r, _, _, _, _, _, _, _ => by cases r
  | _ :: _, _, [], _, _, _, _, l, _, _, _, _, _, _ => by cases l
  | _ :: _, [], _ :: _, _, _, _, r, _, _, _, _, _, _, _ => by cases r
  | j :: sl, v :: vs, d0 :: ds, σ, ρ, hl, r, l, i, s, d, h, h1, h2 => by
    cases r with
    | cons a b =>
      refine setAll_rel sl vs ds (σ.set j (some v)) (ρ.set j (.d d0)) (by rw [List.length_set, List.length_set]; exact hl) b (by simpa using l) i s d ?_ h1 h2
      by_cases e : i = j
      · subst e
        left
        intro s' d' q1 q2
        rcases set_get q1 with ⟨_, q, hi⟩ | ⟨n, _⟩
        · rw [q] at q2
          cases q2
          exact ⟨v, List.getElem?_set_self (by rw [hl]; exact hi), a⟩
        · exact absurd rfl n
      · rcases h with h | h
        · left
          rw [List.getElem?_set_ne (Ne.symm e), List.getElem?_set_ne (Ne.symm e)]
          exact h
        · right
          rcases List.mem_cons.mp h with h | h
          · exact absurd h e
          · exact h
theorem setAll_exc {k : Nat} {x : Exn} : ∀ (sl : List Nat) (ds : List D) (ρ : DEnv), ds.length = sl.length → (setAll ρ sl (ds.map Slot.d))[k]? = some (.exc x) → k ∉ sl ∧ ρ[k]? = some (.exc x)
  | [], [], ρ, _, h => ⟨by simp, h⟩
  | [], _ :: _, _, l, _ => by cases l
  | _ :: _, [], _, l, _ => by cases l
  | j :: sl, d :: ds, ρ, l, h => by
    obtain ⟨h1, h2⟩ := setAll_exc sl ds (ρ.set j (.d d)) (by simpa using l) h
    rcases set_get h2 with ⟨_, q, _⟩ | ⟨n, q⟩
    · cases q
    · exact ⟨by simp [n, h1], q⟩
theorem bindN_ok {α β : Type} {r : Res α} {g : α → Res β} {b : β} (h : r.bindN g = .ok b) : ∃ a, r = .ok a ∧ g a = .ok b := by
  cases r with
  | ok a => exact ⟨a, rfl, h⟩
  | er x => cases h
  | st => cases h
theorem bindN_ner {α β : Type} {r : Res α} {g : α → Res β} (hg : ∀ a x, g a ≠ .er x) (x : Exn) : r.bindN g ≠ .er x := by
  cases r with
  | ok a => exact hg a x
  | er x => intro z; cases z
  | st => intro z; cases z
theorem okLen_ok {xs ys : List D} (h : okLen xs = .ok ys) : ys = xs ∧ xs.length ≤ lim := by
  unfold okLen at h
  split at h
  · cases h; exact ⟨rfl, by assumption⟩
  · cases h
theorem okLen_ner (xs : List D) (x : Exn) : okLen xs ≠ .er x := by
  unfold okLen
  split <;> (intro z; cases z)
/-- what a comprehension reads of the slots outside of it -/
def minus (S sl : List Nat) : List Nat := S.filter fun i => !sl.contains i
theorem mem_minus {S sl : List Nat} {i : Nat} (h : i ∈ S) : i ∈ sl ∨ i ∈ minus S sl := by
  by_cases z : sl.contains i = true
  · exact .inl (by simpa using z)
  · exact .inr (List.mem_filter.mpr ⟨h, by simpa using z⟩)
section
variable {X : Cx} {We : WeX} {Si St Se sl : List Nat} {tg iter elt : PySem.Expr} {ifs : List PySem.Expr} {fi : DEnv → Res (List D)} {g : D → Option (List D)} {ft : DEnv → Res Bool} {fe : DEnv → Res D} {pos : Pos} {scope : Scope} {own : List (Str × Nat)}
theorem lc_ok {σ : L2.St} {H : Hp} {Q : VK} (hg2 : ∀ d ds, g d = some ds → ds.length = sl.length) (ho : own.map (·.2) = sl)
    (h : tG X.K X.mg We (RF X.K X.mg) (Si ++ minus (St ++ Se) sl) (eLc sl fi g ft fe) σ H Q) :
    tLc (tG X.K X.mg We (RI X.K X.mg) Si fi) (tT X.K X.mg sl g) (tG X.K X.mg (We0 We.ex) RB St ft) (tG X.K X.mg (We0 We.ex) (RD X.K X.mg) Se fe) (own.map (·.2)) σ H Q := by
  obtain ⟨F, ρ, hF, hE, q⟩ := h
  refine ⟨F, ρ, hF, hE.l, Out.bind q fun ds F1 H1 J ex hj q1 => ?_⟩
  intro Dn nD
  rw [ho]
  cases ht : (lcL sl g ft fe ρ ds).bindN okLen with
  | st => rw [ht] at q1; exact q1.elim
  | er x => exact absurd ht (bindN_ner okLen_ner x)
  | ok tot =>
    rw [ht] at q1
    obtain ⟨tot', h1, h2⟩ := bindN_ok ht
    obtain ⟨rfl, hlen⟩ := okLen_ok h2
    have fD : F1 Dn = none := ex.2.1.free nD
    refine ⟨fun i m H => m = ds.length - i ∧ i ≤ ds.length ∧ ∃ Fc acc accD ys, Ext F1 H1 Fc H ∧ H Dn = some (.lst acc) ∧ Fc Dn = none ∧ RepAll X.K X.mg Fc acc accD ∧ lcL sl g ft fe ρ (ds.drop i) = .ok ys ∧ tot = accD ++ ys,
      ⟨ds.length, by simp, Nat.zero_le _, F1, [], [], tot, Ext.new0 ex.2.1 nD, upd_same, fD, .nil, h1, rfl⟩, ?_⟩
    rintro i m H' ⟨rfl, hi, Fc, acc, accD, ys, exc, hD, fcD, racc, hys, htot⟩
    obtain ⟨j1, j2⟩ := hj i Fc H' exc.1 exc.2.1
    by_cases hlt : i < ds.length
    · right
      have hd : ds[i]? = some ds[i] := List.getElem?_eq_getElem hlt
      obtain ⟨go, yl⟩ := j2 _ hd
      refine ⟨go, fun H' => ∃ Fc acc accD ys, Ext F1 H1 Fc H' ∧ H' Dn = some (.lst acc) ∧ Fc Dn = none ∧ RepAll X.K X.mg Fc acc accD ∧ lcL sl g ft fe ρ (ds.drop (i + 1)) = .ok ys ∧ tot = accD ++ ys, fun H'' n => ⟨ds.length - (i + 1), by omega, rfl, hlt, n⟩, fun x H2 y => ?_⟩
      obtain ⟨F2, ex2, rx⟩ := yl x H2 y
      rw [List.drop_eq_getElem_cons hlt] at hys
      have hys : (match g ds[i] with
        | none => .st
        | some vs => (ft (setAll ρ sl (vs.map Slot.d))).bindN fun b => if b then (fe (setAll ρ sl (vs.map Slot.d))).bindN fun y => (lcL sl g ft fe ρ (ds.drop (i + 1))).bindN fun ys => .ok (y :: ys) else lcL sl g ft fe ρ (ds.drop (i + 1))) = Res.ok ys := hys
      cases hgd : g ds[i] with
      | none => rw [hgd] at hys; cases hys
      | some vs =>
        simp only [hgd] at hys
        obtain ⟨b, hb, hys⟩ := bindN_ok hys
        refine ⟨F2, ds[i], vs, ex2.2.1, rx, hgd, hg2 _ _ hgd, fun us ru => ⟨by rw [wipe_setAll sl _ _ fun _ h => h, wipe_wipe], ?_⟩⟩
        have all : Ext F F1 F1 F1 → True := fun _ => trivial
        have sF2 : Same F F2 := ex.1.trans (exc.1.trans ex2.1)
        have env : EnvE X.K X.mg We.ex (St ++ Se) F2 (setAll (wipe σ sl) sl (us.map some)) (setAll ρ sl (vs.map Slot.d)) := by
          refine ⟨by rw [setAll_length, setAll_length, wipe_length]; exact hE.1, fun k hk s d a1 a2 => ?_, fun k hk x a1 => ?_⟩
          rotate_left
          · obtain ⟨nk, a2⟩ := setAll_exc sl vs ρ (hg2 _ _ hgd) a1
            rcases mem_minus (sl := sl) hk with z | z
            · exact absurd z nk
            · rw [setAll_get nk, wipe_get nk]
              exact (hE.2.2 k (List.mem_append_right _ z) x a2).mono sF2
          refine setAll_rel sl us vs (wipe σ sl) ρ (by rw [wipe_length]; exact hE.1) ru (hg2 _ _ hgd) k s d ?_ a1 a2
          rcases mem_minus (sl := sl) hk with z | z
          · exact .inr z
          · left
            intro s' d' b1 b2
            have nk : k ∉ sl := by
              have := (List.mem_filter.mp z).2
              simpa using this
            rw [wipe_get nk]
            obtain ⟨v, c1, c2⟩ := hE.2.1 k (List.mem_append_right _ z) s' d' b1 b2
            exact ⟨v, c1, c2.mono sF2⟩
        have step : ∀ F3 H3, Ext F2 H2 F3 H3 → Ext F1 H1 F3 H3 ∧ H3 Dn = some (.lst acc) ∧ F3 Dn = none ∧ RepAll X.K X.mg F3 acc accD := fun F3 H3 e3 => by
          have d2 : H2 Dn = some (.lst acc) := ex2.2.2.1 _ _ hD
          refine ⟨(exc.trans ex2).trans e3, e3.2.2.1 _ _ d2, ?_, (racc.mono ex2.1).mono e3.1⟩
          rw [e3.2.2.2 _ _ d2, ex2.2.2.2 _ _ hD]; exact fcD
        refine ⟨F2, _, ex2.2.1, env.l, ?_⟩
        rw [hb]
        intro F3 H3 b' ex3 eb
        have eb : b' = b := eb
        subst eb
        cases b' with
        | true =>
          rw [if_pos rfl] at hys ⊢
          obtain ⟨y0, hy0, hys⟩ := bindN_ok hys
          obtain ⟨ys', hys', e3⟩ := bindN_ok hys
          cases e3
          refine ⟨F3, _, ex3.2.1, env.r.mono ex3.1, ?_⟩
          rw [hy0]
          intro F4 H4 v4 ex4 r4
          obtain ⟨s1, s2, s3, s4⟩ := step F4 H4 (ex3.trans ex4)
          refine ⟨acc, s2, ?_, F4, acc ++ [v4], accD ++ [y0], ys', ?_, upd_same, s3, s4.append (.cons r4 .nil), hys', by rw [List.append_assoc]; exact htot⟩
          · rw [racc.length]
            have : accD.length < tot.length := by rw [htot, List.length_append, List.length_cons]; omega
            exact lt_line (by omega)
          · refine ⟨s1.1, fun p o q => ?_, fun p o q => ?_, s1.2.2.2⟩
            · rw [upd_ne (fun z => by rw [z, s3] at q; cases q)]; exact s1.2.1 _ _ q
            · rw [upd_ne (ne_of_none q nD)]; exact s1.2.2.1 _ _ q
        | false =>
          rw [if_neg Bool.false_ne_true] at hys ⊢
          obtain ⟨s1, s2, s3, s4⟩ := step F3 H3 ex3
          exact ⟨F3, acc, accD, ys, s1, s2, s3, s4, hys, htot⟩
    · left
      have ei : i = ds.length := by omega
      refine ⟨j1 ei, ?_⟩
      rw [List.drop_eq_nil_of_le (by omega)] at hys
      have hys : Res.ok [] = Res.ok ys := hys
      cases hys
      rw [List.append_nil] at htot
      subst htot
      exact q1 Fc H' _ exc ⟨Dn, acc, rfl, nD, fcD, hD, racc⟩
theorem pf_lc (hc : X.calm = true) (hN : X.N.Nodup) (hi : ID X We Si tg iter fi) (ok : BlkOk X.N X.env.scope scope own) (ho : own.map (·.2) = sl)
    (hg : ∀ (s : Shared) (H : Hp) (C : Addr) (cl : List (Str × Addr)) (fp : List Addr), GD (X.blk s H scope (compEnvC scope cl C X.env) fp) tg sl g)
    (ht : ∀ (s : Shared) (H : Hp) (C : Addr) (cl : List (Str × Addr)) (fp : List Addr), PTsD (X.blk s H scope (compEnvC scope cl C X.env) fp) (We0 We.ex) St ifs ft)
    (he : ∀ (s : Shared) (H : Hp) (C : Addr) (cl : List (Str × Addr)) (fp : List Addr), PD (X.blk s H scope (compEnvC scope cl C X.env) fp) (We0 We.ex) Se elt fe) (hs : ∀ x, foldedSetIterable iter X.env x = pure x := by intro _; rfl) :
    PF X We (Si ++ minus (St ++ Se) sl) (.ListComp elt [⟨tg, iter, ifs, 0⟩] scope pos) (eLc sl fi g ft fe) :=
  pe_imp (pe_lc hc hN hi ok (fun s H C cl fp => (hg s H C cl fp).1) ht he hs) fun σ H Q h => lc_ok (hg X.s_0 X.H_0 0 [] []).2 ho h
/-- name = [..] on one line -/
theorem sd_asgLc {fr : Bool} (k : Bool) {i : Nat} {y : Str} {py : Pos} {spos : Pos} (hc : X.calm = true) (hN : X.N.Nodup) (hi : ID X We Si tg iter fi) (ok : BlkOk X.N X.env.scope scope own) (ho : own.map (·.2) = sl)
    (hg : ∀ (s : Shared) (H : Hp) (C : Addr) (cl : List (Str × Addr)) (fp : List Addr), GD (X.blk s H scope (compEnvC scope cl C X.env) fp) tg sl g)
    (ht : ∀ (s : Shared) (H : Hp) (C : Addr) (cl : List (Str × Addr)) (fp : List Addr), PTsD (X.blk s H scope (compEnvC scope cl C X.env) fp) (We0 We.ex) St ifs ft)
    (he : ∀ (s : Shared) (H : Hp) (C : Addr) (cl : List (Str × Addr)) (fp : List Addr), PD (X.blk s H scope (compEnvC scope cl C X.env) fp) (We0 We.ex) Se elt fe)
    (hy : X.N[i]? = some y := by rfl) (hyl : X.env.scope.names.lookup y = some .local := by rfl)
    (hsw : swapsWith (.ListComp elt [⟨tg, iter, ifs, 0⟩] scope pos) (some (.Name y py)) spos.line X.env = pure true := by exact sw_true rfl rfl rfl (by decide +kernel))
    (hs : ∀ x, foldedSetIterable iter X.env x = pure x := by intro _; rfl) : SD X fr We (.Assign [.Name y py] (.ListComp elt [⟨tg, iter, ifs, 0⟩] scope pos) spos) (sAsgF k (Si ++ minus (St ++ Se) sl) i (eLc sl fi g ft fe)) :=
  ps_imp (ps_setLc hc hN hy hyl hsw hi ok (fun s H C cl fp => (hg s H C cl fp).1) ht he hs) fun E σ H ⟨B, F, ρ, e, h⟩ => lc_ok (hg X.s_0 X.H_0 0 [] []).2 ho (evalF_set e h)
end

/-! ### a def and its call -/
def spD (K : PySem.W.Frag) (mg : Str → Option Value) (fr : Bool) (n : Nat) (m : List D → Res D) : Sp := fun vs H Q E => vs.length = n ∧ ∃ F ds, Same F H ∧ RepAll K mg F vs ds ∧ Out K mg ⟨fun c d _ H' => E c d H', none⟩ (RR K mg fr) F H [] Q (m ds)
abbrev FnD (P : Program) (w : World) (K : PySem.W.Frag) (mg : Str → Option Value) (base : Heap) (k : Nat) (f : Addr) (fd : FuncData) (ps : List Str) (fr : Bool) (m : List D → Res D) : Prop :=
  FnOk P w K mg base (L2.CX P w) k f fd ps (spD K mg fr ps.length m)
def callN (n : Nat) (m : List D → Res D) : List D → Res D := fun ds => if ds.length = n then m ds else .st
def asL : D → Res (List D)
  | .lst xs => .ok xs
  | _ => .st
def callF (n : Nat) (m : List D → Res D) : List D → Res (List D) := fun ds => (callN n m ds).bind asL
section
variable {X : Cx} {We : WeX} {S : List Nat} {k j : Nat} {f : Addr} {fd : FuncData} {ps : List Str} {m : List D → Res D} {x : Str} {p pos : Pos} {e : PySem.Expr} {es : List PySem.Expr} {g : DEnv → Res (List D)}
theorem callN_out {fr : Bool} {F1 H1 : Hp} {σ : L2.St} {Q : VK} {ds : List D} {vs : List V} (hF : Same F1 H1) (r : RepAll X.K X.mg F1 vs ds) (q : Out X.K X.mg We (RR X.K X.mg fr) F1 H1 σ Q (callN ps.length m ds)) : spD X.K X.mg fr ps.length m vs H1 Q (WE We σ) := by
  unfold callN at q
  by_cases hl : ds.length = ps.length
  · rw [if_pos hl] at q
    refine ⟨by rw [r.length]; exact hl, F1, ds, hF, r, ?_⟩
    cases hm : m ds with
    | ok d => rw [hm] at q; exact q
    | er x => rw [hm] at q; exact q
    | st => rw [hm] at q; exact q
  · rw [if_neg hl] at q; exact q.elim
theorem pd_call (tk : Takes X We) (hr : Room k X.A) (hjk : j ≤ k) (F : FnD X.prog X.w X.K X.mg X.base j f fd ps false m) (hm : X.mg x = some (.ref f)) (hk : PySem.W.keepIn X.K (.ref f) = true) (hb : Binds X.K fd ps [])
    (ha : PAD X We S (e :: es) g) (hg : Gl X x := by rfl) (hdb : (x == ("__debug__" : Str)) = false := by decide) (he : starEach (e :: es) X.env = (false, eval e X.env) :: starEach es X.env := by rfl) (hpl : (backTo pos (starEach es X.env)).any (·.1) = false := by rfl) :
    PD X We S (.Call (.Name x p) (e :: es) [] pos) (eL (callN ps.length m) g) :=
  pe_imp (pe_callS F (hr.mono hjk) hg hm hk hb (fun σ => passAt tk σ) ha hdb he hpl) fun σ H Q ⟨F, ρ, hF, hE, q⟩ => ⟨F, ρ, hF, hE, Out.bind q fun ds F1 H1 vs ex r q1 => callN_out (fr := false) ex.2.1 r q1⟩
theorem pf_call (tk : Takes X We) (hr : Room k X.A) (hjk : j ≤ k) (F : FnD X.prog X.w X.K X.mg X.base j f fd ps true m) (hm : X.mg x = some (.ref f)) (hk : PySem.W.keepIn X.K (.ref f) = true) (hb : Binds X.K fd ps [])
    (ha : PAD X We S (e :: es) g) (hg : Gl X x := by rfl) (hdb : (x == ("__debug__" : Str)) = false := by decide) (he : starEach (e :: es) X.env = (false, eval e X.env) :: starEach es X.env := by rfl) (hpl : (backTo pos (starEach es X.env)).any (·.1) = false := by rfl) :
    PF X We S (.Call (.Name x p) (e :: es) [] pos) (eL (callF ps.length m) g) :=
  pe_imp (pe_callS F (hr.mono hjk) hg hm hk hb (fun σ => passAt tk σ) ha hdb he hpl) fun σ H Q ⟨F, ρ, hF, hE, q⟩ => ⟨F, ρ, hF, hE, Out.bind q fun ds F1 H1 vs ex r q1 => by
    refine callN_out (We := We) (fr := true) ex.2.1 r ?_
    have q1 : Out X.K X.mg We (RF X.K X.mg) F1 H1 σ Q ((callN ps.length m ds).bind asL) := q1
    cases hc : callN ps.length m ds with
    | ok d =>
      rw [hc] at q1
      intro F' H' v ex' r'
      obtain ⟨xs, rfl, r'⟩ := r'
      exact q1 F' H' v ex' r'
    | er x => rw [hc] at q1; exact q1
    | st => rw [hc] at q1; exact q1⟩
end
/-- a def's body as a function of its arguments -/
def mOf (nN : Nat) (fr : Bool) (g : DEnv → SRes) : List D → Res D := fun ds => match g (ds.map Slot.d ++ List.replicate (nN - ds.length) .un) with
  | .nx _ => if fr then .st else .ok .non
  | .rt d => .ok d
  | .er x _ => .er x
  | _ => .st
theorem envS_start {K : PySem.W.Frag} {mg : Str → Option Value} {ex : EXP} {F H : Hp} {N : List Str} {vs : List V} {ds : List D} (hF : Same F H) (r : RepAll K mg F vs ds) : EnvS K mg ex ⟨F, H, fun _ => 0⟩ F (L2.start N vs) H (ds.map Slot.d ++ List.replicate (N.length - ds.length) .un) := by
  have hl := r.length
  refine ⟨hF, Same.refl _, hF, Same.refl _, fun _ _ _ => rfl, ?_, fun i s h => ?_, fun i j a s t h _ o => ?_⟩
  · unfold L2.start; rw [List.length_append, List.length_append, List.length_map, List.length_map, List.length_replicate, List.length_replicate, hl]
  · by_cases hi : i < ds.length
    · rw [List.getElem?_append_left (by simpa using hi), List.getElem?_map] at h
      cases hd : ds[i]? with
      | none => rw [hd] at h; cases h
      | some d =>
        rw [hd] at h
        cases h
        obtain ⟨v, hv, rv⟩ := r.get hd
        refine ⟨v, ?_, rv⟩
        unfold L2.start
        rw [List.getElem?_append_left (by rw [List.length_map, hl]; exact hi), List.getElem?_map, hv]
        rfl
    · rw [List.getElem?_append_right (by simpa using hi), List.getElem?_replicate] at h
      split at h
      · cases h; trivial
      · cases h
  · exfalso
    by_cases hi : i < ds.length
    · rw [List.getElem?_append_left (by simpa using hi), List.getElem?_map] at h
      cases hd : ds[i]? with
      | none => rw [hd] at h; cases h
      | some d => rw [hd] at h; cases h; cases o
    · rw [List.getElem?_append_right (by simpa using hi), List.getElem?_replicate] at h
      split at h
      · cases h; cases o
      · cases h
theorem fnd_of {P : Program} {w : World} {K : PySem.W.Frag} {mg : Str → Option Value} {base : Heap} {x qual : Str} {st : Stmt} {f : Addr} {fd : FuncData} {N ps : List Str} {k : Nat} {fr : Bool} {g : DEnv → SRes}
    (F : Fun K x qual st f fd) (S : FnScope N ps (defScope st))
    (hb : ∀ (cdv : Value) (A : Around) (outer : List Env) (s : Shared) (H : Hp) (E : XK), Room k (A.deeper (envOfC qual (defScope st) s.heap.objs.size f cdv)) →
      SDs (cxOf (L2.CX P w) P w K mg base N qual (defScope st) f cdv A outer s H E) fr ⟨fun c d _ H' => E c d H', none⟩ (defBody st) g) : FnD P w K mg base (k + 1) f fd ps fr (mOf N.length fr g) := by
  refine F.okX S (fun vs H Q E h => h.1) fun cdv A outer s H vs Q E hr h => ⟨_, hb cdv A outer s H E hr, ?_⟩
  obtain ⟨hl, F', ds, hF, r, q⟩ := h
  refine ⟨_, F', _, envS_start hF r, ?_⟩
  unfold mOf at q
  cases hg : g (ds.map Slot.d ++ List.replicate (N.length - ds.length) .un) with
  | nx ρ =>
    rw [hg] at q
    cases fr with
    | true => exact q.elim
    | false => exact fun F2 σ2 H2 e => q F2 H2 .non e.ext .non
  | rt d => rw [hg] at q; exact q
  | er x ρ => rw [hg] at q; exact fun F2 σ2 H2 C d e m z => q C d H2 e.hh m z
  | bk ρ => rw [hg] at q; exact q.elim
  | ct ρ => rw [hg] at q; exact q.elim
  | st => rw [hg] at q; exact q.elim
end DL
set_option Elab.async false
set_option linter.all false
set_option maxRecDepth 100000
set_option maxHeartbeats 1000000
/-! DL5: in, places, slices, built-ins, methods of texts, instances. -/
namespace DL
open PySem PySem.Spec PyProof.Rows L2

/-! ### in -/
def D.flat : D → Bool
  | .non => true
  | .bl _ => true
  | .int _ => true
  | .str _ => true
  | _ => false
def inSeq (x : D) (ys : List D) : Bool := ys.any fun y => y.eqv x
def dInS (x : D) : D → Res Bool
  | .lst ys => if (x.flat && ys.all D.flat) = true then .ok (inSeq x ys) else if (dOk 16 x && dOks 16 ys) = true then .ok (inSeq x ys) else .st
  | .tup ys => if (x.flat && ys.all D.flat) = true then .ok (inSeq x ys) else .st
  | .str z => match x with
    | .str y => match y.cps.toList with
      | [c] => .ok (decide (c ∈ z.cps.toList))
      | _ => .st
    | _ => .st
  | _ => .st
def dIn (x y : D) : Res D := (dInS x y).bind fun b => .ok (.bl b)
def dNotIn (x y : D) : Res D := (dInS x y).bind fun b => .ok (.bl !b)
def rInA (K : PySem.W.Frag) : R2 := fun x y H Q => (rIn K false x y H Q ∨ rInD K x y H Q) ∨ (∃ (c : Nat) (z : Str), x = .str ⟨#[c]⟩ ∧ y = .str z ∧ Q (.bl (decide (c ∈ z.cps.toList))) H)
def rNotInA (K : PySem.W.Frag) : R2 := fun x y H Q => (rIn K true x y H Q ∨ rNotInD K x y H Q) ∨ (∃ (c : Nat) (z : Str), x = .str ⟨#[c]⟩ ∧ y = .str z ∧ Q (.bl (!decide (c ∈ z.cps.toList))) H)
section
variable {K : PySem.W.Frag} {mg : Str → Option Value}
theorem flat_of {F : Hp} {v : V} {x : D} (r : Rep K mg F v x) : flatV v = x.flat := by
  cases r <;> rfl
theorem flats_of {F : Hp} : ∀ {vs : List V} {xs : List D}, RepAll K mg F vs xs → vs.all flatV = xs.all D.flat
  | [], [], _ => rfl
  | [], _ :: _, h => by cases h
  | _ :: _, [], h => by cases h
  | _ :: _, _ :: _, h => by
    cases h with
    | cons a b => rw [List.all_cons, List.all_cons, flat_of a, flats_of b]
theorem eqV_of {F : Hp} {v u : V} {x y : D} (r : Rep K mg F v x) (s : Rep K mg F u y) (f : x.flat = true) (g : y.flat = true) : eqV v u = x.eqv y := by
  cases r <;> first | (cases f; done) | (cases s <;> first | (cases g; done) | rfl)
theorem inV_of {F : Hp} {v : V} {x : D} (r : Rep K mg F v x) (f : x.flat = true) : ∀ {vs : List V} {xs : List D}, RepAll K mg F vs xs → xs.all D.flat = true → inV v vs = inSeq x xs
  | [], [], _, _ => rfl
  | [], _ :: _, h, _ => by cases h
  | _ :: _, [], h, _ => by cases h
  | _ :: _, _ :: _, h, g => by
    cases h with
    | cons a b =>
      rw [List.all_cons, Bool.and_eq_true] at g
      have ih := inV_of r f b g.2
      unfold inV inSeq at ih ⊢
      rw [List.any_cons, List.any_cons, ih, eqV_of a r g.1 f]
theorem anyE_of {x : D} (k : dOk 16 x = true) : ∀ {xs : List D}, dOks 16 xs = true → (pys xs).any (fun z => PyData.eqv z x.py) = inSeq x xs
  | [], _ => rfl
  | y :: ys, g => by
    have g : (dOk 16 y && dOks 16 ys) = true := g
    rw [Bool.and_eq_true] at g
    have ih := anyE_of k g.2
    unfold inSeq at ih ⊢
    show (List.any (y.py :: pys ys) _) = _
    rw [List.any_cons, List.any_cons, ih, eqv_py y x 16 16 g.1 k]
theorem dOks_shaped {ds : List D} (h : dOks 16 ds = true) : SeqAt.shaped (.list (pys ds)) = true := by
  obtain ⟨a, b⟩ := dOks_lay ds 16 h
  unfold SeqAt.shaped
  rw [show PyData.canLay0 (.list (pys ds)) = true from a, decide_eq_true (show PyData.depth (.list (pys ds)) ≤ 64 from by show PyData.depthAll (pys ds) + 1 ≤ 64; omega)]
  rfl
theorem dInS_out {We : WeX} {F H : Hp} {σ : L2.St} {x y : D} {v u : V} {Q : Bool → Hp → Prop} (hF : Same F H) (rx : Rep K mg F v x) (ry : Rep K mg F u y) (h : Out K mg We RB F H σ Q (dInS x y)) :
    ((∃ p xs, u = .ref p ∧ (SqL K H p xs ∨ SqT K H p xs) ∧ flatV v = true ∧ xs.all flatV = true ∧ Q (inV v xs) H) ∨ (∃ d ds, Dp K H v d ∧ Dp K H u (.list ds) ∧ SeqAt.shaped d = true ∧ SeqAt.shaped (.list ds) = true ∧ Q (ds.any fun z => PyData.eqv z d) H)) ∨
      ∃ (c : Nat) (z : Str), v = .str ⟨#[c]⟩ ∧ u = .str z ∧ Q (decide (c ∈ z.cps.toList)) H := by
  cases y with
  | lst ys =>
    have h : Out K mg We RB F H σ Q (if (x.flat && ys.all D.flat) = true then .ok (inSeq x ys) else if (dOk 16 x && dOks 16 ys) = true then .ok (inSeq x ys) else .st) := h
    cases ry with
    | lst a b =>
      by_cases z : (x.flat && ys.all D.flat) = true
      · rw [if_pos z] at h
        rw [Bool.and_eq_true] at z
        exact .inl (.inl ⟨_, _, rfl, .inl (SqL.same hF a), by rw [flat_of rx]; exact z.1, by rw [flats_of b]; exact z.2, by rw [inV_of rx z.1 b z.2]; exact h F H _ (Ext.refl hF) rfl⟩)
      · rw [if_neg z] at h
        by_cases z : (dOk 16 x && dOks 16 ys) = true
        · rw [if_pos z] at h
          rw [Bool.and_eq_true] at z
          exact .inl (.inr ⟨x.py, pys ys, (rx.mono hF).dp _ _ _ z.1, .lst (SqL.same hF a) ((b.mono hF).dp _ _ _ z.2), dOk_shaped z.1, dOks_shaped z.2, by rw [anyE_of z.1 z.2]; exact h F H _ (Ext.refl hF) rfl⟩)
        · rw [if_neg z] at h; exact h.elim
  | tup ys =>
    have h : Out K mg We RB F H σ Q (if (x.flat && ys.all D.flat) = true then .ok (inSeq x ys) else .st) := h
    cases ry with
    | tup a b =>
      by_cases z : (x.flat && ys.all D.flat) = true
      · rw [if_pos z] at h
        rw [Bool.and_eq_true] at z
        exact .inl (.inl ⟨_, _, rfl, .inr (SqT.same hF a), by rw [flat_of rx]; exact z.1, by rw [flats_of b]; exact z.2, by rw [inV_of rx z.1 b z.2]; exact h F H _ (Ext.refl hF) rfl⟩)
      · rw [if_neg z] at h; exact h.elim
  | str z =>
    cases x with
    | str y =>
      have h : Out K mg We RB F H σ Q (match y.cps.toList with | [c] => .ok (decide (c ∈ z.cps.toList)) | _ => .st) := h
      cases rx; cases ry
      obtain ⟨⟨l⟩⟩ := y
      match l, h with
      | [c], h => exact .inr ⟨c, z, rfl, rfl, h F H _ (Ext.refl hF) rfl⟩
      | [], h => exact h.elim
      | _ :: _ :: _, h => exact h.elim
    | _ => exact h.elim
  | _ => exact h.elim
theorem od_in : OpD K mg (rInA K) dIn := fun We F H σ x y v u Q hF rx ry h => by
  have z := dInS_out (We := We) (σ := σ) (Q := fun b H' => Q (.bl b) H') hF rx ry (Out.bind h fun b F1 H1 b' ex e q => by
    have e : b' = b := e
    subst e
    exact q F1 H1 _ (Ext.refl ex.2.1) (.bl _))
  rcases z with (⟨p, xs, e, s, f, g, q⟩ | z) | z
  · exact .inl (.inl ⟨p, xs, e, s, f, g, q⟩)
  · exact .inl (.inr z)
  · exact .inr z
theorem od_notin : OpD K mg (rNotInA K) dNotIn := fun We F H σ x y v u Q hF rx ry h => by
  have z := dInS_out (We := We) (σ := σ) (Q := fun b H' => Q (.bl (!b)) H') hF rx ry (Out.bind h fun b F1 H1 b' ex e q => by
    have e : b' = b := e
    subst e
    exact q F1 H1 _ (Ext.refl ex.2.1) (.bl _))
  rcases z with (⟨p, xs, e, s, f, g, q⟩ | z) | z
  · exact .inl (.inl ⟨p, xs, e, s, f, g, q⟩)
  · exact .inl (.inr z)
  · exact .inr z
end
theorem op_inA {X : Cx} (hu : X.A.units + 65 < cLine) : OpR X (compareOp .In) (rInA X.K) := (OpR.or (OpR.or op_in_seq (op_inD hu)) op_in_sign)
theorem op_notinA {X : Cx} (hu : X.A.units + 65 < cLine) : OpR X (compareOp .NotIn) (rNotInA X.K) := (OpR.or (OpR.or op_notIn_seq (op_notInD hu)) op_notIn_sign)

theorem u65 {k : Nat} {A : Around} (r : Room k A) : A.units + 65 < cLine := by
  have := r.un
  omega
/-! ### places and slices -/
def dIx : D → D → Res D
  | .lst xs, .int i => match atI xs i with
    | some d => .ok d
    | none => .st
  | .tup xs, .int i => match atI xs i with
    | some d => .ok d
    | none => .st
  | .str z, .int i => if z.length ≤ lim then match atI z.cps.toList i with
    | some c => .ok (.str ⟨#[c]⟩)
    | none => .st
    else .st
  | _, _ => .st
section
variable {K : PySem.W.Frag} {mg : Str → Option Value}
theorem RepAll.atI {F : Hp} {vs : List V} {ds : List D} {i : Int} {d : D} (r : RepAll K mg F vs ds) (h : L2.atI ds i = some d) : ∃ v, L2.atI vs i = some v ∧ Rep K mg F v d := by
  unfold L2.atI at h ⊢
  rw [r.length]
  cases hj : ixN ds.length i with
  | none => rw [hj] at h; cases h
  | some j =>
    rw [hj] at h
    exact r.get h
theorem od_ix : OpD K mg (rIx K) dIx := fun We F H σ x y v u Q hF rx ry h => by
  cases x with
  | lst xs =>
    cases y with
    | int i =>
      cases ry
      have h : Out K mg We (RD K mg) F H σ Q (match atI xs i with | some d => .ok d | none => .st) := h
      cases ha : atI xs i with
      | none => rw [ha] at h; exact h.elim
      | some d =>
        rw [ha] at h
        cases rx with
        | lst a b =>
          obtain ⟨w, hw, rw'⟩ := b.atI ha
          exact .inl ⟨_, _, _, w, rfl, rfl, SqL.same hF a, hw, h F H _ (Ext.refl hF) rw'⟩
    | _ => exact h.elim
  | tup xs =>
    cases y with
    | int i =>
      cases ry
      have h : Out K mg We (RD K mg) F H σ Q (match atI xs i with | some d => .ok d | none => .st) := h
      cases ha : atI xs i with
      | none => rw [ha] at h; exact h.elim
      | some d =>
        rw [ha] at h
        cases rx with
        | tup a b =>
          obtain ⟨w, hw, rw'⟩ := b.atI ha
          exact .inr (.inl ⟨_, _, _, w, rfl, rfl, SqT.same hF a, hw, h F H _ (Ext.refl hF) rw'⟩)
    | _ => exact h.elim
  | str z =>
    cases y with
    | int i =>
      cases ry; cases rx
      have h : Out K mg We (RD K mg) F H σ Q (if z.length ≤ lim then match atI z.cps.toList i with | some c => .ok (.str ⟨#[c]⟩) | none => .st else .st) := h
      by_cases hz : z.length ≤ lim
      · rw [if_pos hz] at h
        cases ha : atI z.cps.toList i with
        | none => rw [ha] at h; exact h.elim
        | some c =>
          rw [ha] at h
          exact .inr (.inr ⟨_, _, c, rfl, rfl, le_line hz, ha, h F H _ (Ext.refl hF) (.str _)⟩)
      · rw [if_neg hz] at h; exact h.elim
    | _ => exact h.elim
  | _ => exact h.elim
end
section
variable {X : Cx} {We : WeX} {Sa Sb Sc : List Nat} {fa fb : DEnv → Res D} {a b : PySem.Expr} {pos p2 : Pos}
theorem pd_ix (ha : PD X We Sa a fa) (hb : PD X We Sb b fb) (hs : PlainIx b := by exact fun _ _ => rfl) : PD X We (Sa ++ Sb) (.Subscript a b pos) (e2 dIx fa fb) :=
  pe_imp (pe_ix ix_seq ha hb hs) fun _ _ _ h => tG_op od_ix h
/-- a part of a slice -/
def RO : Hp → Hp → Hp → Option Int → Option Int → Prop := fun _ _ _ v d => v = d
instance : Anti RO := ⟨fun _ h => h⟩
abbrev POD (X : Cx) (We : WeX) (S : List Nat) (e : Option PySem.Expr) (f : DEnv → Res (Option Int)) : Prop := PO X e (tG X.K X.mg We RO S f)
theorem po_imp {X : Cx} {e : Option PySem.Expr} {t t' : TO} (h : PO X e t) (i : ∀ σ H Q, t' σ H Q → t σ H Q) : PO X e t' := ⟨fun pins s σ H Q I q => h.run pins s σ H Q I (i σ H Q q)⟩
def eNoP : DEnv → Res (Option Int) := fun _ => .ok none
def asP : D → Res (Option Int)
  | .int i => .ok (some i)
  | _ => .st
def eP (f : DEnv → Res D) : DEnv → Res (Option Int) := fun ρ => (f ρ).bind asP
theorem pod_none : POD X We [] none eNoP := po_imp po_none fun σ H Q ⟨F, ρ, hF, hE, q⟩ => q F H none (Ext.refl hF) rfl
theorem pod_some (ha : PD X We Sa a fa) : POD X We Sa (some a) (eP fa) := po_imp (po_some ha) fun σ H Q ⟨F, ρ, hF, hE, q⟩ => ⟨F, ρ, hF, hE, Out.bind q fun x F1 H1 v ex rx q1 => by
  cases x with
  | int i => cases rx; exact ⟨i, rfl, q1 F1 H1 _ (Ext.refl ex.2.1) rfl⟩
  | _ => exact q1.elim⟩
def cutD (xs : List D) (lo hi : Option Int) : List D := (xs.drop (HT.sIx xs.length 0 lo)).take (HT.sIx xs.length xs.length hi - HT.sIx xs.length 0 lo)
theorem RepAll.cut {K : PySem.W.Frag} {mg : Str → Option Value} {F : Hp} {vs : List V} {ds : List D} {lo hi : Option Int} (r : RepAll K mg F vs ds) : RepAll K mg F (cutV vs lo hi) (cutD ds lo hi) := by
  unfold cutV cutD
  rw [r.length]
  exact (r.drop _).take _
def dSl (x : D) (lo hi : Option Int) : Res D := match x with
  | .tup xs => .ok (.tup (cutD xs lo hi))
  | .str z => if z.length ≤ lim then .ok (.str (cutS z lo hi)) else .st
  | _ => .st
def dSlL (x : D) (lo hi : Option Int) : Res (List D) := match x with
  | .lst xs => .ok (cutD xs lo hi)
  | _ => .st
def e3 {β : Type} (o : D → Option Int → Option Int → Res β) (f : DEnv → Res D) (l h : DEnv → Res (Option Int)) : DEnv → Res β := fun ρ => (f ρ).bind fun x => (l ρ).bind fun a => (h ρ).bind fun b => o x a b
theorem pd_sl {lo hi : Option PySem.Expr} {fl fh : DEnv → Res (Option Int)} (ha : PD X We Sa a fa) (hl : POD X We Sb lo fl) (hh : POD X We Sc hi fh) : PD X We (Sa ++ Sb ++ Sc) (.Subscript a (.Slice lo hi none p2) pos) (e3 dSl fa fl fh) :=
  pe_imp (pe_slice (sl_tupA.or sl_str) ha hl hh) fun σ H Q ⟨F, ρ, hF, hE, q⟩ => ⟨F, ρ, hF, hE.l.l, Out.bind q fun x F1 H1 v ex rx q1 => ⟨F1, ρ, ex.2.1, hE.l.r.mono ex.1, Out.bind q1 fun l F2 H2 l' el rl q2 => ⟨F2, ρ, el.2.1, hE.r.mono (ex.1.trans el.1), Out.bind q2 fun h F3 H3 h' eh rh q3 => by
    have e1 : l' = l := rl
    have e2 : h' = h := rh
    subst e1 e2
    have rx := (rx.mono el.1).mono eh.1
    cases x with
    | tup xs =>
      cases rx with
      | tup c d =>
        refine .inl ⟨_, _, rfl, SqT.same eh.2.1 c, fun hw => ?_, fun _ p hp => q3 _ _ _ (Ext.new eh.2.1 hp) (.tup (SqT.of upd_same) (d.cut.mono (same_upd (eh.2.1.free hp))))⟩
        have e : cutD xs l' h' = xs := by
          rw [d.length] at hw
          unfold cutD
          rw [hw.1, hw.2, List.drop_zero, Nat.sub_zero, List.take_length]
        have q3 : Out X.K X.mg We (RD X.K X.mg) F3 H3 σ Q (.ok (.tup (cutD xs l' h'))) := q3
        rw [e] at q3
        exact q3 F3 H3 _ (Ext.refl eh.2.1) (.tup c d)
    | str z =>
      cases rx
      have q3 : Out X.K X.mg We (RD X.K X.mg) F3 H3 σ Q (if z.length ≤ lim then .ok (.str (cutS z l' h')) else .st) := q3
      by_cases hz : z.length ≤ lim
      · rw [if_pos hz] at q3
        exact .inr ⟨z, rfl, le_line hz, q3 F3 H3 _ (Ext.refl eh.2.1) (.str _)⟩
      · rw [if_neg hz] at q3; exact q3.elim
    | _ => exact q3.elim⟩⟩⟩
theorem pf_sl {lo hi : Option PySem.Expr} {fl fh : DEnv → Res (Option Int)} (ha : PD X We Sa a fa) (hl : POD X We Sb lo fl) (hh : POD X We Sc hi fh) : PF X We (Sa ++ Sb ++ Sc) (.Subscript a (.Slice lo hi none p2) pos) (e3 dSlL fa fl fh) :=
  pe_imp (pe_slice sl_list ha hl hh) fun σ H Q ⟨F, ρ, hF, hE, q⟩ => ⟨F, ρ, hF, hE.l.l, Out.bind q fun x F1 H1 v ex rx q1 => ⟨F1, ρ, ex.2.1, hE.l.r.mono ex.1, Out.bind q1 fun l F2 H2 l' el rl q2 => ⟨F2, ρ, el.2.1, hE.r.mono (ex.1.trans el.1), Out.bind q2 fun h F3 H3 h' eh rh q3 => by
    have e1 : l' = l := rl
    have e2 : h' = h := rh
    subst e1 e2
    have rx := (rx.mono el.1).mono eh.1
    cases x with
    | lst xs =>
      cases rx with
      | lst c d => exact ⟨_, _, rfl, SqL.same eh.2.1 c, fun p hp => q3 _ _ _ (Ext.new0 eh.2.1 hp) ⟨p, _, rfl, hp, eh.2.1.free hp, upd_same, d.cut⟩⟩
    | _ => exact q3.elim⟩⟩⟩
end
end DL
set_option Elab.async false
set_option linter.all false
set_option maxRecDepth 100000
set_option maxHeartbeats 1000000
/-! DL6: built-ins, methods of texts, instances. -/
namespace DL
open PySem PySem.Spec PyProof.Rows L2

/-! ### calls of built-ins, by data -/
def CaD (K : PySem.W.Frag) (mg : Str → Option Value) (r : List V → Hp → VK → Prop) (o : List D → Res D) : Prop :=
  ∀ (We : WeX) (F H : Hp) (σ : L2.St) (xs : List D) (vs : List V) (Q : VK), Same F H → RepAll K mg F vs xs → Out K mg We (RD K mg) F H σ Q (o xs) → r vs H Q
def CaF (K : PySem.W.Frag) (mg : Str → Option Value) (r : List V → Hp → VK → Prop) (o : List D → Res (List D)) : Prop :=
  ∀ (We : WeX) (F H : Hp) (σ : L2.St) (xs : List D) (vs : List V) (Q : VK), Same F H → RepAll K mg F vs xs → Out K mg We (RF K mg) F H σ Q (o xs) → r vs H Q
section
variable {X : Cx} {We : WeX} {S : List Nat} {x : Str} {p pos : Pos} {e : PySem.Expr} {es : List PySem.Expr} {g : DEnv → Res (List D)} {id T : String} {r : List V → Hp → VK → Prop}
theorem pd_B {o : List D → Res D} (hc : CallR X (.builtin id) r) (ho : CaD X.K X.mg r o) (hm : X.mg x = none) (ha : PAD X We S (e :: es) g) (hv : bootBuiltins x = some (.builtin id) := by decide +kernel) (hg : Gl X x := by rfl) (hn : x ≠ "__name__" := by decide) (hdb : (x == ("__debug__" : Str)) = false := by decide)
    (he : starEach (e :: es) X.env = (false, eval e X.env) :: starEach es X.env := by rfl) (hpl : (backTo pos (starEach es X.env)).any (·.1) = false := by rfl) : PD X We S (.Call (.Name x p) (e :: es) [] pos) (eL o g) :=
  pe_imp (pe_callB hc hg hm hv ha hn hdb he hpl) fun σ H Q ⟨F, ρ, hF, hE, q⟩ => ⟨F, ρ, hF, hE, Out.bind q fun ds F1 H1 vs ex r q1 => ho We F1 H1 σ ds vs Q ex.2.1 r q1⟩
theorem pf_B {o : List D → Res (List D)} (hc : CallR X (.builtin id) r) (ho : CaF X.K X.mg r o) (hm : X.mg x = none) (ha : PAD X We S (e :: es) g) (hv : bootBuiltins x = some (.builtin id) := by decide +kernel) (hg : Gl X x := by rfl) (hn : x ≠ "__name__" := by decide) (hdb : (x == ("__debug__" : Str)) = false := by decide)
    (he : starEach (e :: es) X.env = (false, eval e X.env) :: starEach es X.env := by rfl) (hpl : (backTo pos (starEach es X.env)).any (·.1) = false := by rfl) : PF X We S (.Call (.Name x p) (e :: es) [] pos) (eL o g) :=
  pe_imp (pe_callB hc hg hm hv ha hn hdb he hpl) fun σ H Q ⟨F, ρ, hF, hE, q⟩ => ⟨F, ρ, hF, hE, Out.bind q fun ds F1 H1 vs ex r q1 => ho We F1 H1 σ ds vs Q ex.2.1 r q1⟩
theorem pd_T {o : List D → Res D} (hc : CallR X (.type T) r) (ho : CaD X.K X.mg r o) (hm : X.mg x = none) (ha : PAD X We S (e :: es) g) (hv : bootBuiltins x = some (.type T) := by decide +kernel) (hg : Gl X x := by rfl) (hn : x ≠ "__name__" := by decide) (hdb : (x == ("__debug__" : Str)) = false := by decide)
    (he : starEach (e :: es) X.env = (false, eval e X.env) :: starEach es X.env := by rfl) (hpl : (backTo pos (starEach es X.env)).any (·.1) = false := by rfl) : PD X We S (.Call (.Name x p) (e :: es) [] pos) (eL o g) :=
  pe_imp (pe_callTy hc hg hm hv ha hn hdb he hpl) fun σ H Q ⟨F, ρ, hF, hE, q⟩ => ⟨F, ρ, hF, hE, Out.bind q fun ds F1 H1 vs ex r q1 => ho We F1 H1 σ ds vs Q ex.2.1 r q1⟩
theorem pf_T {o : List D → Res (List D)} (hc : CallR X (.type T) r) (ho : CaF X.K X.mg r o) (hm : X.mg x = none) (ha : PAD X We S (e :: es) g) (hv : bootBuiltins x = some (.type T) := by decide +kernel) (hg : Gl X x := by rfl) (hn : x ≠ "__name__" := by decide) (hdb : (x == ("__debug__" : Str)) = false := by decide)
    (he : starEach (e :: es) X.env = (false, eval e X.env) :: starEach es X.env := by rfl) (hpl : (backTo pos (starEach es X.env)).any (·.1) = false := by rfl) : PF X We S (.Call (.Name x p) (e :: es) [] pos) (eL o g) :=
  pe_imp (pe_callTy hc hg hm hv ha hn hdb he hpl) fun σ H Q ⟨F, ρ, hF, hE, q⟩ => ⟨F, ρ, hF, hE, Out.bind q fun ds F1 H1 vs ex r q1 => ho We F1 H1 σ ds vs Q ex.2.1 r q1⟩
end
def bAbs : List D → Res D
  | [.int i] => .ok (.int (if i < 0 then -i else i))
  | _ => .st
def bInt : List D → Res D
  | [.int i] => .ok (.int i)
  | [.bl b] => .ok (.int (if b then 1 else 0))
  | _ => .st
def bLen : List D → Res D
  | [.lst xs] => .ok (.int xs.length)
  | [.tup xs] => .ok (.int xs.length)
  | [.str z] => if z.length ≤ lim then .ok (.int z.length) else .st
  | _ => .st
def bTuple : List D → Res D
  | [.lst xs] => .ok (.tup xs)
  | [.tup xs] => .ok (.tup xs)
  | _ => .st
def bList : List D → Res (List D)
  | [.lst xs] => .ok xs
  | [.tup xs] => .ok xs
  | _ => .st
def asInts : List D → Option (List Int)
  | [] => some []
  | .int i :: ds => (asInts ds).bind fun r => some (i :: r)
  | _ => none
def asBls : List D → Option (List Bool)
  | [] => some []
  | .bl i :: ds => (asBls ds).bind fun r => some (i :: r)
  | _ => none
def bSum : List D → Res D
  | [.lst xs] => match asInts xs with
    | some ns => .ok (.int ns.sum)
    | none => .st
  | _ => .st
def bAll : List D → Res D
  | [.lst xs] => match asBls xs with
    | some bs => .ok (.bl (bs.all id))
    | none => .st
  | _ => .st
def bAny : List D → Res D
  | [.lst xs] => match asBls xs with
    | some bs => .ok (.bl (bs.any id))
    | none => .st
  | _ => .st
section
variable {K : PySem.W.Frag} {mg : Str → Option Value}
theorem ints_of {F : Hp} : ∀ {xs : List D} {vs : List V} {ns : List Int}, RepAll K mg F vs xs → asInts xs = some ns → vs = ns.map V.int
  | [], vs, ns, r, h => by cases h; cases r; rfl
  | d :: ds, vs, ns, r, h => by
    cases d <;> try (cases h; done)
    rename_i i
    have h : ((asInts ds).bind fun r => some (i :: r)) = some ns := h
    cases q : asInts ds with
    | none => rw [q] at h; cases h
    | some ms =>
      rw [q] at h
      cases h
      cases r with
      | cons a b =>
        cases a
        rw [ints_of b q]
        rfl
theorem bls_of {F : Hp} : ∀ {xs : List D} {vs : List V} {ns : List Bool}, RepAll K mg F vs xs → asBls xs = some ns → vs = ns.map V.bl
  | [], vs, ns, r, h => by cases h; cases r; rfl
  | d :: ds, vs, ns, r, h => by
    cases d <;> try (cases h; done)
    rename_i i
    have h : ((asBls ds).bind fun r => some (i :: r)) = some ns := h
    cases q : asBls ds with
    | none => rw [q] at h; cases h
    | some ms =>
      rw [q] at h
      cases h
      cases r with
      | cons a b =>
        cases a
        rw [bls_of b q]
        rfl
theorem one_of {P : D → Prop} {xs : List D} {β : Type} {o : List D → Res β} (h : ∀ d, P d → True) : True := trivial
/-- of one argument -/
theorem ca_one {r : List V → Hp → VK → Prop} {o : List D → Res D} (h0 : ∀ xs, xs.length ≠ 1 → o xs = .st) (h : ∀ (We : WeX) (F H : Hp) (σ : L2.St) (d : D) (v : V) (Q : VK), Same F H → Rep K mg F v d → Out K mg We (RD K mg) F H σ Q (o [d]) → r [v] H Q) : CaD K mg r o := fun We F H σ xs vs Q hF rr q => by
  match xs, rr, q with
  | [d], rr, q => obtain ⟨v, rfl, rv⟩ := rr.one; exact h We F H σ d v Q hF rv q
  | [], rr, q => rw [h0 [] (by simp)] at q; exact q.elim
  | _ :: _ :: _, rr, q => rw [h0 _ (by simp)] at q; exact q.elim
theorem caf_one {r : List V → Hp → VK → Prop} {o : List D → Res (List D)} (h0 : ∀ xs, xs.length ≠ 1 → o xs = .st) (h : ∀ (We : WeX) (F H : Hp) (σ : L2.St) (d : D) (v : V) (Q : VK), Same F H → Rep K mg F v d → Out K mg We (RF K mg) F H σ Q (o [d]) → r [v] H Q) : CaF K mg r o := fun We F H σ xs vs Q hF rr q => by
  match xs, rr, q with
  | [d], rr, q => obtain ⟨v, rfl, rv⟩ := rr.one; exact h We F H σ d v Q hF rv q
  | [], rr, q => rw [h0 [] (by simp)] at q; exact q.elim
  | _ :: _ :: _, rr, q => rw [h0 _ (by simp)] at q; exact q.elim
theorem len1 {β : Type} {o : List D → Res β} (h : ∀ a b c, o (a :: b :: c) = .st) (h2 : o [] = .st) : ∀ xs : List D, xs.length ≠ 1 → o xs = .st
  | [], _ => h2
  | [_], n => absurd rfl n
  | _ :: _ :: _, _ => h _ _ _
theorem cd_abs : CaD K mg (fun xs H Q => ∃ i, xs = [.int i] ∧ Q (.int (if i < 0 then -i else i)) H) bAbs := ca_one (len1 (fun a _ _ => by cases a <;> rfl) rfl) fun We F H σ d v Q hF r q => by
  cases d <;> try exact q.elim
  cases r
  exact ⟨_, rfl, q F H _ (Ext.refl hF) (.int _)⟩
theorem cd_int : CaD K mg (fun xs H Q => (∃ i, xs = [.int i] ∧ Q (.int i) H) ∨ ∃ k, xs = [.bl k] ∧ Q (.int (if k then 1 else 0)) H) bInt := ca_one (len1 (fun a _ _ => by cases a <;> rfl) rfl) fun We F H σ d v Q hF r q => by
  cases d <;> try exact q.elim
  · cases r
    exact .inr ⟨_, rfl, q F H _ (Ext.refl hF) (.int _)⟩
  · cases r
    exact .inl ⟨_, rfl, q F H _ (Ext.refl hF) (.int _)⟩
def rLenA (K : PySem.W.Frag) : List V → Hp → VK → Prop := fun xs H Q => (∃ p ys, xs = [.ref p] ∧ (SqL K H p ys ∨ SqT K H p ys) ∧ Q (.int ys.length) H) ∨ ∃ z, xs = [.str z] ∧ z.length ≤ sizeLine ∧ Q (.int z.length) H
theorem cd_len : CaD K mg (rLenA K) bLen := ca_one (len1 (fun a _ _ => by cases a <;> rfl) rfl) fun We F H σ d v Q hF r q => by
  cases d with
  | lst xs =>
    cases r with
    | lst a b => exact .inl ⟨_, _, rfl, .inl (SqL.same hF a), by rw [b.length]; exact q F H _ (Ext.refl hF) (.int _)⟩
  | tup xs =>
    cases r with
    | tup a b => exact .inl ⟨_, _, rfl, .inr (SqT.same hF a), by rw [b.length]; exact q F H _ (Ext.refl hF) (.int _)⟩
  | str z =>
    cases r
    have q : Out K mg We (RD K mg) F H σ Q (if z.length ≤ lim then .ok (.int z.length) else .st) := q
    by_cases hz : z.length ≤ lim
    · rw [if_pos hz] at q
      exact .inr ⟨_, rfl, le_line hz, q F H _ (Ext.refl hF) (.int _)⟩
    · rw [if_neg hz] at q; exact q.elim
  | _ => exact q.elim
theorem cd_tuple : CaD K mg (fun xs H Q => ∃ p ys, xs = [.ref p] ∧ ((SqL K H p ys ∧ ∀ l, H l = none → Q (.ref l) (upd H l (.tup ys))) ∨ (SqT K H p ys ∧ Q (.ref p) H))) bTuple := ca_one (len1 (fun a _ _ => by cases a <;> rfl) rfl) fun We F H σ d v Q hF r q => by
  cases d with
  | lst xs =>
    cases r with
    | lst a b => exact ⟨_, _, rfl, .inl ⟨SqL.same hF a, fun l hl => q _ _ _ (Ext.new hF hl) (.tup (SqT.of upd_same) (b.mono (same_upd (hF.free hl))))⟩⟩
  | tup xs =>
    cases r with
    | tup a b => exact ⟨_, _, rfl, .inr ⟨SqT.same hF a, q F H _ (Ext.refl hF) (.tup a b)⟩⟩
  | _ => exact q.elim
theorem cf_list : CaF K mg (fun xs H Q => ∃ p ys, xs = [.ref p] ∧ (SqL K H p ys ∨ SqT K H p ys) ∧ ∀ l, H l = none → Q (.ref l) (upd H l (.lst ys))) bList := caf_one (len1 (fun a _ _ => by cases a <;> rfl) rfl) fun We F H σ d v Q hF r q => by
  cases d with
  | lst xs =>
    cases r with
    | lst a b => exact ⟨_, _, rfl, .inl (SqL.same hF a), fun l hl => q F _ _ (Ext.new0 hF hl) ⟨l, _, rfl, hl, hF.free hl, upd_same, b⟩⟩
  | tup xs =>
    cases r with
    | tup a b => exact ⟨_, _, rfl, .inr (SqT.same hF a), fun l hl => q F _ _ (Ext.new0 hF hl) ⟨l, _, rfl, hl, hF.free hl, upd_same, b⟩⟩
  | _ => exact q.elim
theorem cd_sum : CaD K mg (rSum K) bSum := ca_one (len1 (fun a _ _ => by cases a <;> rfl) rfl) fun We F H σ d v Q hF r q => by
  cases d with
  | lst xs =>
    have q : Out K mg We (RD K mg) F H σ Q (match asInts xs with | some ns => .ok (.int ns.sum) | none => .st) := q
    cases e : asInts xs with
    | none => rw [e] at q; exact q.elim
    | some ns =>
      rw [e] at q
      cases r with
      | lst a b => exact ⟨_, ns, rfl, by rw [← ints_of b e]; exact SqL.same hF a, q F H _ (Ext.refl hF) (.int _)⟩
  | _ => exact q.elim
theorem cd_all : CaD K mg (rAll K) bAll := ca_one (len1 (fun a _ _ => by cases a <;> rfl) rfl) fun We F H σ d v Q hF r q => by
  cases d with
  | lst xs =>
    have q : Out K mg We (RD K mg) F H σ Q (match asBls xs with | some bs => .ok (.bl (bs.all id)) | none => .st) := q
    cases e : asBls xs with
    | none => rw [e] at q; exact q.elim
    | some ns =>
      rw [e] at q
      cases r with
      | lst a b => exact ⟨_, ns, rfl, by rw [← bls_of b e]; exact SqL.same hF a, q F H _ (Ext.refl hF) (.bl _)⟩
  | _ => exact q.elim
theorem cd_any : CaD K mg (rAny K) bAny := ca_one (len1 (fun a _ _ => by cases a <;> rfl) rfl) fun We F H σ d v Q hF r q => by
  cases d with
  | lst xs =>
    have q : Out K mg We (RD K mg) F H σ Q (match asBls xs with | some bs => .ok (.bl (bs.any id)) | none => .st) := q
    cases e : asBls xs with
    | none => rw [e] at q; exact q.elim
    | some ns =>
      rw [e] at q
      cases r with
      | lst a b => exact ⟨_, ns, rfl, by rw [← bls_of b e]; exact SqL.same hF a, q F H _ (Ext.refl hF) (.bl _)⟩
  | _ => exact q.elim
end
section
variable {X : Cx}
theorem call_lenA : CallR X (.builtin "len") (rLenA X.K) := CallR.or call_len_seq call_len_str
end

/-! ### isinstance, one class -/
def D.ty : D → String
  | .non => "NoneType"
  | .bl _ => "bool"
  | .int _ => "int"
  | .str _ => "str"
  | .tup _ => "tuple"
  | .lst _ => "list"
  | .obj _ _ _ => ""
/-- is a value of the built-in class a one of T -/
def isT (T a : String) : Option Bool := if a == "" then none else kitB a T
def dIsi (T : String) (d : D) : Res D := match isT T d.ty with
  | some b => .ok (.bl b)
  | none => .st
section
variable {X : Cx} {We : WeX} {S : List Nat} {f : DEnv → Res D} {a : PySem.Expr} {p p1 pos : Pos} {x : Str} {T : String}
theorem ty_of {K : PySem.W.Frag} {mg : Str → Option Value} {F H : Hp} {v : V} {d : D} (hF : Same F H) (r : Rep K mg F v d) (n : d.ty ≠ "") : TyX K H v (.type d.ty) := by
  cases r with
  | non => exact .base .non
  | bl b => exact .base (.bl b)
  | int i => exact .base (.int i)
  | str z => exact .base (.str z)
  | lst a b =>
    rcases a with (a | ⟨o, a⟩) | ⟨o, its, k, h1, h2, _⟩
    · exact .base (.lst (hF _ _ a))
    · exact .base (.frz (hF _ _ a))
    · exact .kList h1 h2
  | tup a b =>
    rcases a with (a | ⟨o, a⟩) | ⟨o, its, k, h1, h2, _⟩
    · exact .base (.tup (hF _ _ a))
    · exact .fTuple (hF _ _ a)
    · exact .kTuple h1 h2
  | obj _ _ _ _ => exact absurd rfl n
theorem pd_isi (T : String) (hm : X.mg "isinstance" = none) (hmT : X.mg x = none) (ha : PD X We S a f) (hv : bootBuiltins x = some (.type T) := by decide +kernel) (hg : Gl X "isinstance" := by rfl) (hgT : Gl X x := by rfl) (hn : x ≠ "__name__" := by decide) (hdb : (x == ("__debug__" : Str)) = false := by decide)
    (hs1 : starEach [a, .Name x p1] X.env = (false, eval a X.env) :: starEach [.Name x p1] X.env := by rfl) (hs2 : starEach [.Name x p1] X.env = (false, eval (.Name x p1) X.env) :: starEach [] X.env := by rfl) (hpl : (backTo pos (starEach [.Name x p1] X.env)).any (·.1) = false := by rfl) :
    PD X We S (.Call (.Name "isinstance" p) [a, .Name x p1] [] pos) (e1 (dIsi T) f) := by
  have hP : PA X [a, .Name x p1] (tCons (tG X.K X.mg We (RD X.K X.mg) S f) (tCons (tC (.ty T)) tNil)) := pa_cons ha (pa_cons (pe_bltn (v := .ty T) hgT hmT hv rfl hn hdb) pa_nil hs2) hs1
  refine pe_imp (pe_callB call_isi hg hm (by decide +kernel) hP (by decide) (by decide) hs1 hpl) fun σ H Q ⟨F, ρ, hF, hE, q⟩ => ⟨F, ρ, hF, hE, Out.bind q fun d F1 H1 v ex r q1 => ?_⟩
  unfold dIsi at q1
  cases hb : isT T d.ty with
  | none => rw [hb] at q1; exact q1.elim
  | some b =>
    rw [hb] at q1
    unfold isT at hb
    by_cases hd : (d.ty == "") = true
    · rw [if_pos hd] at hb; cases hb
    · rw [if_neg hd] at hb
      exact ⟨v, .ty T, .type d.ty, .type T, b, rfl, .ty T, ty_of ex.2.1 r (by simpa using hd), kit_ty hb, q1 F1 H1 _ (Ext.refl ex.2.1) (.bl b)⟩
end

/-! ### methods of texts -/
def MeD (K : PySem.W.Frag) (mg : Str → Option Value) (r : V → List V → Hp → VK → Prop) (o : Str → List D → Res D) : Prop :=
  ∀ (We : WeX) (F H : Hp) (σ : L2.St) (x : Str) (xs : List D) (vs : List V) (Q : VK), Same F H → RepAll K mg F vs xs → Out K mg We (RD K mg) F H σ Q (o x xs) → r (.str x) vs H Q
def MeF (K : PySem.W.Frag) (mg : Str → Option Value) (r : V → List V → Hp → VK → Prop) (o : Str → List D → Res (List D)) : Prop :=
  ∀ (We : WeX) (F H : Hp) (σ : L2.St) (x : Str) (xs : List D) (vs : List V) (Q : VK), Same F H → RepAll K mg F vs xs → Out K mg We (RF K mg) F H σ Q (o x xs) → r (.str x) vs H Q
def eM {β : Type} (o : Str → List D → Res β) (f : DEnv → Res D) (g : DEnv → Res (List D)) : DEnv → Res β := fun ρ => (f ρ).bind fun x => match x with
  | .str z => (g ρ).bind fun xs => o z xs
  | _ => .st
section
variable {X : Cx} {We : WeX} {Sa Sb : List Nat} {f : DEnv → Res D} {g : DEnv → Res (List D)} {o e : PySem.Expr} {es : List PySem.Expr} {name : Str} {apos cpos : Pos} {id : String} {r : V → List V → Hp → VK → Prop}
theorem pd_m {m : Str → List D → Res D} (slot : PySem.Slot "str" name id) (hty : typeOf (.builtin id) = pure (.type "method_descriptor")) (hm : MtR X id r) (hd : MeD X.K X.mg r m) (ho : PD X We Sa o f) (ha : PAD X We Sb (e :: es) g)
    (hbase : attributeBase o name X.env (eval o X.env) = eval o X.env := by rfl)
    (hfew : ((backTo cpos (starEach (e :: es) X.env)).all (fun x => !x.1) && (backToKw cpos (keywordEach [] X.env)).all (fun x => x.1.isSome)
      && decide ((e :: es).length + ([] : List Keyword).length + (if ([] : List Keyword).isEmpty then 0 else 1) < 30)) = true := by rfl)
    (hline : (apos.endLine == cpos.line) = true := by rfl) (hs : starEach (e :: es) X.env = (false, eval e X.env) :: starEach es X.env := by rfl) (hplain : (backTo cpos (starEach es X.env)).any (·.1) = false := by rfl) :
    PD X We (Sa ++ Sb) (.Call (.Attribute o name apos) (e :: es) [] cpos) (eM m f g) :=
  pe_imp (pe_bm PySem.F.plainAttrs_str slot hty hm ho ha hbase hfew hline hs hplain) fun σ H Q ⟨F, ρ, hF, hE, q⟩ => ⟨F, ρ, hF, hE.l, Out.bind q fun x F1 H1 v ex rx q1 => by
    cases x with
    | str z =>
      cases rx
      exact ⟨rfl, F1, ρ, ex.2.1, hE.r.mono ex.1, Out.bind q1 fun xs F2 H2 vs ey ry q2 => hd We F2 H2 σ z xs vs Q ey.2.1 ry q2⟩
    | _ => exact q1.elim⟩
theorem pf_m {m : Str → List D → Res (List D)} (slot : PySem.Slot "str" name id) (hty : typeOf (.builtin id) = pure (.type "method_descriptor")) (hm : MtR X id r) (hd : MeF X.K X.mg r m) (ho : PD X We Sa o f) (ha : PAD X We Sb (e :: es) g)
    (hbase : attributeBase o name X.env (eval o X.env) = eval o X.env := by rfl)
    (hfew : ((backTo cpos (starEach (e :: es) X.env)).all (fun x => !x.1) && (backToKw cpos (keywordEach [] X.env)).all (fun x => x.1.isSome)
      && decide ((e :: es).length + ([] : List Keyword).length + (if ([] : List Keyword).isEmpty then 0 else 1) < 30)) = true := by rfl)
    (hline : (apos.endLine == cpos.line) = true := by rfl) (hs : starEach (e :: es) X.env = (false, eval e X.env) :: starEach es X.env := by rfl) (hplain : (backTo cpos (starEach es X.env)).any (·.1) = false := by rfl) :
    PF X We (Sa ++ Sb) (.Call (.Attribute o name apos) (e :: es) [] cpos) (eM m f g) :=
  pe_imp (pe_bm PySem.F.plainAttrs_str slot hty hm ho ha hbase hfew hline hs hplain) fun σ H Q ⟨F, ρ, hF, hE, q⟩ => ⟨F, ρ, hF, hE.l, Out.bind q fun x F1 H1 v ex rx q1 => by
    cases x with
    | str z =>
      cases rx
      exact ⟨rfl, F1, ρ, ex.2.1, hE.r.mono ex.1, Out.bind q1 fun xs F2 H2 vs ey ry q2 => hd We F2 H2 σ z xs vs Q ey.2.1 ry q2⟩
    | _ => exact q1.elim⟩
end
/-- a method of one text argument -/
def m1 (c : Str → Str → Bool) (h : Str → Str → D) : Str → List D → Res D := fun x xs => match xs with
  | [.str y] => if c x y = true then .ok (h x y) else .st
  | _ => .st
theorem m1_out {K : PySem.W.Frag} {mg : Str → Option Value} {We : WeX} {F H : Hp} {σ : L2.St} {x : Str} {xs : List D} {vs : List V} {Q : VK} {c : Str → Str → Bool} {h : Str → Str → D} (rr : RepAll K mg F vs xs) (q : Out K mg We (RD K mg) F H σ Q (m1 c h x xs)) :
    ∃ y, vs = [.str y] ∧ c x y = true ∧ Out K mg We (RD K mg) F H σ Q (.ok (h x y)) := by
  have key : ∀ d, xs = [d] → ∃ y, vs = [.str y] ∧ c x y = true ∧ Out K mg We (RD K mg) F H σ Q (.ok (h x y)) := fun d e => by
    subst e
    cases d <;> try exact q.elim
    rename_i y
    obtain ⟨v, rfl, rv⟩ := rr.one
    cases rv
    have q : Out K mg We (RD K mg) F H σ Q (if c x y = true then .ok (h x y) else .st) := q
    by_cases z : c x y = true
    · rw [if_pos z] at q; exact ⟨y, rfl, z, q⟩
    · rw [if_neg z] at q; exact q.elim
  match xs, q with
  | [d], q => exact key d rfl
  | [], q => exact q.elim
  | a :: _ :: _, q => cases a <;> exact q.elim
def okS (x _ : Str) : Bool := decide (x.length ≤ lim)
def okS1 (_ _ : Str) : Bool := true
def mRemoveSuffix := m1 okS fun x y => .str (Txt.removesuffix x y)
def mRemovePrefix := m1 okS fun x y => .str (Txt.removeprefix x y)
def mStarts := m1 okS1 fun x y => .bl (Txt.startswith x y)
section
variable {K : PySem.W.Frag} {mg : Str → Option Value}
theorem md_removesuffix : MeD K mg (fun x xs H Q => ∃ a b, x = .str a ∧ xs = [.str b] ∧ a.length ≤ sizeLine ∧ Q (.str (Txt.removesuffix a b)) H) mRemoveSuffix := fun We F H σ x xs vs Q hF rr q => by
  obtain ⟨y, rfl, hc, q⟩ := m1_out rr q
  exact ⟨x, y, rfl, rfl, le_line (of_decide_eq_true hc), q F H _ (Ext.refl hF) (.str _)⟩
theorem md_removeprefix : MeD K mg (fun x xs H Q => ∃ a b, x = .str a ∧ xs = [.str b] ∧ a.length ≤ sizeLine ∧ Q (.str (Txt.removeprefix a b)) H) mRemovePrefix := fun We F H σ x xs vs Q hF rr q => by
  obtain ⟨y, rfl, hc, q⟩ := m1_out rr q
  exact ⟨x, y, rfl, rfl, le_line (of_decide_eq_true hc), q F H _ (Ext.refl hF) (.str _)⟩
theorem md_starts : MeD K mg (fun x xs H Q => ∃ a b, x = .str a ∧ xs = [.str b] ∧ Q (.bl (Txt.startswith a b)) H) mStarts := fun We F H σ x xs vs Q hF rr q => by
  obtain ⟨y, rfl, hc, q⟩ := m1_out rr q
  exact ⟨x, y, rfl, rfl, q F H _ (Ext.refl hF) (.bl _)⟩
end

/-! ### attributes -/
def lookD : List Str → List D → Str → Option D
  | n :: ns, d :: ds, f => if f == n then some d else lookD ns ds f
  | _, _, _ => none
/-- what of the text a class must have, that its instances' fields fs may be read and stored -/
structure ClD (K : PySem.W.Frag) (mg : Str → Option Value) (c : Str) (C : Addr) (fs : List Str) : Prop where
  gl : mg c = some (.ref C)
  cl : Cls K C
  na : ∀ f ∈ fs, NoAttr K C f
def dFld (cs : List Str) (f : Str) : D → Res D
  | .obj c ns ds => if cs.contains c = true then match lookD ns ds f with
    | some d => .ok d
    | none => .st
    else .st
  | _ => .st
theorem RepAll.look {K : PySem.W.Frag} {mg : Str → Option Value} {F : Hp} {f : Str} {d : D} : ∀ {fv : List (Str × V)} {ns : List Str} {ds : List D}, fv.map (·.1) = ns → RepAll K mg F (fv.map (·.2)) ds → lookD ns ds f = some d → ∃ v, fv.lookup f = some v ∧ Rep K mg F v d
  | [], ns, ds, e, r, h => by subst e; cases ds <;> cases h
  | (n, v) :: fv, ns, ds, e, r, h => by
    subst e
    cases ds with
    | nil => cases r
    | cons x xs =>
      cases r with
      | cons a b =>
        have h : (if f == n then some x else lookD (fv.map (·.1)) xs f) = some d := h
        show ∃ v', (match f == n with | true => some v | false => fv.lookup f) = some v' ∧ _
        cases hn : f == n with
        | true => rw [hn, if_pos rfl] at h; cases h; exact ⟨v, rfl, a⟩
        | false => rw [hn, if_neg Bool.false_ne_true] at h; exact RepAll.look rfl b h
section
variable {X : Cx} {We : WeX} {S : List Nat} {f : DEnv → Res D} {e : PySem.Expr} {fl : Str} {pos : Pos}
theorem pd_fld (cs : List Str) (hc : ∀ c ∈ cs, ∃ C fs, ClD X.K X.mg c C fs ∧ fl ∈ fs) (he : PD X We S e f) (hb : attributeBase e fl X.env (eval e X.env) = eval e X.env := by rfl) : PD X We S (.Attribute e fl pos) (e1 (dFld cs fl) f) :=
  pe_imp (pe_fld he hb) fun σ H Q ⟨F, ρ, hF, hE, q⟩ => ⟨F, ρ, hF, hE, Out.bind q fun x F1 H1 v ex rx q1 => by
    cases x with
    | obj c ns ds =>
      have q1 : Out X.K X.mg We (RD X.K X.mg) F1 H1 σ Q (if cs.contains c = true then match lookD ns ds fl with | some d => .ok d | none => .st else .st) := q1
      by_cases z : cs.contains c = true
      · rw [if_pos z] at q1
        obtain ⟨C', fs, cd, hf⟩ := hc c (by simpa using z)
        cases hl : lookD ns ds fl with
        | none => rw [hl] at q1; exact q1.elim
        | some d =>
          rw [hl] at q1
          cases rx with
          | obj g ha n r =>
            rw [cd.gl] at g; cases g
            obtain ⟨w, hw, rw'⟩ := RepAll.look n r hl
            exact ⟨_, C', _, _, w, rfl, ex.2.1 _ _ ha, cd.cl, cd.na fl hf, hw, q1 F1 H1 _ (Ext.refl ex.2.1) rw'⟩
      · rw [if_neg z] at q1; exact q1.elim
    | _ => exact q1.elim⟩
/-- C.f, a constant of the class -/
theorem pd_cval {C : Addr} {c : Str} {mc u : Value} {v : V} {d : D} {p : Pos} (hm : X.mg c = some (.ref C)) (hr : ClX.CRead X.K C mc) (hv : ClX.CVal X.K C mc fl v u) (rd : ∀ F, Rep X.K X.mg F v d) (hg : Gl X c := by rfl) (hdb : (c == ("__debug__" : Str)) = false := by decide)
    (hb : attributeBase (.Name c p) fl X.env (eval (.Name c p) X.env) = eval (.Name c p) X.env := by rfl) : PD X We [] (.Attribute (.Name c p) fl pos) (eC d) :=
  pe_imp (ClX.pe_cval (pe_glob (v := .ref C) hg hm rfl hdb) hb) fun σ H Q ⟨F, ρ, hF, hE, q⟩ => ⟨C, mc, v, u, rfl, hr, hv, q F H v (Ext.refl hF) (rd F)⟩
/-- a module's constant -/
theorem pd_glob {c : Str} {u : Value} {v : V} {d : D} (hm : X.mg c = some u) (r : RelV v u) (rd : ∀ F, Rep X.K X.mg F v d) (hg : Gl X c := by rfl) (hdb : (c == ("__debug__" : Str)) = false := by decide) : PD X We [] (.Name c pos) (eC d) :=
  pd_c (pe_glob hg hm r hdb) rd
end

/-! ### instances made -/
section
variable {X : Cx} {CX : CXT} {k : Nat} {f C : Addr} {fd : FuncData} {ps : List Str} {sp : Sp} {dvs : List V} {ds : List Value} {E : L2.St → XK} {x m : Str} {p pos apos : Pos} {e o : PySem.Expr} {es : List PySem.Expr} {ta : TE} {t : TA}
theorem run_makeS {pins : List (Addr × Obj)} {σ : L2.St} {H : Hp} {s : Shared} {Q : VK} {us : List Value} {vs : List V} (M : Mk X.K C f) (F : FnOk X.prog X.w X.K X.mg X.base CX k f fd ps sp) (hr : Room (k + 1) X.A) (hb : Binds X.K fd ps [])
    (hx : PassesAt CX X σ (E σ)) (I : Inv X pins σ H s) (r : Vals vs us)
    (h : ∀ x dx, H x = none → H dx = none → dx ≠ x → sp (.ref x :: vs) (upd (upd H dx (.own x)) x (.ins C dx [])) (fun v H2 => v = .non ∧ Q (.ref x) H2) (E σ)) :
    wpAny (model X.prog X.w) X.A (call (.ref C) us) (EP X pins σ Q) X.xe s := by
  have hq := h (s.heap.objs.size + 1) s.heap.objs.size (I.hok.fresh (Nat.le_succ _)) (I.hok.fresh (Nat.le_refl _)) (Nat.ne_of_lt (Nat.lt_succ_self _))
  have I2 := Inv.made (C := C) I
  have r2 : Vals (V.ref (s.heap.objs.size + 1) :: vs) (Value.ref (s.heap.objs.size + 1) :: us) := .cons rfl r
  have hl : (Value.ref (s.heap.objs.size + 1) :: us).length = ps.length := by
    have e := r2.length
    rw [F.len _ _ _ _ hq] at e
    exact e.symm
  have hb2 := hb _ (Value.ref (s.heap.objs.size + 1) :: us) I2.kIn (by rw [List.append_nil]; exact hl)
  rw [List.append_nil] at hb2
  refine wpAny_call (make_map (f := f) I.kIn M.makes M.init (beq_iff_eq.mp M.fn) (codeAny_mono (F.run _ X.stack _ _ ⟨Value.ref (s.heap.objs.size + 1) :: us, []⟩ (Value.ref (s.heap.objs.size + 1) :: us) _ _ (E σ) (hr.make C us [])
    (I2.env0.make C us []) hb2 r2 hq) fun r s' hq' => ?_))
  cases r with
  | error e => exact hx pins _ _ e s' I2 hq'
  | ok fl =>
    cases fl with
    | ret u =>
      obtain ⟨v, H', I3, rv, ev, q3⟩ := I2.after hq'
      subst ev
      exact ⟨rv, ⟨V.ref (s.heap.objs.size + 1), H', I3, rfl, q3⟩⟩
    | next => exact False.elim hq'
    | brk => exact False.elim hq'
    | cont => exact False.elim hq'
def tMakeS (C : Addr) (sp : Sp) (E : L2.St → XK) (t : TA) : TE := fun σ H Q => t σ H fun vs H1 => ∀ x dx, H1 x = none → H1 dx = none → dx ≠ x →
  sp (.ref x :: vs) (upd (upd H1 dx (.own x)) x (.ins C dx [])) (fun v H2 => v = .non ∧ Q (.ref x) H2) (E σ)
theorem pe_makeS (M : Mk X.K C f) (F : FnOk X.prog X.w X.K X.mg X.base CX k f fd ps sp) (hr : Room (k + 1) X.A) (hg : Gl X x) (hm : X.mg x = some (.ref C)) (hb : Binds X.K fd ps []) (hx : ∀ σ, PassesAt CX X σ (E σ))
    (ha : PA X (e :: es) t) (hdb : (x == ("__debug__" : Str)) = false := by decide) (he : starEach (e :: es) X.env = (false, eval e X.env) :: starEach es X.env := by rfl) (hpl : (backTo pos (starEach es X.env)).any (·.1) = false := by rfl) :
    PE X (.Call (.Name x p) (e :: es) [] pos) (tMakeS C sp E t) := by
  refine ⟨fun pins s σ H Q I h => ?_⟩
  refine wpAny_Call_Name_kw (ld_glob I hg hm ?_ hdb)
  refine PySem.W.callWith_K (h₀ := X.base) I.ok.mod.kin M.kp (thn (ha.run pos pins s σ H _ I h) fun us s1 ⟨vs, H1, I1, r, q⟩ => ⟨I1.kIn, ?_⟩) he hpl
  exact run_makeS M F hr hb (hx σ) I1 r q
end
/-- C(..) as data -/
def mkD (c : Str) (n : Nat) (m : List D → Res (List Str × List D)) : List D → Res D := fun ds => if ds.length + 1 = n then (m ds).bind fun r => .ok (.obj c r.1 r.2) else .st
end DL
set_option Elab.async false
set_option linter.all false
set_option maxRecDepth 100000
set_option maxHeartbeats 1000000
/-! DL7: instances that are made, and that are walked. -/
namespace DL
open PySem PySem.Spec PyProof.Rows L2

/-! ### self.f = e -/
def putN (f : Str) : List Str → List Str
  | [] => [f]
  | n :: ns => if n = f then n :: ns else n :: putN f ns
def putD (f : Str) (d : D) : List Str → List D → List D
  | n :: ns, x :: xs => if n = f then d :: xs else x :: putD f d ns xs
  | _, _ => [d]
theorem putF_names (f : Str) (v : V) : ∀ fv : List (Str × V), (putF f v fv).map (·.1) = putN f (fv.map (·.1))
  | [] => rfl
  | (g, x) :: r => by
    show (if g = f then (g, v) :: r else (g, x) :: putF f v r).map (·.1) = if g = f then g :: r.map (·.1) else g :: putN f (r.map (·.1))
    split
    · rfl
    · rw [List.map_cons, putF_names f v r]
theorem putF_rep {K : PySem.W.Frag} {mg : Str → Option Value} {F : Hp} (f : Str) {v : V} {d : D} (rv : Rep K mg F v d) : ∀ {fv : List (Str × V)} {ds : List D}, RepAll K mg F (fv.map (·.2)) ds → RepAll K mg F ((putF f v fv).map (·.2)) (putD f d (fv.map (·.1)) ds)
  | [], ds, r => by
    cases ds with
    | nil => exact .cons rv .nil
    | cons a b => cases r
  | (g, x) :: fv, ds, r => by
    cases ds with
    | nil => cases r
    | cons y ys =>
      cases r with
      | cons a b =>
        show RepAll K mg F ((if g = f then (g, v) :: fv else (g, x) :: putF f v fv).map (·.2)) (if g = f then d :: ys else y :: putD f d (fv.map (·.1)) ys)
        split
        · exact .cons rv b
        · exact .cons a (putF_rep f rv b)
def sAttr (k : Bool) (S : List Nat) (cs : List Str) (i : Nat) (fl : Str) (f : DEnv → Res D) : DEnv → SRes := fun ρ => after (f ρ) ρ fun d => rest k S (fun b => d.nlx b) ρ fun ρ' => match ρ'[i]? with
  | some (.obo t c ns fs) => if cs.contains c = true ∧ ns.length < 1000 then .nx (ρ'.set i (.obo t c (putN fl ns) (putD fl d ns fs))) else .st
  | _ => .st
section
variable {X : Cx} {fr : Bool} {We : WeX} {S : List Nat} {e : PySem.Expr} {fe : DEnv → Res D} {fl x : Str} {p pos pos' : Pos}
theorem sd_attr (k : Bool) (cs : List Str) (i : Nat) (hc : ∀ c ∈ cs, ∃ C fs, ClD X.K X.mg c C fs ∧ fl ∈ fs) (he : PD X We S e fe) (hN : X.N[i]? = some x := by rfl) (hv : Vis X.env.scope x := by first | exact Or.inl rfl | exact Or.inr (Or.inl rfl) | exact Or.inr (Or.inr rfl)) (hd : (x == ("__debug__" : Str)) = false := by decide)
    (hcd : (x == ("__classdict__" : Str)) = false := by decide) (hs : swapsWith e (some (.Attribute (.Name x p) fl pos')) pos.line X.env = pure false := by rfl) :
    SD X fr We (.Assign [.Attribute (.Name x p) fl pos'] e pos) (sAttr k S cs i fl fe) :=
  ps_imp (ps_fld (pe_var (i := i) hN hv hd hcd) he hs) fun E σ H ⟨B, F, ρ, e, h⟩ => OutS.evalD e h fun F' H' v d ρ' e' r q => by
    cases h1 : ρ'[i]? with
    | none => rw [h1] at q; exact q.elim
    | some s =>
      rw [h1] at q
      cases s with
      | un => exact q.elim
      | d d => exact q.elim
      | own t xs => exact q.elim
      | exc x => exact q.elim
      | obo t c ns fs =>
        have q : OutS X.K X.mg fr We B E (if cs.contains c = true ∧ ns.length < 1000 then .nx (ρ'.set i (.obo t c (putN fl ns) (putD fl d ns fs))) else .st) := q
        by_cases z : cs.contains c = true ∧ ns.length < 1000
        · rw [if_pos z] at q
          obtain ⟨C', fs', cd, hf⟩ := hc c (by simpa using z.1)
          obtain ⟨a, C, dx, fv, a1, a2, a3, m, a4, n, a5, a6⟩ := e'.sl i _ h1
          rw [cd.gl] at m; cases m
          refine ⟨_, a1, a, C', dx, fv, rfl, a4, cd.cl, cd.na fl hf, ?_, q F' σ _ (e'.mutO h1 rfl a1 ?_)⟩
          · have : fv.length = ns.length := by rw [← n, List.length_map]
            omega
          · subst n
            exact ⟨a, C', dx, _, rfl, a2, a3, cd.gl, upd_same, putF_names fl v fv, putF_rep fl r a5, a6⟩
        · rw [if_neg z] at q; exact q.elim
end

/-! ### __init__ -/
def hideA (H : Hp) (x : Addr) : Hp := fun b => if b = x then none else H b
theorem hideA_same {H : Hp} {x : Addr} : hideA H x x = none := if_pos rfl
theorem hideA_ne {H : Hp} {x b : Addr} (h : b ≠ x) : hideA H x b = H b := if_neg h
theorem hideA_some {H : Hp} {x b : Addr} {o : HO} (h : hideA H x b = some o) : b ≠ x ∧ H b = some o := by
  by_cases z : b = x
  · subst z; rw [hideA_same] at h; cases h
  · rw [hideA_ne z] at h; exact ⟨z, h⟩
/-- an __init__: the instance at x gets the fields that m tells -/
def spI (K : PySem.W.Frag) (mg : Str → Option Value) (C : Addr) (n : Nat) (m : List D → Res (List Str × List D)) : Sp := fun vs H Q E => vs.length = n ∧ ∃ x dx rest F ds, vs = .ref x :: rest ∧ H x = some (.ins C dx []) ∧ F x = none ∧ Same F H ∧ RepAll K mg F rest ds ∧
  match m ds with
  | .ok r => ∀ F' H' dx' fv, Ext F (hideA H x) F' H' → F' x = none → H' x = some (.ins C dx' fv) → fv.map (·.1) = r.1 → RepAll K mg F' (fv.map (·.2)) r.2 → Q .non H'
  | .er z => ∀ cc d H', Same (hideA H x) H' → mg z.c = some (.ref cc) → XFs K mg (hideA H x) H' d z.ns z.fs → E (.ref cc) d H'
  | .st => False
abbrev FnI (P : Program) (w : World) (K : PySem.W.Frag) (mg : Str → Option Value) (base : Heap) (k : Nat) (f : Addr) (fd : FuncData) (ps : List Str) (C : Addr) (m : List D → Res (List Str × List D)) : Prop :=
  FnOk P w K mg base (L2.CX P w) k f fd ps (spI K mg C ps.length m)
section
variable {X : Cx} {We : WeX} {S : List Nat} {k j : Nat} {f C : Addr} {fd : FuncData} {ps : List Str} {m : List D → Res (List Str × List D)} {c : Str} {p pos : Pos} {e : PySem.Expr} {es : List PySem.Expr} {g : DEnv → Res (List D)}
theorem pd_make (tk : Takes X We) (hr : Room k X.A) (hjk : j + 1 ≤ k) (M : Mk X.K C f) (F : FnI X.prog X.w X.K X.mg X.base j f fd ps C m) (hm : X.mg c = some (.ref C)) (hb : Binds X.K fd ps [])
    (ha : PAD X We S (e :: es) g) (hg : Gl X c := by rfl) (hdb : (c == ("__debug__" : Str)) = false := by decide) (he : starEach (e :: es) X.env = (false, eval e X.env) :: starEach es X.env := by rfl) (hpl : (backTo pos (starEach es X.env)).any (·.1) = false := by rfl) :
    PD X We S (.Call (.Name c p) (e :: es) [] pos) (eL (mkD c ps.length m) g) :=
  pe_imp (pe_makeS M F (hr.mono hjk) hg hm hb (fun σ => passAt tk σ) ha hdb he hpl) fun σ H Q ⟨F, ρ, hF, hE, q⟩ => ⟨F, ρ, hF, hE, Out.bind q fun ds F1 H1 vs ex r q1 => by
    intro x dx nx nd ne
    unfold mkD at q1
    by_cases hl : ds.length + 1 = ps.length
    · rw [if_pos hl] at q1
      have s1 : Same H1 (upd (upd H1 dx (.own x)) x (.ins C dx [])) := (same_upd nd).trans (same_upd (by rw [upd_ne (Ne.symm ne)]; exact nx))
      have s2 : Same H1 (hideA (upd (upd H1 dx (.own x)) x (.ins C dx [])) x) := fun b o q => by
        rw [hideA_ne (ne_of_none q nx)]; exact s1 _ _ q
      refine ⟨by rw [List.length_cons, r.length]; exact hl, x, dx, vs, F1, ds, rfl, upd_same, ex.2.1.free nx, ex.2.1.trans s1, r, ?_⟩
      cases hmd : m ds with
      | st => rw [hmd] at q1; exact q1.elim
      | er z =>
        rw [hmd] at q1
        intro cc d H' k1 mc xf
        exact q1 cc d H' (s2.trans k1) mc (xf.back s2)
      | ok rr =>
        rw [hmd] at q1
        intro F' H' dx' fv e1 e5 e6 e7 e8
        refine ⟨rfl, q1 (upd F' x (.ins C dx' fv)) H' _ ⟨e1.1.trans (same_upd e5), fun b o q => ?_, s2.trans e1.2.2.1, fun b o q => ?_⟩ (.obj hm upd_same e7 (e8.mono (same_upd e5)))⟩
        · by_cases z : b = x
          · subst z; rw [upd_same] at q; cases q; exact e6
          · rw [upd_ne z] at q; exact e1.2.1 _ _ q
        · have z : b ≠ x := ne_of_none q nx
          rw [upd_ne z]
          exact e1.2.2.2 b o (s2 _ _ q)
    · rw [if_neg hl] at q1; exact q1.elim⟩
end
/-- an __init__'s body as a function of its arguments -/
def mI (nN : Nat) (c : Str) (g : DEnv → SRes) : List D → Res (List Str × List D) := fun ds => match g (Slot.obo true c [] [] :: ds.map Slot.d ++ List.replicate (nN - (ds.length + 1)) Slot.un) with
  | .nx ρ => match ρ[0]? with
    | some (Slot.obo true c' ns fs) => if c' = c then .ok (ns, fs) else .st
    | _ => .st
  | .er x _ => .er x
  | _ => .st
theorem envS_init {K : PySem.W.Frag} {mg : Str → Option Value} {ex : EXP} {F H : Hp} {N : List Str} {vs : List V} {ds : List D} {x C dx : Addr} {c : Str} (hm : mg c = some (.ref C)) (hx : H x = some (.ins C dx [])) (fx : F x = none) (hF : Same F H) (r : RepAll K mg F vs ds) :
    EnvS K mg ex ⟨F, hideA H x, fun _ => x⟩ F (L2.start N (.ref x :: vs)) H (.obo true c [] [] :: ds.map Slot.d ++ List.replicate (N.length - (ds.length + 1)) .un) := by
  have hl := r.length
  have isO : ∀ (i : Nat) s, (Slot.obo true c [] [] :: ds.map Slot.d ++ List.replicate (N.length - (ds.length + 1)) .un)[i]? = some s → s.isO = true → i = 0 := fun i s h o => by
    cases i with
    | zero => rfl
    | succ i =>
      rw [List.cons_append, List.getElem?_cons_succ] at h
      by_cases hi : i < ds.length
      · rw [List.getElem?_append_left (by simpa using hi), List.getElem?_map] at h
        cases hd : ds[i]? with
        | none => rw [hd] at h; cases h
        | some d => rw [hd] at h; cases h; cases o
      · rw [List.getElem?_append_right (by simpa using hi), List.getElem?_replicate] at h
        split at h
        · cases h; cases o
        · cases h
  refine ⟨fun p o (q : F p = some o) => ?_, Same.refl _, hF, fun p o q => (hideA_some q).2, fun _ _ _ => rfl, ?_, fun i s h => ?_, fun i j a s t h1 h2 o1 o2 _ _ => by rw [isO i s h1 o1, isO j t h2 o2]⟩
  · show hideA H x p = some o
    rw [hideA_ne (fun z => by rw [z, fx] at q; cases q)]
    exact hF _ _ q
  · unfold L2.start; simp [hl]
  · cases i with
    | zero =>
      cases h
      refine ⟨x, C, dx, [], ?_, fx, hideA_same, hm, hx, rfl, .nil, fun _ => rfl⟩
      unfold L2.start
      rfl
    | succ i =>
      rw [List.cons_append, List.getElem?_cons_succ] at h
      by_cases hi : i < ds.length
      · rw [List.getElem?_append_left (by simpa using hi), List.getElem?_map] at h
        cases hd : ds[i]? with
        | none => rw [hd] at h; cases h
        | some d =>
          rw [hd] at h
          cases h
          obtain ⟨v, hv, rv⟩ := r.get hd
          refine ⟨v, ?_, rv⟩
          unfold L2.start
          rw [List.map_cons, List.cons_append, List.getElem?_cons_succ, List.getElem?_append_left (by rw [List.length_map, hl]; exact hi), List.getElem?_map, hv]
          rfl
      · rw [List.getElem?_append_right (by simpa using hi), List.getElem?_replicate] at h
        split at h
        · cases h; trivial
        · cases h
theorem fni_of {P : Program} {w : World} {K : PySem.W.Frag} {mg : Str → Option Value} {base : Heap} {x qual c : Str} {st : Stmt} {f C : Addr} {fd : FuncData} {N ps : List Str} {k : Nat} {g : DEnv → SRes}
    (F : Fun K x qual st f fd) (S : FnScope N ps (defScope st)) (hm : mg c = some (.ref C))
    (hb : ∀ (cdv : Value) (A : Around) (outer : List Env) (s : Shared) (H : Hp) (E : XK), Room k (A.deeper (envOfC qual (defScope st) s.heap.objs.size f cdv)) →
      SDs (cxOf (L2.CX P w) P w K mg base N qual (defScope st) f cdv A outer s H E) false ⟨fun c d _ H' => E c d H', none⟩ (defBody st) g) : FnI P w K mg base (k + 1) f fd ps C (mI N.length c g) := by
  refine F.okX S (fun vs H Q E h => h.1) fun cdv A outer s H vs Q E hr h => ⟨_, hb cdv A outer s H E hr, ?_⟩
  obtain ⟨hl, x, dx, rest, F', ds, rfl, hx, fx, hF, r, q⟩ := h
  refine ⟨_, F', _, envS_init hm hx fx hF r, ?_⟩
  unfold mI at q
  cases hg : g (.obo true c [] [] :: ds.map Slot.d ++ List.replicate (N.length - (ds.length + 1)) .un) with
  | nx ρ =>
    rw [hg] at q
    intro F2 σ2 H2 e
    cases h0 : ρ[0]? with
    | none => simp only [h0] at q
    | some s =>
      simp only [h0] at q
      cases s with
      | un => exact q.elim
      | d d => exact q.elim
      | own t xs => exact q.elim
      | exc x => exact q.elim
      | obo t c' ns fs =>
        cases t with
        | false => exact q.elim
        | true =>
          by_cases hc : c' = c
          · subst hc
            simp only [if_pos] at q
            obtain ⟨a, C', dx', fv, a1, a2, a3, m, a4, n, a5, a6⟩ := e.sl 0 _ h0
            have m : mg c' = some (.ref C') := m
            rw [hm] at m; cases m
            have : x = a := a6 rfl
            subst this
            exact q F2 H2 dx' fv e.ext a2 a4 n a5
          · simp only [if_neg hc] at q
  | rt d => rw [hg] at q; exact q.elim
  | er z ρ => rw [hg] at q; exact fun F2 σ2 H2 C d e m z => q C d H2 e.hh m z
  | bk ρ => rw [hg] at q; exact q.elim
  | ct ρ => rw [hg] at q; exact q.elim
  | st => rw [hg] at q; exact q.elim
end DL
set_option Elab.async false
set_option linter.all false
set_option maxRecDepth 100000
set_option maxHeartbeats 1000000
/-! DL8: instances that are walked: __iter__ is return iter(self.f), f a tuple. -/
namespace DL
open PySem PySem.Spec PyProof.Rows L2

/-- at it a tuple's iterator at its start -/
def TiO (l it : Addr) : HO := .ext fun h => h.IsTupleIter it l 0
theorem tiO_ok {P : Program} {w : World} {H : Hp} {h : Heap} {l it : Addr} (e : h.IsTupleIter it l 0) : ObjOk P w H h it (TiO l it) :=
  ⟨e, by obtain ⟨o, e, _⟩ := e; exact ⟨o, e⟩, fun h1 h2 q k => by obtain ⟨o, e, r⟩ := q; exact ⟨o, k _ e, r⟩⟩
theorem go_iterT {prog : Program} {w : World} {A : Around} {E : Value → Shared → Prop} {s : Shared} {l : Addr} {items : Array Value} {Q : Value → Shared → Prop} (ht : s.heap.IsTuple l items)
    (h : Q (.ref s.heap.objs.size) { s with heap := s.heap.push { cls := .type "tuple_iterator", data := .fields #[.ref l, .int 0 0] } }) : wpAny (model prog w) A (call (.builtin "iter") [.ref l]) Q E s := by
  refine Calls.call_function_entry (by decide +kernel) (by decide +kernel) PySem.W.kdk_entry_iter (PySem.W.kdk_args_iter _) ?_
  unfold Builtin.«iter»
  refine wpAny_bind (m := someArgs "iter" 1 2 _) (wpAny_of_eq (a := [Value.ref l]) (by first | rfl | kernel_rfl!) ?_)
  show wpAny _ _ (pyIter (.ref l) >>= _) _ _ _
  refine wpAny_bind (wpAny_pyIter_tuple ht ?_)
  exact wpAny_pure ⟨_, rfl, h⟩
def rIterT (K : PySem.W.Frag) (n : Nat) : List V → Hp → VK → Prop := fun xs H Q => ∃ (l : Addr) (zs : List V), xs = [.ref l] ∧ SqT K H l zs ∧ ∀ it, H it = none → n ≤ it → Q (.ref it) (upd H it (TiO l it))
theorem call_iterT {X : Cx} : CallR X (.builtin "iter") (rIterT X.K X.s_0.heap.objs.size) := by
  intro pins s σ H xs us Q I r h
  obtain ⟨l, zs, rfl, hq, q⟩ := h
  obtain ⟨u, rfl, ru⟩ := vals1 r
  cases ru
  obtain ⟨its, rv, pl, hz⟩ := I.tuple hq
  refine go_iterT (show s.heap.IsTuple l its.toArray from pl) ?_
  exact ⟨.ref s.heap.objs.size, _, I.laid (t' := s.toks) (fun b u e => Heap.get?_push_of_some _ e) (Nat.le_refl _) (tiO_ok ⟨_, Heap.get?_push_size _ rfl, rfl, rfl⟩), rfl, q _ (I.hok.fresh (Nat.le_refl _)) I.sz⟩

/-- what __iter__ promises -/
def spIt (K : PySem.W.Frag) (C : Addr) (fl : Str) (n : Nat) : Sp := fun vs H Q E => ∃ a dx fs l zs, vs = [.ref a] ∧ H a = some (.ins C dx fs) ∧ fs.lookup fl = some (.ref l) ∧ SqT K H l zs ∧ ∀ it, H it = none → n ≤ it → Q (.ref it) (upd H it (TiO l it))
/-- a def that may look at where the heap ends -/
def FnS (P : Program) (w : World) (K : PySem.W.Frag) (mg : Str → Option Value) (base : Heap) (k : Nat) (f : Addr) (fd : FuncData) (ps : List Str) (sp : Nat → Sp) : Prop :=
  ∀ (A : Around) (outer : List Env) (s : Shared) (H : Hp) (args : Args) (us : List Value) (vs : List V) (Q : VK) (E : XK), Room k A → Env0 P w K mg base A outer s H → BindsTo s fd args (ps.zip us) → Vals vs us → vs.length = ps.length → sp s.heap.objs.size vs H Q E →
    codeAny (model P w) A (.call (.ref f) args) (CR (L2.CX P w) outer P w H s Q E) s
theorem fns_of {P : Program} {w : World} {K : PySem.W.Frag} {mg : Str → Option Value} {base : Heap} {x qual : Str} {st : Stmt} {f : Addr} {fd : FuncData} {N ps : List Str} {k : Nat} {sp : Nat → Sp}
    (F : Fun K x qual st f fd) (S : FnScope N ps (defScope st))
    (hbody : ∀ (cdv : Value) (A : Around) (outer : List Env) (s : Shared) (H : Hp) (vs : List V) (Q : VK) (E : XK), Room k (A.deeper (envOfC qual (defScope st) s.heap.objs.size f cdv)) → sp s.heap.objs.size vs H Q E →
      ∃ t, PSs (cxOf (L2.CX P w) P w K mg base N qual (defScope st) f cdv A outer s H E) (defBody st) t ∧ t { nx := fun _ H' => Q .non H', rt := Q } (L2.start N vs) H) : FnS P w K mg base (k + 1) f fd ps sp := by
  intro A outer s H args us vs Q E hr e0 hb r hl hsp
  obtain ⟨oc, od, kV, doc, pm, an, cdv, ct, osl, rfl, lk, hcd⟩ := F.ex
  have KX : K.In s.heap := e0.mod.kin.keeps fun b o e => (e0.bs b o e).1
  have lim : s.heap.NoLimit := e0.mod.nolimit.keeps fun b o e => (e0.bs b o e).1
  have hkind : ∀ y ∈ ps.zip us, (defScope st).names.lookup y.1 = some .local ∨ ((defScope st).names.lookup y.1 = some .cell ∧ ((cellsFrom (s.heap.objs.size + 1) (defScope st).names []).lookup y.1).isSome = true) := fun ⟨n, v⟩ hy => by
    rcases S.par n (List.of_mem_zip hy).1 with q | q
    · exact .inl q
    · exact .inr ⟨q, PySem.W.cellsFrom_some _ _ _ (.inl q)⟩
  refine codeAny_call_function hr.depth (KX _ _ lk) rfl S.co S.gen rfl (PySem.W.codeRec_of KX hcd) (hb _ _ _ _ ?_)
  refine wpAny_newFunctionEnv_cells S.kind hkind fun env he s1 x => ?_
  subst he
  refine ⟨lim.keeps x.toInCall.keep, codeAny_func ?_⟩
  obtain ⟨t, ht, hq⟩ := hbody cdv A outer s H vs Q E (hr.deeper _) hsp
  have I : Inv (cxOf (L2.CX P w) P w K mg base N qual (defScope st) f cdv A outer s H E) [] (L2.start N vs) H s1 := inv_start S hr.hd e0 hl r x
  refine wpAny_mono (ht.run [] s1 (L2.start N vs) H _ I hq) (fun fl s' hs => ?_) fun e s' hs => hs
  cases fl with
  | ret u =>
    obtain ⟨v, σ', H', J, rv, q⟩ := hs
    exact ⟨v, H', J.os, J.bare, J.base, J.hok, rv, q⟩
  | next =>
    obtain ⟨σ', H', J, q⟩ := hs
    exact ⟨V.non, H', J.os, J.bare, J.base, J.hok, rfl, q⟩
  | brk =>
    obtain ⟨_, _, _, q⟩ := hs
    exact False.elim q
  | cont =>
    obtain ⟨_, _, _, q⟩ := hs
    exact False.elim q
/-- return iter(self.f) -/
theorem fnit_of {P : Program} {w : World} {K : PySem.W.Frag} {mg : Str → Option Value} {base : Heap} {x qual c fl : Str} {st : Stmt} {f C : Addr} {fd : FuncData} {k : Nat} {fs : List Str}
    (F : Fun K x qual st f fd) (S : FnScope ["self"] ["self"] (defScope st)) (cd : ClD K mg c C fs) (hf : fl ∈ fs) (hi : mg "iter" = none)
    (hb : ∀ (cdv : Value) (A : Around) (outer : List Env) (s : Shared) (H : Hp) (E : XK), PSs (cxOf (L2.CX P w) P w K mg base ["self"] qual (defScope st) f cdv A outer s H E) (defBody st) (tRet (tCB (rIterT K s.heap.objs.size) (tCons (tFld K (tVar 0) fl) tNil)))) : FnS P w K mg base (k + 1) f fd ["self"] (spIt K C fl) := by
  refine fns_of F S fun cdv A outer s H vs Q E hr h => ⟨_, hb cdv A outer s H E, ?_⟩
  obtain ⟨a, dx, fv, l, zs, rfl, ha, hl, hq, q⟩ := h
  exact ⟨_, rfl, a, C, dx, fv, _, rfl, ha, cd.cl, cd.na fl hf, hl, l, zs, rfl, hq, q⟩

/-- an instance of c that is walked by its tuple fl -/
def itO (c fl : Str) : D → Res (List D)
  | .obj c' ns fs => if c' = c then match lookD ns fs fl with
    | some (.tup xs) => .ok xs
    | _ => .st
    else .st
  | _ => .st
section
variable {X : Cx} {We : WeX} {S : List Nat} {tg e : PySem.Expr} {f : DEnv → Res D} {c fl : Str} {C fi : Addr} {fd : FuncData} {k j : Nat}
theorem id_own (hr : Room k X.A) (hjk : j ≤ k) (hm : X.mg c = some (.ref C)) (hs : PySem.W.findIn X.K (.ref C) "__iter__" = some (some (.ref fi))) (hf : PySem.W.isFn X.K (.ref fi) = true) (FI : FnS X.prog X.w X.K X.mg X.base j fi fd ["self"] (spIt X.K C fl)) (bI : Binds X.K fd ["self"] [])
    (he : PD X We S e f) : ID X We S tg e (e1 (itO c fl) f) := by
  refine ⟨fun pins s σ H R I ⟨F, ρ, hF, hE, q⟩ => ?_⟩
  refine thn (he.run pins s σ H (fun v H1 => ∃ a dx fv l zs ds F1, v = .ref a ∧ H1 a = some (.ins C dx fv) ∧ fv.lookup fl = some (.ref l) ∧ SqT X.K H1 l zs ∧ SqT X.K F1 l zs ∧ RepAll X.K X.mg F1 zs ds ∧ ∀ J, ItD X.K X.mg J F1 ds → R J H1) I ⟨F, ρ, hF, hE, ?_⟩) fun v s1 ⟨x, H1, I1, r1, a, dx, fv, l, zs, ds, F1, ex, ha, hl, hq, hq1, rd, qj⟩ => ?_
  · have q : Out X.K X.mg We (RI X.K X.mg) F H σ R ((f ρ).bind (itO c fl)) := q
    refine Out.bind q fun d F1 H1 v ex r q1 => ?_
    cases d with
    | obj c' ns ds =>
      have q1 : Out X.K X.mg We (RI X.K X.mg) F1 H1 σ R (if c' = c then match lookD ns ds fl with | some (.tup xs) => .ok xs | _ => .st else .st) := q1
      by_cases hc : c' = c
      · subst hc
        rw [if_pos rfl] at q1
        cases hl : lookD ns ds fl with
        | none => rw [hl] at q1; exact q1.elim
        | some d =>
          rw [hl] at q1
          cases d with
          | tup xs =>
            cases r with
            | obj g ha n r =>
              rw [hm] at g; cases g
              obtain ⟨w, hw, rw'⟩ := RepAll.look n r hl
              cases rw' with
              | tup sq ra => exact ⟨_, _, _, _, _, xs, F1, rfl, ex.2.1 _ _ ha, hw, SqT.same ex.2.1 sq, sq, ra, fun J hj => q1 F1 H1 J (Ext.refl ex.2.1) hj⟩
          | _ => exact q1.elim
      · rw [if_neg hc] at q1; exact q1.elim
    | _ => exact q1.elim
  · subst ex
    obtain rfl : v = Value.ref a := r1
    obtain ⟨mA, J, _⟩ := ins_get I1.hok ha
    obtain ⟨od, J, _⟩ := J.look
    obtain ⟨m0, hFr⟩ := I1.fr
    refine PySem.W.owit_iter hFr I1.ok.mod.kin J hs hf ?_
    have hsp : spIt X.K C fl s1.heap.objs.size [.ref a] H1 (fun v H2 => ∃ it, v = .ref it ∧ H1 it = none ∧ s1.heap.objs.size ≤ it ∧ H2 = upd H1 it (TiO l it)) (fun _ _ _ => False) :=
      ⟨a, dx, fv, l, zs, rfl, ha, hl, hq, fun it n1 n2 => ⟨it, rfl, n1, n2, rfl⟩⟩
    have r2 : Vals [V.ref a] [Value.ref a] := .cons rfl .nil
    refine wpAny_call (codeAny_mono (FI X.A X.stack s1 H1 ⟨[.ref a], []⟩ [.ref a] [.ref a] _ _ (hr.mono hjk) I1.env0 (by
      have := bI s1 [.ref a] I1.kIn rfl
      simpa using this) r2 rfl hsp) fun r s' hq' => ?_)
    cases r with
    | error e =>
      obtain ⟨_, _, _, _, _, _, _, _, _, _, _, _, z⟩ := hq'
      exact z.elim
    | ok flw =>
      cases flw with
      | next => exact False.elim hq'
      | brk => exact False.elim hq'
      | cont => exact False.elim hq'
      | ret u =>
        obtain ⟨v, H2, I2, rv, it, ev, n1, n2, eH⟩ := I1.after hq'
        subst ev
        obtain rfl : u = Value.ref it := rv
        subst eH
        have hit : upd H1 it (TiO l it) it = some (TiO l it) := upd_same
        have st : s'.heap.IsTupleIter it l 0 := (I2.hok it _ hit).1
        unfold PySem.W.OwitIt
        refine wpAny_specialOf (T := "tuple_iterator") (by obtain ⟨o, e, c, _⟩ := st; exact ⟨o, e, c⟩) PySem.F.slot_tuple_iterator_next.lookup ?_
        have hd : ItX.dropH (upd H1 it (TiO l it)) it = H1 := ItX.dropH_upd n1
        refine ⟨it, [it], _, Itt X.K l, H1, rfl, by rw [← hd]; exact ItX.inv_drop I2 hit, turn_tuple l it, st, fun b hb => ?_, qj _ (itd_tup hq1 rd)⟩
        have e : b = it := by simpa using hb
        rw [e, ← hd]
        exact ItX.inv_fp I2 hit (Nat.le_trans I1.sz n2)
end
end DL
set_option Elab.async false
set_option linter.all false
set_option maxRecDepth 100000
set_option maxHeartbeats 1000000
/-! DL9: generator defs, list(f(..)). -/
namespace DL
open PySem PySem.Spec PyProof.Rows L2

/-- what a generator's statement comes to: what it hands out, its end -/
abbrev GRes := List D × SRes
def OutG (K : PySem.W.Frag) (mg : Str → Option Value) (We : WeX) (B : Bs) (G : GEnds) (acc : List D) : SRes → Prop
  | .nx ρ => ∀ F σ H ys, EnvS K mg We.ex B F σ H ρ → RepAll K mg F ys acc → G.nx ys σ H
  | .bk ρ => ∀ F σ H ys, EnvS K mg We.ex B F σ H ρ → RepAll K mg F ys acc → G.bk ys σ H
  | .ct ρ => ∀ F σ H ys, EnvS K mg We.ex B F σ H ρ → RepAll K mg F ys acc → G.ct ys σ H
  | .rt d => ∀ F H v ys, Ext B.F B.H F H → RepAll K mg F ys acc → Rep K mg F v d → G.rt ys v H
  | .er x ρ => ∀ F σ H C d, EnvS K mg We.ex B F σ H ρ → mg x.c = some (.ref C) → XFs K mg B.H H d x.ns x.fs → We (.ref C) d σ H
  | .st => False
def tGD (K : PySem.W.Frag) (mg : Str → Option Value) (We : WeX) (g : DEnv → GRes) : TGn := fun G ys σ H => ∃ B F ρ acc, EnvS K mg We.ex B F σ H ρ ∧ RepAll K mg F ys acc ∧ (acc ++ (g ρ).1).length ≤ lim ∧ OutG K mg We B G (acc ++ (g ρ).1) (g ρ).2
abbrev GSD (X : Cx) (We : WeX) (st : Stmt) (g : DEnv → GRes) : Prop := GS X st (tGD X.K X.mg We g)
abbrev GSDs (X : Cx) (We : WeX) (st : List Stmt) (g : DEnv → GRes) : Prop := GSs X st (tGD X.K X.mg We g)
theorem gs_imp {X : Cx} {st : Stmt} {t t' : TGn} (h : GS X st t) (i : ∀ G ys σ H, t' G ys σ H → t G ys σ H) : GS X st t' :=
  ⟨fun A S ip R n ys s₀ c fs K J gd lv s σ H G g hn k hI ht => h.run A S ip R n ys s₀ c fs K J gd lv s σ H G g hn k hI (i G ys σ H ht)⟩
theorem gss_imp {X : Cx} {st : List Stmt} {t t' : TGn} (h : GSs X st t) (i : ∀ G ys σ H, t' G ys σ H → t G ys σ H) : GSs X st t' :=
  ⟨fun A S ip R n ys s₀ c fs K J gd lv s σ H G g hn k hI ht => h.run A S ip R n ys s₀ c fs K J gd lv s σ H G g hn k hI (i G ys σ H ht)⟩
def gPl (f : DEnv → SRes) : DEnv → GRes := fun ρ => ([], f ρ)
def gNil : DEnv → GRes := fun ρ => ([], .nx ρ)
def gSeq (f g : DEnv → GRes) : DEnv → GRes := fun ρ => match f ρ with
  | (a, .nx ρ') => (a ++ (g ρ').1, (g ρ').2)
  | r => r
section
variable {X : Cx} {We : WeX} {st : Stmt} {rest' : List Stmt} {f g : DEnv → GRes} {e c : PySem.Expr} {S : List Nat} {pos yp : Pos}
section
variable {K : PySem.W.Frag} {mg : Str → Option Value} {B : Bs} {F1 H : Hp} {σ : L2.St} {ρ : DEnv} {G : GEnds} {acc : List D}
/-- seen from what stands still by now -/
theorem OutG.plain {ys : List V} (e : EnvS K mg We.ex B F1 σ H ρ) (r : RepAll K mg F1 ys acc) {z : SRes} (h : OutG K mg We B G acc z) : OutS K mg false We (B.b2 F1) (G.at ys) z := by
  cases z with
  | nx ρ' => exact fun F2 σ2 H2 q => h F2 σ2 H2 ys (e.unbase q) (r.mono q.ff)
  | bk ρ' => exact fun F2 σ2 H2 q => h F2 σ2 H2 ys (e.unbase q) (r.mono q.ff)
  | ct ρ' => exact fun F2 σ2 H2 q => h F2 σ2 H2 ys (e.unbase q) (r.mono q.ff)
  | rt d => exact fun F2 H2 v ex rv => h F2 H2 v ys ⟨e.ff.trans ex.1, ex.2.1, fun p o q => ex.2.2.1 _ _ (base2_H e.ag e.f0 q), fun p o q => (ex.2.2.2 p o (base2_H e.ag e.f0 q)).trans (e.ag p o q)⟩ (r.mono ex.1) rv
  | er x ρ' =>
    intro F2 σ2 H2 C d q m z
    refine h F2 σ2 H2 C d (e.unbase q) m ?_
    rcases z with z | ⟨dx, fv, h1, h2, h3⟩
    · exact .inl z
    · exact .inr ⟨dx, fv, h1, base2_none e.ag e.f0 h2, h3⟩
  | st => exact h
end
theorem RepAll.mono' {K : PySem.W.Frag} {mg : Str → Option Value} {F F' : Hp} {vs : List V} {ds : List D} (r : RepAll K mg F vs ds) (e : Same F F') : RepAll K mg F' vs ds := r.mono e
theorem gsd_pl {f : DEnv → SRes} (h : SD X false We st f) : GSD X We st (gPl f) :=
  gs_imp (gs_ps h) fun G ys σ H ⟨B, F, ρ, acc, e, r, hl, q⟩ => by
    have q : OutG X.K X.mg We B G (acc ++ []) (f ρ) := q
    rw [List.append_nil] at q
    exact ⟨B.b2 F, F, ρ, e.base, q.plain e r⟩
theorem gsds_pl {f : DEnv → SRes} (h : SDs X false We rest' f) : GSDs X We rest' (gPl f) :=
  gss_imp (gss_pss h) fun G ys σ H ⟨B, F, ρ, acc, e, r, hl, q⟩ => by
    have q : OutG X.K X.mg We B G (acc ++ []) (f ρ) := q
    rw [List.append_nil] at q
    exact ⟨B.b2 F, F, ρ, e.base, q.plain e r⟩
theorem gsds_nil : GSDs X We [] gNil := gss_imp gss_nil fun G ys σ H ⟨B, F, ρ, acc, e, r, hl, q⟩ => by
  have q : OutG X.K X.mg We B G (acc ++ []) (.nx ρ) := q
  rw [List.append_nil] at q
  exact q F σ H ys e r
theorem gsds_cons (h1 : GSD X We st f) (h2 : GSDs X We rest' g) : GSDs X We (st :: rest') (gSeq f g) :=
  gss_imp (gss_cons h1 h2) fun G ys σ H ⟨B, F, ρ, acc, e, r, hl, q⟩ => by
    refine ⟨B, F, ρ, acc, e, r, ?_⟩
    unfold gSeq at q hl
    cases hf : f ρ with
    | mk a z =>
      rw [hf] at q hl
      cases z with
      | nx ρ' =>
        have hl : (acc ++ (a ++ (g ρ').1)).length ≤ lim := hl
        refine ⟨by rw [← List.append_assoc, List.length_append] at hl; exact Nat.le_trans (Nat.le_add_right _ _) hl, fun F2 σ2 H2 ys2 e2 r2 => ?_⟩
        refine ⟨B, F2, ρ', acc ++ a, e2, r2, by rw [List.append_assoc]; exact hl, ?_⟩
        have q : OutG X.K X.mg We B G (acc ++ (a ++ (g ρ').1)) (g ρ').2 := q
        rw [List.append_assoc]
        exact q
      | bk ρ' => exact ⟨hl, q⟩
      | ct ρ' => exact ⟨hl, q⟩
      | rt d => exact ⟨hl, q⟩
      | er x ρ' => exact ⟨hl, q⟩
      | st => exact q.elim
def gYd (k : Bool) (S : List Nat) (f : DEnv → Res D) : DEnv → GRes := fun ρ => match f ρ with
  | .ok d => if k then (if d.nlx (hasO S ρ) then ([d], .nx ρ) else ([], .st)) else ([d], .nx (dem S ρ))
  | .er x => ([], .er x ρ)
  | .st => ([], .st)
/-- yield e -/
theorem gsd_yield (k : Bool) {fe : DEnv → Res D} (he : PD X We S e fe) (hco : X.env.scope.isCoroutine = false := by rfl) (hi : interactive X.env = false := by rfl) : GSD X We (.Expr (.Yield (some e) yp) pos) (gYd k S fe) := by
  refine gs_imp (gs_yield he hco hi) fun G ys σ H ⟨B, F, ρ, acc, e, r, hl, q⟩ => ?_
  obtain ⟨Fp, h1, h2, h3, h4⟩ := e.base.fz S
  unfold gYd at q hl
  have rl := r.length
  cases hf : fe ρ with
  | st => rw [hf] at q; exact q.elim
  | er x =>
    rw [hf] at q hl
    have hl : (acc ++ []).length ≤ lim := hl
    rw [List.append_nil] at hl
    refine ⟨by rw [rl]; exact Nat.lt_of_le_of_lt hl (by rw [sizeLine_eq]; decide), Fp, ρ, h1, h2, ?_⟩
    rw [hf]
    exact fun C d H' sm m z => q F σ H' C d (e.heap sm) m (z.back e.hh)
  | ok d =>
    rw [hf] at q hl
    cases k with
    | false =>
      have hl : (acc ++ [d]).length ≤ lim := hl
      rw [List.length_append, List.length_singleton] at hl
      refine ⟨by rw [rl]; exact lt_line hl, Fp, ρ, h1, h2, ?_⟩
      rw [hf]
      intro F' H' v ex rv
      have e3 := h3 F' H' ex
      exact q F' σ H' _ (e.unbase e3) ((r.mono e3.ff).append (.cons rv .nil))
    | true =>
      have q : OutG X.K X.mg We B G (acc ++ (if d.nlx (hasO S ρ) then ([d], .nx ρ) else ([], .st) : GRes).1) (if d.nlx (hasO S ρ) then ([d], .nx ρ) else ([], .st) : GRes).2 := q
      have hl : (acc ++ (if d.nlx (hasO S ρ) then ([d], .nx ρ) else ([], .st) : GRes).1).length ≤ lim := hl
      cases hn : d.nlx (hasO S ρ) with
      | false => rw [hn] at q; exact q.elim
      | true =>
        rw [hn] at q hl
        have hl : (acc ++ [d]).length ≤ lim := hl
        rw [List.length_append, List.length_singleton] at hl
        refine ⟨by rw [rl]; exact lt_line hl, Fp, ρ, h1, h2, ?_⟩
        rw [hf]
        intro F' H' v ex rv
        obtain ⟨F2, e2, l, _⟩ := h4 F' H' ex
        exact q F2 σ H' _ (e.unbase e2) ((r.mono e2.ff).append (.cons (rv.less l d v hn) .nil))
/-- while -/
def gWh (c : DEnv → Res Bool) (f : DEnv → GRes) : Nat → DEnv → GRes
  | 0, _ => ([], .st)
  | n + 1, ρ => match c ρ with
    | .ok true => match f ρ with
      | (a, .nx ρ') => (a ++ (gWh c f n ρ').1, (gWh c f n ρ').2)
      | (a, .ct ρ') => (a ++ (gWh c f n ρ').1, (gWh c f n ρ').2)
      | (a, .bk ρ') => (a, .nx ρ')
      | r => r
    | .ok false => ([], .nx ρ)
    | .er x => ([], .er x ρ)
    | .st => ([], .st)
theorem gsd_while (n : Nat) {body : List Stmt} {ce : DEnv → Res Bool} (hp : PassesOwn (model X.prog X.w) X.A X.env X.xe) (hc : PTD X We S c ce) (hb : GSDs X We body f) : GSD X We (.While c body [] pos) (gWh ce f n) :=
  gs_imp (gs_while hp hc hb) fun G ys σ H ⟨B, F, ρ, acc, e, r, hl, h⟩ => by
    refine ⟨fun m ys σ H => ∃ F ρ acc, EnvS X.K X.mg We.ex B F σ H ρ ∧ RepAll X.K X.mg F ys acc ∧ (acc ++ (gWh ce f m ρ).1).length ≤ lim ∧ OutG X.K X.mg We B G (acc ++ (gWh ce f m ρ).1) (gWh ce f m ρ).2, ⟨n, F, ρ, acc, e, r, hl, h⟩, fun m ys σ H ⟨F, ρ, acc, e, r, hl, h⟩ => ?_⟩
    cases m with
    | zero => exact h.elim
    | succ m =>
      unfold gWh at h hl
      obtain ⟨Fp, h1, h2, h3, h4⟩ := e.base.fz S
      refine ⟨Fp, ρ, h1, h2, ?_⟩
      cases hf : ce ρ with
      | st => rw [hf] at h; exact h.elim
      | er x =>
        rw [hf] at h
        exact fun C d H' sm m z => h F σ H' C d (e.heap sm) m (z.back e.hh)
      | ok b =>
        rw [hf] at h hl
        intro F' H' v ex rv
        have rv : v = b := rv
        subst rv
        obtain ⟨F2, e2', l, _⟩ := h4 F' H' ex
        have e2 := e.unbase e2'
        have r2 := r.mono e2'.ff
        cases v with
        | false =>
          rw [if_neg Bool.false_ne_true]
          have h : OutG X.K X.mg We B G (acc ++ []) (.nx ρ) := h
          rw [List.append_nil] at h
          exact h F2 σ H' ys e2 r2
        | true =>
          rw [if_pos rfl]
          refine ⟨fun ys σ H => ∃ F ρ acc, EnvS X.K X.mg We.ex B F σ H ρ ∧ RepAll X.K X.mg F ys acc ∧ (acc ++ (gWh ce f m ρ).1).length ≤ lim ∧ OutG X.K X.mg We B G (acc ++ (gWh ce f m ρ).1) (gWh ce f m ρ).2, fun ys' σ' H' h' => ⟨m, Nat.lt_succ_self m, h'⟩, ?_⟩
          refine ⟨B, F2, ρ, acc, e2, r2, ?_⟩
          cases hf2 : f ρ with
          | mk a z =>
            rw [hf2] at h hl
            have more : ∀ ρ' : DEnv, (acc ++ (a ++ (gWh ce f m ρ').1)).length ≤ lim → OutG X.K X.mg We B G (acc ++ (a ++ (gWh ce f m ρ').1)) (gWh ce f m ρ').2 → (acc ++ a).length ≤ lim ∧ ∀ F σ H ys, EnvS X.K X.mg We.ex B F σ H ρ' → RepAll X.K X.mg F ys (acc ++ a) →
                ∃ F ρ acc, EnvS X.K X.mg We.ex B F σ H ρ ∧ RepAll X.K X.mg F ys acc ∧ (acc ++ (gWh ce f m ρ).1).length ≤ lim ∧ OutG X.K X.mg We B G (acc ++ (gWh ce f m ρ).1) (gWh ce f m ρ).2 := fun ρ' hl h => by
              refine ⟨by rw [← List.append_assoc, List.length_append] at hl; exact Nat.le_trans (Nat.le_add_right _ _) hl, fun F3 σ3 H3 ys3 e3 r3 => ⟨F3, ρ', acc ++ a, e3, r3, by rw [List.append_assoc]; exact hl, by rw [List.append_assoc]; exact h⟩⟩
            cases z with
            | nx ρ' => exact more ρ' hl h
            | ct ρ' => exact more ρ' hl h
            | bk ρ' => exact ⟨hl, h⟩
            | rt d => exact ⟨hl, h⟩
            | er x ρ' => exact ⟨hl, h⟩
            | st => exact h.elim
end

/-! ### a generator def and list(f(..)) -/
def spG (K : PySem.W.Frag) (mg : Str → Option Value) (n : Nat) (m : List D → Res (List D)) : SpG := fun vs H Q E => vs.length = n ∧ ∃ F ds xs, Same F H ∧ RepAll K mg F vs ds ∧ m ds = .ok xs ∧ ∀ F' H' ys, Ext F H F' H' → RepAll K mg F' ys xs → Q ys H'
abbrev FnG (P : Program) (w : World) (K : PySem.W.Frag) (mg : Str → Option Value) (base : Heap) (k : Nat) (f : Addr) (fd : FuncData) (ps : List Str) (m : List D → Res (List D)) : Prop := GFn P w K mg base k f fd ps (spG K mg ps.length m)
/-- a generator's body as a function of its arguments: nothing is raised -/
def mG (nN : Nat) (g : DEnv → GRes) : List D → Res (List D) := fun ds => match g (ds.map Slot.d ++ List.replicate (nN - ds.length) .un) with
  | (ys, .nx _) => if ys.length ≤ lim then .ok ys else .st
  | (ys, .rt .non) => if ys.length ≤ lim then .ok ys else .st
  | _ => .st
theorem fng_of {P : Program} {w : World} {K : PySem.W.Frag} {mg : Str → Option Value} {base : Heap} {x qual : Str} {st : Stmt} {f : Addr} {fd : FuncData} {N ps : List Str} {k : Nat} {g : DEnv → GRes}
    (F : Fun K x qual st f fd) (S : GScope N ps (defScope st))
    (hb : ∀ (cdv : Value) (A : Around) (outer : List Env) (s : Shared) (H : Hp) (E : XK) (pn : List (Addr × Obj)), Room k (A.deeper (envOfC qual (defScope st) s.heap.objs.size f cdv)) →
      GSDs (gcxOf P w K mg base N qual (defScope st) f cdv A outer s H E pn) ⟨fun c d _ H' => E c d H', none⟩ (defBody st) g) : FnG P w K mg base (k + 1) f fd ps (mG N.length g) := by
  obtain ⟨oc, od, kV, doc, pm, an, cdv, ct, osl, rfl, lk, hcd⟩ := F.ex
  refine gfn_of lk hcd S (fun vs H Q E h => h.1) fun A outer s H vs Q E pn hr h => ⟨_, hb cdv A outer s H E pn hr, ?_⟩
  obtain ⟨hl, F', ds, xs, hF, r, hm, q⟩ := h
  refine ⟨_, F', _, [], envS_start hF r, .nil, ?_⟩
  unfold mG at hm
  cases hg : g (ds.map Slot.d ++ List.replicate (N.length - ds.length) .un) with
  | mk ys z =>
    rw [hg] at hm
    have key : ∀ z : SRes, (if ys.length ≤ lim then Res.ok ys else Res.st) = Res.ok xs → ([] ++ ys).length ≤ lim ∧ ys = xs := fun _ e => by
      by_cases hy : ys.length ≤ lim
      · rw [if_pos hy] at e; cases e; exact ⟨hy, rfl⟩
      · rw [if_neg hy] at e; cases e
    cases z with
    | nx ρ =>
      obtain ⟨h1, rfl⟩ := key .st hm
      exact ⟨h1, fun F2 σ2 H2 us e2 r2 => q F2 H2 us e2.ext r2⟩
    | rt d =>
      cases d with
      | non =>
        obtain ⟨h1, rfl⟩ := key .st hm
        exact ⟨h1, fun F2 H2 v us ex r2 rv => ⟨by cases rv; rfl, q F2 H2 us ex r2⟩⟩
      | _ => cases hm
    | bk ρ => cases hm
    | ct ρ => cases hm
    | er x ρ => cases hm
    | st => cases hm
def callG (n : Nat) (m : List D → Res (List D)) : List D → Res (List D) := fun ds => if ds.length = n then (match m ds with
  | .ok xs => .ok xs
  | _ => .st) else .st
section
variable {X : Cx} {We : WeX} {S : List Nat} {k j : Nat} {f : Addr} {fd : FuncData} {ps : List Str} {m : List D → Res (List D)} {x : Str} {p p2 pos pos' : Pos} {e : PySem.Expr} {es : List PySem.Expr} {g : DEnv → Res (List D)}
theorem passE0 {X : Cx} : Passes (L2.CX X.prog X.w) X (fun _ _ _ => False) := fun pins σ H s e s' I h => by
  obtain ⟨_, _, _, _, _, _, _, _, _, _, _, _, z⟩ := h
  exact z.elim
theorem pf_listG (hr : Room k X.A) (hjk : j + 3 ≤ k) (F : FnG X.prog X.w X.K X.mg X.base j f fd ps m) (hm : X.mg x = some (.ref f)) (hk : PySem.W.keepIn X.K (.ref f) = true) (hb : Binds X.K fd ps []) (hml : X.mg "list" = none)
    (ha : PAD X We S (e :: es) g) (hg : Gl X x := by rfl) (hgl : Gl X "list" := by rfl) (hdb : (x == ("__debug__" : Str)) = false := by decide) (he : starEach (e :: es) X.env = (false, eval e X.env) :: starEach es X.env := by rfl) (hpl : (backTo pos' (starEach es X.env)).any (·.1) = false := by rfl)
    (he2 : starEach [.Call (.Name x p) (e :: es) [] pos'] X.env = (false, eval (.Call (.Name x p) (e :: es) [] pos') X.env) :: starEach [] X.env := by rfl) :
    PF X We S (.Call (.Name "list" p2) [.Call (.Name x p) (e :: es) [] pos'] [] pos) (eL (callG ps.length m) g) := by
  have hjk' : j ≤ k := Nat.le_trans (Nat.le_add_right _ _) hjk
  refine pe_imp (pe_listG (pgen_call (E := fun _ _ _ => False) F (hr.mono hjk') hg hm hk hb .nil ha hdb he hpl) passE0 (fun _ _ _ h => h.elim) (hr.mono hjk) hgl hml (by decide +kernel) (by decide) (by decide) he2) fun σ H Q ⟨F, ρ, hF, hE, q⟩ => ⟨F, ρ, hF, hE, Out.bind q fun ds F1 H1 vs ex r q1 => ?_⟩
  unfold callG at q1
  by_cases hl : ds.length = ps.length
  · rw [if_pos hl] at q1
    cases hmd : m ds with
    | er x => rw [hmd] at q1; exact q1.elim
    | st => rw [hmd] at q1; exact q1.elim
    | ok xs =>
      rw [hmd] at q1
      rw [List.append_nil]
      refine ⟨by rw [r.length]; exact hl, F1, ds, xs, ex.2.1, r, hmd, fun F' H' ys ex' r' p hp => ?_⟩
      exact q1 F' _ _ ⟨ex'.1, ex'.2.1.trans (same_upd hp), ex'.2.2.1.trans (same_upd hp), ex'.2.2.2⟩ ⟨p, ys, rfl, ex'.2.2.1.free hp, ex'.2.1.free hp, upd_same, r'⟩
  · rw [if_neg hl] at q1; exact q1.elim
end
end DL
set_option Elab.async false
set_option linter.all false
set_option maxRecDepth 100000
set_option maxHeartbeats 1000000
/-! DL10: enumerate, reversed. -/
namespace DL
open PySem PySem.Spec PyProof.Rows L2

def enumD (i : Nat) : List D → List D
  | [] => []
  | d :: ds => .tup [.int (i : Nat), d] :: enumD (i + 1) ds
theorem enumD_length : ∀ (ds : List D) (i : Nat), (enumD i ds).length = ds.length
  | [], _ => rfl
  | _ :: ds, i => by show (enumD (i + 1) ds).length + 1 = _; rw [enumD_length ds (i + 1)]; rfl
theorem enumD_get : ∀ (ds : List D) (i j : Nat), (enumD i ds)[j]? = (ds[j]?).map fun d => .tup [.int ((i + j : Nat) : Int), d]
  | [], _, _ => by simp [enumD]
  | d :: ds, i, 0 => rfl
  | d :: ds, i, j + 1 => by
    show (enumD (i + 1) ds)[j]? = (ds[j]?).map _
    rw [enumD_get ds (i + 1) j, show i + 1 + j = i + (j + 1) by omega]
def bEnum : List D → Res (List D)
  | [.lst xs] => .ok (enumD 0 xs)
  | _ => .st
def bRev : D → Res (List D)
  | .lst xs => .ok xs.reverse
  | .tup xs => .ok xs.reverse
  | _ => .st
theorem rev_get {α : Type} (xs : List α) (i : Nat) (h : i < xs.length) : xs.reverse[i]? = xs[xs.length - 1 - i]? := by
  rw [List.getElem?_reverse h]
section
variable {K : PySem.W.Frag} {mg : Str → Option Value} {F : Hp}
theorem itd_enum {a : Addr} {vs : List V} {ds : List D} (h : SqL K F a vs) (r : RepAll K mg F vs ds) : ItD K mg (Ite K a) F (enumD 0 ds) := fun i Fc H s1 s2 => by
  have q := SqL.same (s1.trans s2) h
  refine ⟨fun e => ⟨vs, q, by rw [r.length, e, enumD_length]; exact Nat.le_refl _⟩, fun d hd => ?_⟩
  rw [enumD_get] at hd
  cases hx : ds[i]? with
  | none => rw [hx] at hd; cases hd
  | some x =>
    rw [hx] at hd
    cases hd
    obtain ⟨v, hv, rv⟩ := r.get hx
    refine ⟨⟨vs, v, q, hv⟩, fun y H' z => ?_⟩
    obtain ⟨T, w, rfl, nT, rfl, hw⟩ := z
    have e := (hw vs q).symm.trans hv
    cases e
    refine ⟨upd Fc T (.tup [.int (i : Nat), v]), Ext.new s2 nT, .tup (SqT.of upd_same) ?_⟩
    rw [Nat.zero_add]
    exact .cons (.int _) (.cons ((rv.mono s1).mono (same_upd (s2.free nT))) .nil)
theorem itd_rev {a : Addr} {vs : List V} {ds : List D} (h : SqL K F a vs) (r : RepAll K mg F vs ds) : ItD K mg (Itv K a vs.length) F ds.reverse := fun i Fc H s1 s2 => by
  have q := SqL.same (s1.trans s2) h
  have hl := r.length
  refine ⟨fun e => by show vs.length ≤ i; rw [e, List.length_reverse, hl]; exact Nat.le_refl _, fun d hd => ?_⟩
  have hi : i < ds.length := by
    have := (List.getElem?_eq_some_iff.mp hd).1
    simpa using this
  rw [rev_get _ _ hi, ← hl] at hd
  obtain ⟨v, hv, rv⟩ := r.get hd
  refine ⟨⟨by omega, vs, v, q, hv⟩, fun x H' y => ?_⟩
  obtain ⟨e, y⟩ := y
  subst e
  have e := (y vs q).symm.trans hv
  cases e
  exact ⟨Fc, Ext.refl s2, rv.mono s1⟩
theorem itd_revT {a : Addr} {vs : List V} {ds : List D} (h : SqT K F a vs) (r : RepAll K mg F vs ds) : ItD K mg (RT.ItvT K a vs.length) F ds.reverse := fun i Fc H s1 s2 => by
  have q := SqT.same (s1.trans s2) h
  have hl := r.length
  refine ⟨fun e => by show vs.length ≤ i; rw [e, List.length_reverse, hl]; exact Nat.le_refl _, fun d hd => ?_⟩
  have hi : i < ds.length := by
    have := (List.getElem?_eq_some_iff.mp hd).1
    simpa using this
  rw [rev_get _ _ hi, ← hl] at hd
  obtain ⟨v, hv, rv⟩ := r.get hd
  refine ⟨⟨by omega, vs, v, q, hv⟩, fun x H' y => ?_⟩
  obtain ⟨e, y⟩ := y
  subst e
  have e := (y vs q).symm.trans hv
  cases e
  exact ⟨Fc, Ext.refl s2, rv.mono s1⟩
end
section
variable {X : Cx} {We : WeX} {S : List Nat} {tg e : PySem.Expr} {p pos tpos : Pos} {elts : List PySem.Expr} {kk : Nat} {g : DEnv → Res (List D)} {f : DEnv → Res D}
theorem bEnum_ok {ds xs : List D} (h : bEnum ds = .ok xs) : ∃ ys, ds = [.lst ys] ∧ xs = enumD 0 ys := by
  unfold bEnum at h
  split at h
  · cases h; exact ⟨_, rfl, rfl⟩
  · cases h
theorem bEnum_ner {ds : List D} {x : Exn} (h : bEnum ds = .er x) : False := by
  unfold bEnum at h
  split at h <;> cases h
theorem id_enum (hm : X.mg "enumerate" = none) (ha : PAD X We S [e] g) (hg : Gl X "enumerate" := by rfl) (hs : starEach [e] X.env = [(false, eval e X.env)] := by rfl) : ID X We S (.Tuple elts kk tpos) (.Call (.Name "enumerate" p) [e] [] pos) (eL bEnum g) :=
  pi_imp (pi_enum hg hm ha hs) fun σ H R ⟨F, ρ, hF, hE, q⟩ => ⟨F, ρ, hF, hE, Out.bind q fun ds F1 H1 vs ex r q1 => by
    cases h2 : bEnum ds with
    | st => rw [h2] at q1; exact q1.elim
    | er x => exact (bEnum_ner h2).elim
    | ok xs =>
      rw [h2] at q1
      obtain ⟨ys, rfl, rfl⟩ := bEnum_ok h2
      obtain ⟨v, rfl, rv⟩ := r.one
      cases rv with
      | lst a b => exact ⟨_, _, rfl, SqL.same ex.2.1 a, q1 F1 H1 _ (Ext.refl ex.2.1) (itd_enum a b)⟩⟩
theorem id_rev (hm : X.mg "reversed" = none) (he : PD X We S e f) (hg : Gl X "reversed" := by rfl) (hs : starEach [e] X.env = (false, eval e X.env) :: starEach [] X.env := by rfl) : ID X We S tg (.Call (.Name "reversed" p) [e] [] pos) (e1 bRev f) :=
  pi_imp (RT.pi_revA hg hm he hs) fun σ H R ⟨F, ρ, hF, hE, q⟩ => ⟨F, ρ, hF, hE, Out.bind q fun d F1 H1 v ex r q1 => by
    cases d with
    | lst xs =>
      cases r with
      | lst a b => exact ⟨_, _, rfl, .inl ⟨SqL.same ex.2.1 a, q1 F1 H1 _ (Ext.refl ex.2.1) (itd_rev a b)⟩⟩
    | tup xs =>
      cases r with
      | tup a b => exact ⟨_, _, rfl, .inr ⟨SqT.same ex.2.1 a, q1 F1 H1 _ (Ext.refl ex.2.1) (itd_revT a b)⟩⟩
    | _ => exact q1.elim⟩
end
end DL
set_option Elab.async false
set_option linter.all false
set_option maxRecDepth 100000
set_option maxHeartbeats 1000000
/-! DL11: unary operators, += on names, constants of the module. -/
namespace DL
open PySem PySem.Spec PyProof.Rows L2
section
variable {X : Cx} {We : WeX} {S : List Nat} {f : DEnv → Res D} {e : PySem.Expr} {pos : Pos}
theorem pd_neg (h : PD X We S e f) : PD X We S (.UnaryOp .USub e pos) (e1 dNeg f) :=
  pe_imp (pe_un un_neg h) fun σ H Q ⟨F, ρ, hF, hE, q⟩ => ⟨F, ρ, hF, hE, Out.bind q fun x F1 H1 v ex rx q1 => by
    cases x with
    | int i => cases rx; exact ⟨i, rfl, q1 F1 H1 _ (Ext.refl ex.2.1) (.int _)⟩
    | _ => exact q1.elim⟩
theorem pd_inv (h : PD X We S e f) : PD X We S (.UnaryOp .Invert e pos) (e1 dInv f) :=
  pe_imp (pe_un un_inv h) fun σ H Q ⟨F, ρ, hF, hE, q⟩ => ⟨F, ρ, hF, hE, Out.bind q fun x F1 H1 v ex rx q1 => by
    cases x with
    | int i => cases rx; exact ⟨i, rfl, q1 F1 H1 _ (Ext.refl ex.2.1) (.int _)⟩
    | _ => exact q1.elim⟩
end
/-- a constant as data -/
def absD : Value → Option D
  | .none => some .non
  | .bool b => some (.bl b)
  | .int i _ => some (.int i)
  | .str x _ => some (.str x)
  | _ => none
def absDs : List Value → Option (List D)
  | [] => some []
  | v :: vs => match absD v, absDs vs with
    | some d, some ds => some (d :: ds)
    | _, _ => none
section
variable {K : PySem.W.Frag} {mg : Str → Option Value}
theorem absD_rep {u : Value} {d : D} (h : absD u = some d) : ∃ v, RelV v u ∧ ∀ F, Rep K mg F v d := by
  unfold absD at h
  split at h
  · cases h; exact ⟨.non, rfl, fun F => .non⟩
  · cases h; exact ⟨.bl _, rfl, fun F => .bl _⟩
  · cases h; exact ⟨.int _, ⟨_, rfl⟩, fun F => .int _⟩
  · cases h; exact ⟨.str _, ⟨_, rfl⟩, fun F => .str _⟩
  · cases h
theorem absDs_rep : ∀ {us : List Value} {ds : List D}, absDs us = some ds → ∃ vs, Vals vs us ∧ ∀ F, RepAll K mg F vs ds
  | [], ds, h => by cases h; exact ⟨[], .nil, fun F => .nil⟩
  | u :: us, ds, h => by
    unfold absDs at h
    cases h1 : absD u with
    | none => simp only [h1] at h; cases h
    | some d =>
      cases h2 : absDs us with
      | none => simp only [h1, h2] at h; cases h
      | some es =>
        simp only [h1, h2] at h
        cases h
        obtain ⟨v, r1, p1⟩ := absD_rep (K := K) (mg := mg) h1
        obtain ⟨vs, r2, p2⟩ := absDs_rep h2
        exact ⟨v :: vs, .cons r1 r2, fun F => .cons (p1 F) (p2 F)⟩
/-- a tuple of constants in the text -/
structure KTup (K : PySem.W.Frag) (mg : Str → Option Value) (x : Str) (a : Addr) (o : Obj) (its : Array Value) (n : Nat) (ds : List D) : Prop where
  gl : mg x = some (.ref a)
  lk : K.lookup a = some o
  cl : o.cls = .type "tuple"
  da : o.data = .seq its n
  ab : absDs its.toList = some ds
  sz : its.size ≤ lim
theorem KTup.rep {x : Str} {a : Addr} {o : Obj} {its : Array Value} {n : Nat} {ds : List D} (h : KTup K mg x a o its n ds) (F : Hp) : Rep K mg F (.ref a) (.tup ds) := by
  obtain ⟨vs, r, p⟩ := absDs_rep (K := K) (mg := mg) h.ab
  exact .tup (.inr ⟨o, its, n, h.lk, h.cl, h.da, le_line h.sz, r⟩) (p F)
end
theorem pd_ktup {X : Cx} {We : WeX} {c : Str} {a : Addr} {o : Obj} {its : Array Value} {n : Nat} {ds : List D} {pos : Pos} (h : KTup X.K X.mg c a o its n ds) (hg : Gl X c := by rfl) (hdb : (c == ("__debug__" : Str)) = false := by decide) : PD X We [] (.Name c pos) (eC (.tup ds)) :=
  pd_glob (v := .ref a) h.gl rfl h.rep hg hdb
end DL
set_option Elab.async false
set_option linter.all false
set_option maxRecDepth 100000
set_option maxHeartbeats 1000000
/-! DL12: the law's own end; small helps for the printed walks. -/
namespace DL
open PySem PySem.Spec PyProof.Rows L2
theorem rep_ints {K : PySem.W.Frag} {mg : Str → Option Value} {F : Hp} : ∀ ns : List Int, RepAll K mg F (ns.map V.int) (ns.map D.int)
  | [] => .nil
  | _ :: ns => .cons (.int _) (rep_ints ns)
def spLaw (K : PySem.W.Frag) : Sp := fun vs H Q _ => ∃ (a : Addr) (ns : List Int), vs = [.ref a] ∧ SqL K H a (ns.map V.int) ∧ ns.length ≤ 63 ∧ (∀ z ∈ ns, Builtin.Int.intBits z ≤ 1048576) ∧ ∀ H', Q (.bl true) H'
theorem law_imp {P : Program} {w : World} {K : PySem.W.Frag} {mg : Str → Option Value} {base : Heap} {k : Nat} {f : Addr} {fd : FuncData} {x : Str} {m : List D → Res D} (F : FnD P w K mg base k f fd [x] false m)
    (h : ∀ ns : List Int, ns.length ≤ 63 → (∀ z ∈ ns, Builtin.Int.intBits z ≤ 1048576) → m [.lst (ns.map .int)] = .ok (.bl true)) : FnOk P w K mg base (L2.CX P w) k f fd [x] (spLaw K) :=
  F.imp fun vs H Q E ⟨a, ns, e, s, l, b, q⟩ => by
    subst e
    refine ⟨rfl, H, _, Same.refl H, .cons (.lst s (rep_ints ns)) .nil, ?_⟩
    rw [h ns l b]
    intro F' H' v ex r
    cases r
    exact q H'
theorem cx_none {P : Program} {w : World} {H : Hp} {s : Shared} {e : Value} {s' : Shared} (h : L2.CX P w [] H s (fun _ _ _ => False) e s') : False := by
  obtain ⟨_, _, _, _, _, _, _, _, _, _, _, _, z⟩ := h
  exact z
theorem binds1 {K : PySem.W.Frag} {x qual : Str} {st : Stmt} {f : Addr} {fd : FuncData} {p : Str} : True := trivial
end DL
set_option Elab.async false
set_option linter.all false
set_option maxRecDepth 100000
set_option maxHeartbeats 1000000
/-! DL13: name = [..], put to rest at once. -/
namespace DL
open PySem PySem.Spec PyProof.Rows L2
theorem tG_fz {K : PySem.W.Frag} {mg : Str → Option Value} {We : WeX} {S : List Nat} {g : DEnv → Res (List D)} {σ : L2.St} {H : Hp} {Q : VK} (h : tG K mg We (RD K mg) S (eFz g) σ H Q) : tG K mg We (RF K mg) S g σ H Q := by
  obtain ⟨F, ρ, hF, hE, q⟩ := h
  refine ⟨F, ρ, hF, hE, ?_⟩
  have q' : Out K mg We (RD K mg) F H σ Q ((g ρ).bind fun xs => .ok (.lst xs)) := q
  cases hg : g ρ with
  | ok xs =>
    rw [hg] at q'
    intro F' H' v ex r
    obtain ⟨F2, ex2, _, r2⟩ := fz_ok ex r
    exact q' F2 H' v ex2 r2
  | er x => rw [hg] at q'; exact q'
  | st => rw [hg] at q'; exact q'
section
variable {X : Cx} {We : WeX} {Si St Se sl : List Nat} {tg iter elt : PySem.Expr} {ifs : List PySem.Expr} {fi : DEnv → Res (List D)} {g : D → Option (List D)} {ft : DEnv → Res Bool} {fe : DEnv → Res D} {pos : Pos} {scope : Scope} {own : List (Str × Nat)}
theorem sd_asgLcZ {fr : Bool} (k : Bool) {i : Nat} {y : Str} {py : Pos} {spos : Pos} (hc : X.calm = true) (hN : X.N.Nodup) (hi : ID X We Si tg iter fi) (ok : BlkOk X.N X.env.scope scope own) (ho : own.map (·.2) = sl)
    (hg : ∀ (s : Shared) (H : Hp) (C : Addr) (cl : List (Str × Addr)) (fp : List Addr), GD (X.blk s H scope (compEnvC scope cl C X.env) fp) tg sl g)
    (ht : ∀ (s : Shared) (H : Hp) (C : Addr) (cl : List (Str × Addr)) (fp : List Addr), PTsD (X.blk s H scope (compEnvC scope cl C X.env) fp) (We0 We.ex) St ifs ft)
    (he : ∀ (s : Shared) (H : Hp) (C : Addr) (cl : List (Str × Addr)) (fp : List Addr), PD (X.blk s H scope (compEnvC scope cl C X.env) fp) (We0 We.ex) Se elt fe)
    (hy : X.N[i]? = some y := by rfl) (hyl : X.env.scope.names.lookup y = some .local := by rfl)
    (hsw : swapsWith (.ListComp elt [⟨tg, iter, ifs, 0⟩] scope pos) (some (.Name y py)) spos.line X.env = pure true := by exact sw_true rfl rfl rfl (by decide +kernel))
    (hs : ∀ x, foldedSetIterable iter X.env x = pure x := by intro _; rfl) : SD X fr We (.Assign [.Name y py] (.ListComp elt [⟨tg, iter, ifs, 0⟩] scope pos) spos) (sAsg k (Si ++ minus (St ++ Se) sl) i (eFz (eLc sl fi g ft fe))) :=
  ps_imp (ps_setLc hc hN hy hyl hsw hi ok (fun s H C cl fp => (hg s H C cl fp).1) ht he hs) fun E σ H ⟨B, F, ρ, e, h⟩ =>
    lc_ok (hg X.s_0 X.H_0 0 [] []).2 ho (tG_fz (OutS.evalD e h fun F' H' v d ρ' e' r q => q F' _ H' (e'.set r i)))
end
end DL
set_option Elab.async false
set_option linter.all false
set_option maxRecDepth 100000
set_option maxHeartbeats 1000000
/-! DL14: try: .. except C as e: .. -/
namespace DL
open PySem PySem.Spec PyProof.Rows L2
def nx1 : Slot → Slot
  | .exc _ => .un
  | s => s
/-- caught exceptions forgotten -/
def noX (ρ : DEnv) : DEnv := ρ.map nx1
theorem noX_get {ρ : DEnv} {i : Nat} {s : Slot} (h : (noX ρ)[i]? = some s) : ∃ s0, ρ[i]? = some s0 ∧ nx1 s0 = s := by
  unfold noX at h
  rw [List.getElem?_map] at h
  cases h0 : ρ[i]? with
  | none => rw [h0] at h; cases h
  | some s0 => rw [h0] at h; exact ⟨s0, rfl, Option.some.inj h⟩
theorem nx1_O {s : Slot} (o : (nx1 s).isO = true) : nx1 s = s := by
  cases s <;> first | rfl | cases o
section
variable {K : PySem.W.Frag} {mg : Str → Option Value} {ex ex' : EXP} {B : Bs} {F H : Hp} {σ : L2.St} {ρ : DEnv}
/-- slot i gets what is not looked at, the caught exceptions are forgotten -/
theorem EnvS.noX (e : EnvS K mg ex B F σ H ρ) (i : Nat) (y : Option V) : EnvS K mg ex' B F (σ.set i y) H ((noX ρ).set i .un) := by
  have get : ∀ (j : Nat) s, ((DL.noX ρ).set i .un)[j]? = some s → (j = i ∧ s = .un) ∨ (j ≠ i ∧ ∃ s0, ρ[j]? = some s0 ∧ nx1 s0 = s) := fun j s h => by
    rcases set_get h with ⟨h1, h2, _⟩ | ⟨h1, h2⟩
    · exact .inl ⟨h1, h2⟩
    · exact .inr ⟨h1, noX_get h2⟩
  refine ⟨e.f0, e.ff, e.fh, e.hh, e.ag, by rw [List.length_set, List.length_set]; unfold DL.noX; rw [List.length_map]; exact e.len, fun j s h => ?_, fun j k a s t h1 h2 o1 o2 h3 h4 => ?_⟩
  · rcases get j s h with ⟨_, rfl⟩ | ⟨hn, s0, h0, rfl⟩
    · trivial
    · rw [List.getElem?_set_ne (Ne.symm hn)]
      have z := e.sl j s0 h0
      cases s0 with
      | un => trivial
      | d d => exact z
      | own t xs => exact z
      | obo t c ns fs => exact z
      | exc x => trivial
  · rcases get j s h1 with ⟨_, rfl⟩ | ⟨n1, s0, q1, r1⟩
    · cases o1
    · rcases get k t h2 with ⟨_, rfl⟩ | ⟨n2, t0, q2, r2⟩
      · cases o2
      · rw [List.getElem?_set_ne (Ne.symm n1)] at h3
        rw [List.getElem?_set_ne (Ne.symm n2)] at h4
        subst r1 r2
        rw [nx1_O o1] at o1
        rw [nx1_O o2] at o2
        exact e.ap j k a s0 t0 q1 q2 o1 o2 h3 h4
/-- a caught exception comes to slot i -/
theorem EnvS.setX (e : EnvS K mg ex B F σ H ρ) {i : Nat} {x : Exn} (h : i < ρ.length → ExcOk K mg ex F σ[i]? x) : EnvS K mg ex B F σ H (ρ.set i (.exc x)) := by
  refine ⟨e.f0, e.ff, e.fh, e.hh, e.ag, by rw [List.length_set]; exact e.len, fun j s q => ?_, fun j k a s t h1 h2 o1 o2 h3 h4 => ?_⟩
  · rcases set_get q with ⟨rfl, rfl, l⟩ | ⟨n, q⟩
    · exact h l
    · exact e.sl j s q
  · rcases set_get h1 with ⟨_, rfl, _⟩ | ⟨_, h1⟩
    · cases o1
    · rcases set_get h2 with ⟨_, rfl, _⟩ | ⟨_, h2⟩
      · cases o2
      · exact e.ap j k a s t h1 h2 o1 o2 h3 h4
/-- an exception's fields stand still from now on -/
theorem EnvS.xd (e : EnvS K mg ex B F σ H ρ) {dx : Addr} {fv : List (Str × V)} (h : H dx = some (.xd fv)) (n : B.H dx = none) : EnvS K mg ex B (upd F dx (.xd fv)) σ H ρ := by
  have sF : Same F (upd F dx (.xd fv)) := fun p o q => by
    by_cases z : p = dx
    · subst z
      have := e.fh _ _ q
      rw [h] at this
      rw [upd_same]; exact this
    · rw [upd_ne z]; exact q
  refine ⟨e.f0, e.ff.trans sF, fun p o q => ?_, e.hh, fun p o q => ?_, e.len, fun i s hs => ?_, e.ap⟩
  · by_cases z : p = dx
    · subst z; rw [upd_same] at q; cases q; exact h
    · rw [upd_ne z] at q; exact e.fh _ _ q
  · rw [upd_ne (ne_of_none q n)]; exact e.ag p o q
  · have z := e.sl i s hs
    cases s with
    | un => trivial
    | d d => obtain ⟨v, a, b⟩ := z; exact ⟨v, a, b.mono sF⟩
    | exc x => exact z.mono sF
    | own t xs =>
      obtain ⟨a, vs, a1, a2, a3, a4, a5, a6⟩ := z
      have na : a ≠ dx := fun y => by rw [y, h] at a4; cases a4
      exact ⟨a, vs, a1, by rw [upd_ne na]; exact a2, a3, a4, a5.mono sF, a6⟩
    | obo t c ns fs =>
      obtain ⟨a, C, d, fv', a1, a2, a3, m, a4, nn, a5, a6⟩ := z
      have na : a ≠ dx := fun y => by rw [y, h] at a4; cases a4
      exact ⟨a, C, d, fv', a1, by rw [upd_ne na]; exact a2, a3, m, a4, nn, a5.mono sF, a6⟩
end
/-- behind the suite -/
def unI (i : Nat) : SRes → SRes
  | .nx ρ => .nx ((noX ρ).set i .un)
  | .bk ρ => .bk ((noX ρ).set i .un)
  | .ct ρ => .ct ((noX ρ).set i .un)
  | .rt d => .rt d
  | _ => .st
def sTryAs (i : Nat) (cs : Str → Option Bool) (fb fs : DEnv → SRes) : DEnv → SRes := fun ρ => match fb ρ with
  | .er x ρ' => match cs x.c with
    | some true => unI i (fs ((noX ρ').set i (.exc x)))
    | some false => .er x ρ'
    | none => .st
  | r => r
section
variable {X : Cx} {fr : Bool} {We : WeX} {x n : Str} {c : Value} {body suite : List Stmt} {b₀ : Stmt} {np pos pos' : Pos} {fb fs : DEnv → SRes}
theorem sd_tryAs (i : Nat) (cs : Str → Option Bool) (hs : X.stack = X.env :: X.outer) (hf : X.env.frame = some X.env.locals) (hN : X.N.Nodup) (hc : Names X x c) (tk : Takes X We.w)
    (hcs : ∀ z b, cs z = some b → ∀ C, X.mg z = some (.ref C) → PySem.W.exmOne X.K (.ref C) c = some b)
    (hb : ∀ (W : WX) (pn : List (Addr × Obj)) (xe : Value → Shared → Prop), Takes (X.tr pn xe) W → PassesOwn (model X.prog X.w) X.A X.env xe → SDs (X.tr pn xe) fr ⟨W, We.ex⟩ body fb)
    (hsu : ∀ (a : Addr) (oe : Obj) (cls : Value) (d : Option Addr) (pn : List (Addr × Obj)), Zc cls d oe → (∃ vs, oe.data = .fields vs) → SDs (X.suite a ((a, oe) :: pn)) fr ⟨fun _ _ _ _ => False, some (a, cls, d)⟩ (b₀ :: suite) fs)
    (hi : X.N[i]? = some n := by rfl) (hln : X.env.kindOf n = some .local := by rfl) :
    SD X fr We (.Try body [.ExceptHandler (some (.Name x np)) (some n) (b₀ :: suite) pos'] [] [] pos) (sTryAs i cs fb fs) :=
  ps_imp (ps_try_as (tb := fun W => tS X.K X.mg fr ⟨W, We.ex⟩ fb) (ts := fun a cls d => tS X.K X.mg fr ⟨fun _ _ _ _ => False, some (a, cls, d)⟩ fs) hs hf hN hi hln hc tk hb hsu) fun E σ H ⟨B, F, ρ, e, h⟩ => by
    refine ⟨B, F, ρ, e, ?_⟩
    unfold sTryAs at h
    cases hfb : fb ρ with
    | nx ρ' => rw [hfb] at h; exact h
    | bk ρ' => rw [hfb] at h; exact h
    | ct ρ' => rw [hfb] at h; exact h
    | rt d => rw [hfb] at h; exact h
    | st => rw [hfb] at h; exact h
    | er z ρ' =>
      rw [hfb] at h
      have h : OutS X.K X.mg fr We B E (match cs z.c with
        | some true => unI i (fs ((noX ρ').set i (.exc z)))
        | some false => .er z ρ'
        | none => .st) := h
      intro F1 σ1 H1 C d e1 m xf
      cases hz : cs z.c with
      | none => rw [hz] at h; exact h.elim
      | some b =>
        rw [hz] at h
        refine ⟨b, hcs z.c b hz C m, fun eb a na => ?_, fun eb => ?_⟩
        · subst eb
          have h : OutS X.K X.mg fr We B E (unI i (fs ((noX ρ').set i (.exc z)))) := h
          -- the slots at the suite's start
          obtain ⟨F2, e2⟩ : ∃ F2, EnvS X.K X.mg (some (a, .ref C, d)) B F2 (σ1.set i (some (.ref a))) H1 ((noX ρ').set i (.exc z)) := by
            have lenσ : ∀ {F2 : Hp}, EnvS X.K X.mg (some (a, .ref C, d)) B F2 (σ1.set i (some (.ref a))) H1 ((noX ρ').set i .un) → i < ((noX ρ').set i Slot.un).length → (σ1.set i (some (V.ref a)))[i]? = some (some (.ref a)) := fun {F2} g l => by
              rw [List.getElem?_set_self]
              rw [← g.len, List.length_set] at l
              exact l
            rcases xf with ⟨x1, x2⟩ | ⟨dx, fv, x1, x2, x3, x4, x5⟩
            · have g : EnvS X.K X.mg (some (a, .ref C, d)) B F1 (σ1.set i (some (.ref a))) H1 ((noX ρ').set i .un) := e1.noX i _
              refine ⟨F1, ?_⟩
              have q := g.setX (i := i) (x := z) fun l => ⟨a, C, d, rfl, lenσ g l, m, .inl ⟨x1, x2⟩⟩
              rw [List.set_set] at q
              exact q
            · have g : EnvS X.K X.mg (some (a, .ref C, d)) B (upd F1 dx (.xd fv)) (σ1.set i (some (.ref a))) H1 ((noX ρ').set i .un) := (e1.xd x3 x2).noX i _
              refine ⟨upd F1 dx (.xd fv), ?_⟩
              have q := g.setX (i := i) (x := z) fun l => ⟨a, C, d, rfl, lenσ g l, m, .inr ⟨dx, fv, x1, upd_same, x4, x5⟩⟩
              rw [List.set_set] at q
              exact q
          refine ⟨B, F2, _, e2, ?_⟩
          cases hfs : fs ((noX ρ').set i (.exc z)) with
          | nx ρ2 => rw [hfs] at h; exact fun F σ H q => h F _ H (q.noX i none)
          | bk ρ2 => rw [hfs] at h; exact fun F σ H q => h F _ H (q.noX i none)
          | ct ρ2 => rw [hfs] at h; exact fun F σ H q => h F _ H (q.noX i none)
          | rt d2 => rw [hfs] at h; exact h
          | er x2 ρ2 => rw [hfs] at h; exact h.elim
          | st => rw [hfs] at h; exact h.elim
        · subst eb
          exact h F1 σ1 H1 C d e1 m xf

/-! ### e.f, isinstance(e, C) in the suite -/
/-- the caught exception at a slot -/
def excAt (ρ : DEnv) (i : Nat) : Option Exn := match ρ[i]? with
  | some (.exc x) => some x
  | _ => none
def eXf (cs : List Str) (i : Nat) (fl : Str) : DEnv → Res D := fun ρ => match excAt ρ i with
  | some x => if cs.contains x.c = true then match lookD x.ns x.fs fl with
    | some d => .ok d
    | none => .st
    else .st
  | none => .st
theorem excAt_some {ρ : DEnv} {i : Nat} {x : Exn} (h : excAt ρ i = some x) : ρ[i]? = some (.exc x) := by
  unfold excAt at h
  split at h
  · rename_i q; cases h; exact q
  · cases h
theorem RepAll.less0 {K : PySem.W.Frag} {mg : Str → Option Value} {F : Hp} {v : V} {d : D} (r : Rep K mg (fun _ => none) v d) : Rep K mg F v d := r.mono fun _ _ z => by cases z
section
variable {X : Cx} {a : Addr} {oe : Obj} {cls : Value} {d : Option Addr} {pn : List (Addr × Obj)} {W : WX} {fl x : Str} {p pos : Pos}
theorem pd_xf (i : Nat) (cs : List Str) (hc : ∀ c ∈ cs, ∃ C, X.mg c = some (.ref C) ∧ XfC X.K C ∧ PySem.W.findIn X.K (.ref C) fl = some none) (hz : Zc cls d oe) (hf : ∃ vs, oe.data = .fields vs)
    (hN : X.N[i]? = some x := by rfl) (hv : Vis X.env.scope x := by first | exact Or.inl rfl | exact Or.inr (Or.inl rfl) | exact Or.inr (Or.inr rfl)) (hd : (x == ("__debug__" : Str)) = false := by decide) (hcd : (x == ("__classdict__" : Str)) = false := by decide)
    (hb : attributeBase (.Name x p) fl X.env (eval (.Name x p) X.env) = eval (.Name x p) X.env := by rfl) :
    PD (X.suite a ((a, oe) :: pn)) ⟨W, some (a, cls, d)⟩ [i] (.Attribute (.Name x p) fl pos) (eXf cs i fl) := by
  refine ⟨fun pins s σ H Q I ⟨F, ρ, hF, hE, q⟩ => ?_⟩
  unfold eXf at q
  cases hx : excAt ρ i with
  | none => rw [hx] at q; exact q.elim
  | some z =>
    rw [hx] at q
    have q : Out X.K X.mg ⟨W, some (a, cls, d)⟩ (RD X.K X.mg) F H σ Q (if cs.contains z.c = true then match lookD z.ns z.fs fl with
      | some d => .ok d
      | none => .st
      else .st) := q
    by_cases hcc : cs.contains z.c = true
    · rw [if_pos hcc] at q
      obtain ⟨C', hm', T, hno⟩ := hc z.c (by simpa using hcc)
      obtain ⟨a', C, d', e1, e2, e3, e4⟩ := hE.2.2 i (by simp) z (excAt_some hx)
      have e1 : some (a, cls, d) = some (a', .ref C, d') := e1
      injection e1 with e1
      injection e1 with ea e1
      injection e1 with ec ed
      subst ea ec ed
      have e3 : X.mg z.c = some (.ref C) := e3
      rw [hm'] at e3; cases e3
      cases hl : lookD z.ns z.fs fl with
      | none => rw [hl] at q; exact q.elim
      | some dv =>
        rw [hl] at q
        rcases e4 with ⟨n0, _⟩ | ⟨dx, fv, k1, k2, k3, k4⟩
        · rw [n0] at hl
          unfold lookD at hl
          cases hl
        · obtain ⟨w, hw, rw'⟩ := RepAll.look k3 k4 hl
          exact (pe_xf T hno hz hf (pe_var (X := X.suite a ((a, oe) :: pn)) (i := i) hN hv hd hcd) hb).run pins s σ H Q I ⟨.ref a, e2, rfl, rfl, dx, fv, w, k1, hF _ _ k2, hw, q F H w (Ext.refl hF) (RepAll.less0 rw')⟩
    · rw [if_neg hcc] at q; exact q.elim
end
end
/-- isinstance(e, C) of the exception that the suite holds, with or without fields -/
def rIsX (K : PySem.W.Frag) (C a : Addr) (d : Option Addr) : List V → Hp → VK → Prop := fun xs H Q => ∃ (Ct : Addr) (b : Bool), xs = [.ref a, .ref Ct] ∧ PySem.W.kitOne K (.ref C) (.ref Ct) = some b ∧ (d = none ∨ ∃ dx fs, d = some dx ∧ H dx = some (.xd fs)) ∧ Q (.bl b) H
theorem isx_has {K : PySem.W.Frag} {C : Addr} (h : PySem.W.hasDictIn K C = true) : (PySem.W.clsIn K C).isSome = true := by
  obtain ⟨cd, hc, _⟩ := PySem.W.any_some h
  rw [hc]; rfl
theorem call_isX {X : Cx} {a C : Addr} {oe : Obj} {d : Option Addr} {pn : List (Addr × Obj)} (T : ExcC X.K C) (hz : Zc (.ref C) d oe) (hf : ∃ vs, oe.data = .fields vs) : CallR (X.suite a ((a, oe) :: pn)) (.builtin "isinstance") (rIsX X.K C a d) := by
  intro pins s σ H xs us Q I r h
  obtain ⟨Ct, b, rfl, e, hd, q⟩ := h
  cases r with
  | cons rx rr =>
    cases rr with
    | cons rt rr =>
      cases rr
      cases rx
      cases rt
      obtain ⟨hget, _⟩ := I.pin (a, oe) (List.mem_append.mpr (.inl List.mem_cons_self))
      obtain ⟨vs, hv⟩ := hf
      have nc : PySem.W.notCls oe := by unfold PySem.W.notCls; rw [hv] <;> rfl
      have J : ∃ od, PySem.W.InstAt s.heap a oe C od := by
        rcases hd with hd | ⟨dx, fs, hd, hx⟩
        · subst hd
          refine ⟨none, hget, hz.1, nc, ?_⟩
          rw [hz.2]
          exact trivial
        · subst hd
          have hx : ObjOk X.prog X.w H s.heap dx (.xd fs) := I.hok dx _ hx
          obtain ⟨mA, hns, hr⟩ := hx
          obtain ⟨od, ho, hl⟩ := lookIn_ns hns
          refine ⟨some od, hget, hz.1, nc, ?_⟩
          rw [hz.2]
          exact ho
      obtain ⟨od, J⟩ := J
      exact PySem.W.kia_one (PySem.W.kitx_exc (isx_has T.hd) T.hg T.hk T.hs T.ha T.hn T.ht T.hm) I.kIn J e (fun z => nomatch z) fun tk => ⟨.bl b, H, I.kept (t' := tk) fun _ _ z => z, rfl, q⟩
def eIsX (i : Nat) (cs : Str → Option Bool) : DEnv → Res D := fun ρ => match excAt ρ i with
  | some x => match cs x.c with
    | some b => .ok (.bl b)
    | none => .st
  | none => .st
section
variable {X : Cx} {a Ct : Addr} {oe : Obj} {cls : Value} {d : Option Addr} {pn : List (Addr × Obj)} {W : WX} {x y : Str} {p p1 p2 pos : Pos}
theorem pd_isx (i : Nat) (cs : Str → Option Bool) (hc : ∀ c b, cs c = some b → ∀ C, X.mg c = some (.ref C) → ExcC X.K C ∧ PySem.W.kitOne X.K (.ref C) (.ref Ct) = some b) (hz : Zc cls d oe) (hf : ∃ vs, oe.data = .fields vs) (hm : X.mg "isinstance" = none) (hmt : X.mg y = some (.ref Ct))
    (hN : X.N[i]? = some x := by rfl) (hv : Vis X.env.scope x := by first | exact Or.inl rfl | exact Or.inr (Or.inl rfl) | exact Or.inr (Or.inr rfl)) (hd : (x == ("__debug__" : Str)) = false := by decide) (hcd : (x == ("__classdict__" : Str)) = false := by decide)
    (hg : Gl X "isinstance" := by rfl) (hgt : Gl X y := by rfl) (hdy : (y == ("__debug__" : Str)) = false := by decide)
    (hs1 : starEach [.Name x p1, .Name y p2] X.env = (false, eval (.Name x p1) X.env) :: starEach [.Name y p2] X.env := by rfl) (hs2 : starEach [.Name y p2] X.env = (false, eval (.Name y p2) X.env) :: starEach [] X.env := by rfl) (hpl : (backTo pos (starEach [.Name y p2] X.env)).any (·.1) = false := by rfl) :
    PD (X.suite a ((a, oe) :: pn)) ⟨W, some (a, cls, d)⟩ [i] (.Call (.Name "isinstance" p) [.Name x p1, .Name y p2] [] pos) (eIsX i cs) := by
  refine ⟨fun pins s σ H Q I ⟨F, ρ, hF, hE, q⟩ => ?_⟩
  unfold eIsX at q
  cases hx : excAt ρ i with
  | none => rw [hx] at q; exact q.elim
  | some z =>
    rw [hx] at q
    have q : Out X.K X.mg ⟨W, some (a, cls, d)⟩ (RD X.K X.mg) F H σ Q (match cs z.c with
      | some b => .ok (.bl b)
      | none => .st) := q
    cases hb : cs z.c with
    | none => rw [hb] at q; exact q.elim
    | some b =>
      rw [hb] at q
      obtain ⟨a', C, d', e1, e2, e3, e4⟩ := hE.2.2 i (by simp) z (excAt_some hx)
      have e1 : some (a, cls, d) = some (a', .ref C, d') := e1
      injection e1 with e1
      injection e1 with ea e1
      injection e1 with ec ed
      subst ea ec ed
      obtain ⟨T, hk⟩ := hc z.c b hb C e3
      have P : PE (X.suite a ((a, oe) :: pn)) (.Call (.Name "isinstance" p) [.Name x p1, .Name y p2] [] pos) (tCB (rIsX X.K C a d) (tCons (tVar i) (tCons (tC (.ref Ct)) tNil))) :=
        pe_callB (X := X.suite a ((a, oe) :: pn)) (call_isX T hz hf) hg hm (by decide +kernel) (pa_cons (pe_var hN hv hd hcd) (pa_cons (pe_glob (v := .ref Ct) hgt hmt rfl hdy) pa_nil hs2) hs1) (by decide) (by decide) hs1 hpl
      refine P.run pins s σ H Q I ⟨.ref a, e2, Ct, b, rfl, hk, ?_, q F H _ (Ext.refl hF) (.bl b)⟩
      rcases e4 with ⟨_, n0⟩ | ⟨dx, fv, k1, k2, _⟩
      · exact .inl n0
      · exact .inr ⟨dx, fv, k1, hF _ _ k2⟩
end
end DL
set_option Elab.async false
set_option linter.all false
set_option maxRecDepth 100000
set_option maxHeartbeats 1000000
/-! DL15: defs that call themselves. -/
namespace DL
open PySem PySem.Spec PyProof.Rows L2
/-- no turn is left: nothing is promised -/
def mNo : List D → Res D := fun _ => .st
theorem fnd_no {P : Program} {w : World} {K : PySem.W.Frag} {mg : Str → Option Value} {base : Heap} {k : Nat} {f : Addr} {fd : FuncData} {ps : List Str} {fr : Bool} : FnD P w K mg base k f fd ps fr mNo :=
  ⟨fun vs H Q E h => h.1, fun A outer s H args us vs Q E hr e0 hb r h => by
    obtain ⟨_, F, ds, _, _, q⟩ := h
    exact q.elim⟩
end DL
set_option Elab.async false
set_option linter.all false
set_option maxRecDepth 100000
set_option maxHeartbeats 1000000
/-! DL16: methods of own instances. -/
namespace DL
open PySem PySem.Spec PyProof.Rows L2
def tMethD (C : Addr) (m : Str) (sp : Sp) (E : L2.St → XK) (ta : TE) (t : TA) : TE := fun σ H Q => ta σ H fun x H1 => ∃ a dx fs, x = .ref a ∧ H1 a = some (.ins C dx fs) ∧ fs.lookup m = none ∧
  t σ H1 fun vs H2 => sp (x :: vs) H2 Q (E σ)
section
variable {X : Cx} {CX : CXT} {k : Nat} {f C : Addr} {fd : FuncData} {ps : List Str} {sp : Sp} {E : L2.St → XK} {m : Str} {pos apos : Pos} {e o : PySem.Expr} {es : List PySem.Expr} {ta : TE} {t : TA} {pl : Sem Bool}
theorem pe_methD (he : PE X o ta) (c : Cls X.K C) (hm : Meth X.K C m f) (F : FnOk X.prog X.w X.K X.mg X.base CX k f fd ps sp) (hr : Room k X.A) (hb : Binds X.K fd ps []) (hx : ∀ σ, PassesAt CX X σ (E σ)) (ha : PA X (e :: es) t)
    (hst : starEach (e :: es) X.env = (false, eval e X.env) :: starEach es X.env) (hpl : (backTo pos (starEach es X.env)).any (·.1) = false)
    (ht : eval (.Call (.Attribute o m apos) (e :: es) [] pos) X.env = (do
      let ov ← eval o X.env
      standAt apos.atName
      let (f, first) ← holding [ov] (getMethod ov m pl)
      callWith pos f first (backTo pos (starEach (e :: es) X.env)) (backToKw pos (keywordEach [] X.env)))) : PE X (.Call (.Attribute o m apos) (e :: es) [] pos) (tMethD C m sp E ta t) :=
  ⟨fun pins s σ H Q I h => PySem.W.methodCall_KW (pl := pl) (thn (he.run pins s σ H _ I h) fun u s1 ⟨x, H1, I1, rx, a, dx, fs, ex, ea, l, q⟩ => by
    subst ex
    cases rx
    exact getmeth_ok I1 ea c hm l (PySem.W.callWith_K (first := [.ref a]) (h₀ := X.base) I.ok.mod.kin hm.kp (thn (ha.run pos pins s1 σ H1 _ I1 q) fun us s2 ⟨vs, H2, I2, r, q2⟩ => ⟨I2.kIn, run_fnS (us := .ref a :: us) (vs := .ref a :: vs) F hr hb (hx σ) I2 (.cons rfl r) q2⟩) hst hpl)) ht⟩
theorem pe_methD0 (he : PE X o ta) (c : Cls X.K C) (hm : Meth X.K C m f) (F : FnOk X.prog X.w X.K X.mg X.base CX k f fd ps sp) (hr : Room k X.A) (hb : Binds X.K fd ps []) (hx : ∀ σ, PassesAt CX X σ (E σ))
    (ht : eval (.Call (.Attribute o m apos) [] [] pos) X.env = (do
      let ov ← eval o X.env
      standAt apos.atName
      let (f, first) ← holding [ov] (getMethod ov m pl)
      callWith pos f first (backTo pos (starEach [] X.env)) (backToKw pos (keywordEach [] X.env)))) : PE X (.Call (.Attribute o m apos) [] [] pos) (tMethD C m sp E ta tNil) :=
  ⟨fun pins s σ H Q I h => PySem.W.methodCall_KW (pl := pl) (thn (he.run pins s σ H _ I h) fun u s1 ⟨x, H1, I1, rx, a, dx, fs, ex, ea, l, q⟩ => by
    subst ex
    cases rx
    exact getmeth_ok I1 ea c hm l (PySem.W.callWith_K0 (first := [.ref a]) I1.kIn hm.kp (run_fnS (us := [.ref a]) (vs := [.ref a]) F hr hb (hx σ) I1 (.cons rfl .nil) q))) ht⟩
end
/-- an instance of c without a field m -/
def isM (c m : Str) : D → Bool
  | .obj c' ns _ => decide (c' = c) && !ns.contains m
  | _ => false
/-- o.m(..), o of the class c -/
def eMth {β : Type} (c m : Str) (mm : List D → Res β) (f : DEnv → Res D) (g : DEnv → Res (List D)) : DEnv → Res β := fun ρ => (f ρ).bind fun x => if isM c m x = true then (g ρ).bind fun xs => mm (x :: xs) else .st
theorem lookup_not {m : Str} : ∀ {fv : List (Str × V)}, (fv.map (·.1)).contains m = false → fv.lookup m = none
  | [], _ => rfl
  | (n, v) :: fv, h => by
    rw [List.map_cons, List.contains_cons, Bool.or_eq_false_iff] at h
    show (match m == n with | true => some v | false => fv.lookup m) = none
    rw [h.1]
    exact lookup_not h.2
section
variable {X : Cx} {We : WeX} {Sa Sb : List Nat} {k j : Nat} {fa C : Addr} {fd : FuncData} {ps : List Str} {mm : List D → Res D} {c m : Str} {apos pos : Pos} {o e : PySem.Expr} {es : List PySem.Expr} {f : DEnv → Res D} {g : DEnv → Res (List D)} {fl : List Str} {pl : Sem Bool}
theorem isM_at {F H : Hp} {v : V} {x : D} (cd : ClD X.K X.mg c C fl) (hF : Same F H) (rx : Rep X.K X.mg F v x) (h : isM c m x = true) : ∃ a dx fv, v = .ref a ∧ H a = some (.ins C dx fv) ∧ fv.lookup m = none := by
  cases x <;> try (cases h; done)
  rename_i c' ns fs
  have h : (decide (c' = c) && !ns.contains m) = true := h
  rw [Bool.and_eq_true, decide_eq_true_eq, Bool.not_eq_true'] at h
  obtain ⟨rfl, hn⟩ := h
  cases rx with
  | obj g ha n r =>
    rw [cd.gl] at g; cases g
    exact ⟨_, _, _, rfl, hF _ _ ha, lookup_not (by rw [n]; exact hn)⟩
theorem out_if {K : PySem.W.Frag} {mg : Str → Option Value} {α β : Type} {R : Hp → Hp → Hp → α → β → Prop} {F H : Hp} {σ : L2.St} {Q : α → Hp → Prop} {b : Bool} {r : Res β} (h : Out K mg We R F H σ Q (if b = true then r else .st)) : b = true ∧ Out K mg We R F H σ Q r := by
  cases b with
  | true => rw [if_pos rfl] at h; exact ⟨rfl, h⟩
  | false => rw [if_neg Bool.false_ne_true] at h; exact h.elim
/-- a def that gives a new list, as RR wants it -/
theorem out_asL {F H : Hp} {σ : L2.St} {Q : VK} {r : Res D} (h : Out X.K X.mg We (RF X.K X.mg) F H σ Q (r.bind asL)) : Out X.K X.mg We (RR X.K X.mg true) F H σ Q r := by
  cases r with
  | ok d =>
    intro F' H' v ex r'
    obtain ⟨xs, rfl, r'⟩ := r'
    exact h F' H' v ex r'
  | er x => exact h
  | st => exact h
theorem pd_meth (tk : Takes X We) (hr : Room k X.A) (hjk : j ≤ k) (cd : ClD X.K X.mg c C fl) (hm : Meth X.K C m fa) (F : FnD X.prog X.w X.K X.mg X.base j fa fd ps false mm) (hb : Binds X.K fd ps []) (ho : PD X We Sa o f) (ha : PAD X We Sb (e :: es) g)
    (hst : starEach (e :: es) X.env = (false, eval e X.env) :: starEach es X.env := by rfl) (hpl : (backTo pos (starEach es X.env)).any (·.1) = false := by rfl)
    (ht : eval (.Call (.Attribute o m apos) (e :: es) [] pos) X.env = (do
      let ov ← eval o X.env
      standAt apos.atName
      let (f, first) ← holding [ov] (getMethod ov m pl)
      callWith pos f first (backTo pos (starEach (e :: es) X.env)) (backToKw pos (keywordEach [] X.env))) := by rfl) :
    PD X We (Sa ++ Sb) (.Call (.Attribute o m apos) (e :: es) [] pos) (eMth c m (callN ps.length mm) f g) :=
  pe_imp (pe_methD ho cd.cl hm F (hr.mono hjk) hb (fun σ => passAt tk σ) ha hst hpl ht) fun σ H Q ⟨F, ρ, hF, hE, q⟩ => ⟨F, ρ, hF, hE.l, Out.bind q fun x F1 H1 v ex rx q1 => by
    obtain ⟨z, q1⟩ := out_if q1
    obtain ⟨a, dx, fv, rfl, ha, hl⟩ := isM_at cd ex.2.1 rx z
    exact ⟨a, dx, fv, rfl, ha, hl, F1, ρ, ex.2.1, hE.r.mono ex.1, Out.bind q1 fun xs F2 H2 vs ey ry q2 => callN_out (fr := false) ey.2.1 (.cons (rx.mono ey.1) ry) q2⟩⟩
theorem pf_meth (tk : Takes X We) (hr : Room k X.A) (hjk : j ≤ k) (cd : ClD X.K X.mg c C fl) (hm : Meth X.K C m fa) (F : FnD X.prog X.w X.K X.mg X.base j fa fd ps true mm) (hb : Binds X.K fd ps []) (ho : PD X We Sa o f) (ha : PAD X We Sb (e :: es) g)
    (hst : starEach (e :: es) X.env = (false, eval e X.env) :: starEach es X.env := by rfl) (hpl : (backTo pos (starEach es X.env)).any (·.1) = false := by rfl)
    (ht : eval (.Call (.Attribute o m apos) (e :: es) [] pos) X.env = (do
      let ov ← eval o X.env
      standAt apos.atName
      let (f, first) ← holding [ov] (getMethod ov m pl)
      callWith pos f first (backTo pos (starEach (e :: es) X.env)) (backToKw pos (keywordEach [] X.env))) := by rfl) :
    PF X We (Sa ++ Sb) (.Call (.Attribute o m apos) (e :: es) [] pos) (eMth c m (callF ps.length mm) f g) :=
  pe_imp (pe_methD ho cd.cl hm F (hr.mono hjk) hb (fun σ => passAt tk σ) ha hst hpl ht) fun σ H Q ⟨F, ρ, hF, hE, q⟩ => ⟨F, ρ, hF, hE.l, Out.bind q fun x F1 H1 v ex rx q1 => by
    obtain ⟨z, q1⟩ := out_if q1
    obtain ⟨a, dx, fv, rfl, ha, hl⟩ := isM_at cd ex.2.1 rx z
    exact ⟨a, dx, fv, rfl, ha, hl, F1, ρ, ex.2.1, hE.r.mono ex.1, Out.bind q1 fun xs F2 H2 vs ey ry q2 => callN_out (fr := true) ey.2.1 (.cons (rx.mono ey.1) ry) (out_asL q2)⟩⟩
theorem pd_meth0 (tk : Takes X We) (hr : Room k X.A) (hjk : j ≤ k) (cd : ClD X.K X.mg c C fl) (hm : Meth X.K C m fa) (F : FnD X.prog X.w X.K X.mg X.base j fa fd ps false mm) (hb : Binds X.K fd ps []) (ho : PD X We Sa o f)
    (ht : eval (.Call (.Attribute o m apos) [] [] pos) X.env = (do
      let ov ← eval o X.env
      standAt apos.atName
      let (f, first) ← holding [ov] (getMethod ov m pl)
      callWith pos f first (backTo pos (starEach [] X.env)) (backToKw pos (keywordEach [] X.env))) := by rfl) :
    PD X We Sa (.Call (.Attribute o m apos) [] [] pos) (eMth c m (callN ps.length mm) f eNil) :=
  pe_imp (pe_methD0 ho cd.cl hm F (hr.mono hjk) hb (fun σ => passAt tk σ) ht) fun σ H Q ⟨F, ρ, hF, hE, q⟩ => ⟨F, ρ, hF, hE, Out.bind q fun x F1 H1 v ex rx q1 => by
    obtain ⟨z, q1⟩ := out_if q1
    obtain ⟨a, dx, fv, rfl, ha, hl⟩ := isM_at cd ex.2.1 rx z
    exact ⟨a, dx, fv, rfl, ha, hl, callN_out (fr := false) ex.2.1 (.cons rx .nil) q1⟩⟩
theorem pf_meth0 (tk : Takes X We) (hr : Room k X.A) (hjk : j ≤ k) (cd : ClD X.K X.mg c C fl) (hm : Meth X.K C m fa) (F : FnD X.prog X.w X.K X.mg X.base j fa fd ps true mm) (hb : Binds X.K fd ps []) (ho : PD X We Sa o f)
    (ht : eval (.Call (.Attribute o m apos) [] [] pos) X.env = (do
      let ov ← eval o X.env
      standAt apos.atName
      let (f, first) ← holding [ov] (getMethod ov m pl)
      callWith pos f first (backTo pos (starEach [] X.env)) (backToKw pos (keywordEach [] X.env))) := by rfl) :
    PF X We Sa (.Call (.Attribute o m apos) [] [] pos) (eMth c m (callF ps.length mm) f eNil) :=
  pe_imp (pe_methD0 ho cd.cl hm F (hr.mono hjk) hb (fun σ => passAt tk σ) ht) fun σ H Q ⟨F, ρ, hF, hE, q⟩ => ⟨F, ρ, hF, hE, Out.bind q fun x F1 H1 v ex rx q1 => by
    obtain ⟨z, q1⟩ := out_if q1
    obtain ⟨a, dx, fv, rfl, ha, hl⟩ := isM_at cd ex.2.1 rx z
    exact ⟨a, dx, fv, rfl, ha, hl, callN_out (fr := true) ex.2.1 (.cons rx .nil) (out_asL q1)⟩⟩
end
end DL
set_option Elab.async false
set_option linter.all false
set_option maxRecDepth 100000
set_option maxHeartbeats 4000000
/-! DL17: own exceptions whose __init__ says super().__init__('..'). -/
namespace DL
open PySem PySem.Spec PyProof.Rows L2 NdefX
/-- the code object at c names the file -/
def fileIn (K : PySem.W.Frag) (c : Addr) (file : Str) : Bool := match K.lookup c with
  | some ⟨_, _, .fields vs, _⟩ => (match (vs : Array Value)[2]? with | some (Value.str n _) => n == file | _ => false)
  | _ => false
theorem fileIn_of {K : PySem.W.Frag} {h : Heap} {c : Addr} {file : Str} (X : K.In h) (q : fileIn K c file = true) : ∃ oc vs n t, h.get? c = some oc ∧ oc.data = .fields vs ∧ vs[2]? = some (.str n t) ∧ n = file := by
  unfold fileIn at q
  split at q
  · rename_i a b vs d ho
    split at q
    · rename_i n t hv
      exact ⟨_, vs, n, t, X _ _ ho, rfl, hv, by simpa using q⟩
    · cases q
  · cases q
section
variable {prog : Program} {w : World} {A : Around} {E : Value → Shared → Prop} {h : Heap} {g : Array GenState} {d : Drawn} {t : Nat} {os : OsState}
variable {nm q : Str} {C N : Addr} {bs bm : List Value} {hdct : Bool} {sn : List Str} {sub : List Value} {ab : Bool} {col : Option Bool} {dd : Option Addr} {k0 k1 k2 k3 k5 : Option Value}
theorem call_vw {u e t0 : Addr} {rest : List Value} {Q : Value → Shared → Prop}
    (hC : h.get? C = some (excClassObj nm q C N bs bm hdct sn sub ab col dd k0 k1 k2 k3 k5 "ValueError.__new__")) (he : h.get? e = some (HandSPX.excO C t0)) (hu : h.get? u = some (PySem.W.kxs_mw "ValueError.__init__" e)) (hrest : rest.length ≤ sizeLine)
    (hq : ∀ h' t1, (∀ b o, b ≠ e → h.get? b = some o → h'.get? b = some o) → h'.get? e = some (HandSPX.excO C t1) → Q .none ⟨h', g, d, t, os⟩) :
    wpAny (model prog w) A (call (.ref u) rest) Q E ⟨h, g, d, t, os⟩ := by
  refine wpAny_call (codeAny_of_tree ?_)
  show wpAny _ A.in1 (callAny (.ref u) ⟨rest, []⟩) _ _ _
  simp only [callAny]
  refine wpAny_bind (wpAny_load hu ?_)
  simp only [PySem.W.kxs_mw, show (Value.type "method-wrapper" == Value.type "method" || Value.type "method-wrapper" == Value.type "builtin_function_or_method" || Value.type "method-wrapper" == Value.type "method-wrapper") = true by decide, if_true]
  refine W.KFB.if_so (by decide) ?_
  refine wpAny_bind (ESX.check_bound F.excBase_ValueError hC he rfl ?_)
  refine wpAny_bind (wpAny_pure (wpAny_pure ?_))
  refine ⟨Code.quiet_builtin _ (by decide +kernel), codeAny_builtin F.excBase_ValueError.initEntry ?_⟩
  rw [Around.under_plainId F.excBase_ValueError.init.plain _]
  wp_walk
  refine hq _ h.objs.size (fun b o hb ho => ?_) ?_
  · rw [Heap.get?_update_other _ _ (Ne.symm hb)]
    exact Heap.get?_push_of_some _ ho
  · rw [Heap.get?_update_self _ (Heap.get?_push_of_some _ he) rfl]
    rfl
end
section
variable {M : Model} {A : Around} {E : Value → Shared → Prop} {s : Shared}
theorem callWith_vw {pos : Pos} {u x : Addr} {env : Env} {e : PySem.Expr} {rest : List PySem.Expr} {Q : Value → Shared → Prop}
    (h : wpAny M A (spliced (backTo pos (starEach (e :: rest) env))) (fun vs s₁ => s₁.heap.get? u = some (PySem.W.kxs_mw "ValueError.__init__" x) ∧ wpAny M A (call (.ref u) vs) Q E s₁) E s)
    (he : starEach (e :: rest) env = (false, eval e env) :: starEach rest env := by rfl) (hplain : (backTo pos (starEach rest env)).any (·.1) = false := by rfl) :
    wpAny M A (callWith pos (.ref u) [] (backTo pos (starEach (e :: rest) env)) []) Q E s := by
  rw [he] at h ⊢
  refine PySem.W.kxs_callWith (i := "ValueError.__init__") (x := x) (by show (false || (backTo pos (starEach rest env)).any (·.1)) = false; rw [hplain]; rfl) ?_
  exact PySem.Calls.evalArgs_plain h
end
section
variable {X : Cx} {pins : List (Addr × Obj)} {σ : L2.St} {H : Hp} {s : Shared} {f a C cda cc : Addr} {fd : FuncData} {ar : Arg} {oc ccl : Value} {od cld : Option Addr} {osl csl : Array (Option Value)}
theorem wp_superInit {body : List Stmt} {m : Str} {j : Nat} {p0 p1 p2 p3 p4 p5 : Pos} {pl : Sem Bool} (I : Inv X pins σ H s) (hf : X.K.lookup f = some ⟨oc, od, .func fd, osl⟩) (hfu : X.env.func = some f) (hp : (fd.params.posonlyargs ++ fd.params.args).head? = some ar)
    (hcode : X.env.code = .ref cda) (hfile : fileIn X.K cda X.prog.main.file = true) (hcl : X.env.cells.lookup ("__class__" : Str) = some cc) (hcell : X.K.lookup cc = some ⟨ccl, cld, .cell (some (.ref C)), csl⟩) (T : OexC X.K C)
    (hsub : PySem.W.mroIn X.K C (.ref C) = some true) (hsuper : X.mg "super" = none) (hks : X.env.scope.names.lookup ("super" : Str) = some .globalImplicit) (hkc : X.env.scope.names.lookup ("__class__" : Str) = some .free) (hka : X.env.scope.names.lookup ar.arg = some .local)
    (htop : (X.prog.main.scope.names.lookup ("super" : Str)).isSome = false) (hth : PySem.W.nsIn X.K cStatics "thirdparty.any" = some none) (hsi : PySem.W.ks_superIn X.K C C "__init__" = some (some (.builtin "ValueError.__init__")))
    (hsB : PySem.W.subIn X.K (.ref C) (.type "ValueError") = some true) (hN : X.N[0]? = some ar.arg) (hσ : σ[0]? = some (some (.ref a))) (ea : H a = some (exo a C none))
    (hi : interactive X.env = false := by rfl)
    (hsw : swapsWith (.Call (.Attribute (.Call (.Name "super" p0) [] [] p1) "__init__" p2) [.Constant (.str m) j p3] [] p4) none p5.line X.env = pure false := by rfl)
    (he : eval (.Call (.Attribute (.Call (.Name "super" p0) [] [] p1) "__init__" p2) [.Constant (.str m) j p3] [] p4) X.env = (do
      let ov ← attributeBase (.Call (.Name "super" p0) [] [] p1) "__init__" X.env (eval (.Call (.Name "super" p0) [] [] p1) X.env)
      standAt p2.atName
      let (f, first) ← holding [ov] (getMethod ov "__init__" pl)
      callWith p4 f first (backTo p4 (starEach [.Constant (.str m) j p3] X.env)) []) := by rfl)
    (hse : starEach [.Constant (.str m) j p3] X.env = (false, eval (.Constant (.str m) j p3) X.env) :: starEach [] X.env := by rfl) :
    _root_.PySem.wpAt (model X.prog X.w) X.A (.func body X.env) (exec (.Expr (.Call (.Attribute (.Call (.Name "super" p0) [] [] p1) "__init__" p2) [.Constant (.str m) j p3] [] p4) p5) X.env) (fun fl s' => fl = .next ∧ Inv X pins σ H s') X.xe s := by
  have XK := I.kIn
  obtain ⟨nm, q, N, bs, bm, sn, sub, ab, col, dd, k0, k1, k2, k3, k5, hC, hbm⟩ := T.cls
  have hcls : PySem.W.clsIn X.K C = some { name := nm, bases := bs, mro := .ref C :: bm, ns := N, qualname := q, hasDict := true, slotNames := sn, subclasses := sub, abstract := ab, collection := col, hasDel := false } := by unfold PySem.W.clsIn; rw [hC] <;> rfl
  obtain ⟨occ, vs, n, tf, hoc, hdc, hvs, hn⟩ := fileIn_of XK hfile
  obtain ⟨t1, ho⟩ := exo_at I.hok ea
  obtain ⟨ml, hns, hloc⟩ := id I.loc
  obtain ⟨u, ru, hlk⟩ := hloc 0 ar.arg (.ref a) hN hσ (.inl hka)
  obtain rfl : u = Value.ref a := ru
  have hml : ml ar.arg = some (.ref a) := by
    rcases hlk with ⟨_, z⟩ | ⟨z, _⟩
    · exact z
    · have z : X.env.scope.names.lookup ar.arg = some .cell ∨ X.env.scope.names.lookup ar.arg = some .free := z
      rw [hka] at z
      rcases z with z | z <;> cases z
  refine ks_wpAt_Expr_any ?_ hi hsw
  refine ks_wpAt_MethodCall (pl := pl) ?_ he
  refine ks_wpAt_super_base hks hkc (by decide) hfu (XK _ _ hf) rfl hp hcode hoc hdc hvs (by rw [hn]; exact beq_self_eq_true _) htop ?_
  obtain ⟨mb, b1, b2⟩ := I.mod.blt
  refine PySem.W.ks_loadName_global I.ok.kind hks (Calls.loadGlobal_builtin (by rw [I.ok.glob]; exact I.mod.glob.keeps I.bk) hsuper (by rw [I.ok.blt]; exact b1.keeps I.bk) ((b2 "super" (by decide)).trans (show bootBuiltins "super" = some (.type "super") by decide +kernel)) ⟨rfl, ?_⟩)
  refine wpAny_loadName_free I.ok.kind hkc hcl ⟨_, XK _ _ hcell, rfl⟩ ?_
  refine wpAny_loadName_local I.ok.kind hka hns hml ?_
  refine ks_wpAny_isType_cls (XK _ _ hC) rfl ⟨rfl, ?_⟩
  obtain ⟨hp', g, d, t, os⟩ := s
  refine ks_wpAny_call_super (XK _ _ hC) rfl ho rfl (fun c z => by cases z) (PySem.W.looks_mroIn XK hsub) (fun h1 e1 kp1 => ?_)
  have I1 : Inv X pins σ H ⟨h1, g, d, t, os⟩ := I.kept (t' := t) kp1
  have XK1 := I1.kIn
  have hI : PySem.W.Looks (model X.prog X.w) h1 (isInstance (.ref a) (.type "ValueError")) true := (PySem.W.InstAt.type (C := C) (ox := { cls := .ref C, dict := none, data := .fields #[.ref t1, .none, .none, .none, .bool false, .none] }) (od := none) ⟨kp1 _ _ ho, rfl, rfl, trivial⟩).andThen (PySem.W.looks_subIn XK1 hsB)
  have hne : a ≠ C := fun z => by
    have h2 := XK _ _ hC
    rw [← z] at h2
    have ho' : hp'.get? a = _ := ho
    rw [h2] at ho'
    cases ho'
  have hal : PySem.W.alongIn X.K "__init__" (((Value.ref C :: bm).dropWhile (· != .ref C)).drop 1) = some (some (.builtin "ValueError.__init__")) := by
    unfold PySem.W.ks_superIn at hsi
    rw [hcls] at hsi
    exact hsi
  refine PySem.W.kxs_getMethod PySem.W.kxs_ValueError e1 (PySem.W.looks_opaque XK1 hth) (l₀ := .ref C :: bm) ((PySem.W.looks_clsIn XK1 hcls).andThen .now) rfl XK1 hal hI hne (by decide) ?_
  have I2 : Inv X pins σ H ⟨h1.push (PySem.W.kxs_mw "ValueError.__init__" a), g, d, t + 1, os⟩ := I1.kept (t' := t + 1) fun b o z => Heap.get?_push_of_some _ z
  have hu2 : (h1.push (PySem.W.kxs_mw "ValueError.__init__" a)).get? h1.objs.size = some (PySem.W.kxs_mw "ValueError.__init__" a) := Heap.get?_push_at rfl rfl
  show wpAny _ _ (callWith p4 (.ref h1.objs.size) [] (backTo p4 (starEach [.Constant (.str m) j p3] X.env)) []) _ _ _
  refine callWith_vw (x := a) ?_ hse rfl
  have ha : PA X [.Constant (.str m) j p3] (tCons (tC (.str m)) tNil) := pa_cons pe_str pa_nil
  have I3 := I2.pins_of (pins' := (h1.objs.size, PySem.W.kxs_mw "ValueError.__init__" a) :: pins) fun p hp => by
    rcases List.mem_cons.mp hp with rfl | hp
    · exact ⟨hu2, I1.hok.fresh (Nat.le_refl _), fun z => Nat.ne_of_lt I1.lt z.symm, I1.nofs (Nat.le_refl _), fun v z => by cases z⟩
    · exact I2.pin p (List.mem_append_right _ hp)
  refine wpAny_mono (ha.run p4 _ _ σ H (fun vs H1 => vs = [V.str m] ∧ H = H1) I3 ⟨rfl, rfl⟩) (fun us s2 hh => ?_) fun _ _ z => z
  obtain ⟨vs2, H1, J, r1, ev, eH⟩ := hh
  subst ev
  subst eH
  have hu3 := (J.pin (h1.objs.size, PySem.W.kxs_mw "ValueError.__init__" a) (List.mem_append_right _ (List.mem_cons_self ..))).1
  obtain ⟨t2, ho2⟩ := exo_at J.hok ea
  have hlen : us.length ≤ sizeLine := by
    rw [← r1.length, sizeLine_eq]
    exact (by decide : (1:Nat) ≤ 16777216)
  obtain ⟨hp3, g3, d3, t3, os3⟩ := s2
  refine ⟨hu3, call_vw (J.kIn _ _ hC) ho2 hu3 hlen fun h' t2 k hx => ⟨rfl, ?_⟩⟩
  have J1 := J.write (t' := t3) (x := a) (e := a) (o := exo a C none) (by rw [ea]; exact True.intro) (.inl rfl) k ⟨_, hx⟩ (exo_ok hx)
  have eu : upd H a (exo a C none) = H := by
    funext b
    by_cases hb : b = a
    · rw [hb, upd_same, ea]
    · rw [upd_ne hb]
  rw [eu] at J1
  exact J1.pins_of fun p hp => J1.pin p (List.mem_append_right _ (List.mem_cons_of_mem _ hp))
end
end DL
set_option Elab.async false
set_option linter.all false
set_option maxRecDepth 100000
set_option maxHeartbeats 4000000
/-! DL18: such an __init__ as a function, and the raise. -/
namespace DL
open PySem PySem.Spec PyProof.Rows L2 NdefX
structure FunX (K : PySem.W.Frag) (qual : Str) (st : Stmt) (file : Str) (C f : Addr) (fd : FuncData) : Prop where
  ex : ∃ (oc : Value) (od : Option Addr) (osl : Array (Option Value)) (doc pm ct : Value) (cda cc : Addr) (ccl : Value) (cld : Option Addr) (csl : Array (Option Value)),
    fd = PySem.W.fnX "__init__" qual (defArgs st) (defBody st) (defScope st) [("__class__", cc)] .none .none doc pm none (.ref cda) ct ∧ K.lookup f = some ⟨oc, od, .func fd, osl⟩ ∧ PySem.W.codeIn K (.ref cda) qual = true ∧ fileIn K cda file = true ∧
    K.lookup cc = some ⟨ccl, cld, .cell (some (.ref C)), csl⟩
  T : OexC K C
  sub : PySem.W.mroIn K C (.ref C) = some true
  th : PySem.W.nsIn K cStatics "thirdparty.any" = some none
  si : PySem.W.ks_superIn K C C "__init__" = some (some (.builtin "ValueError.__init__"))
  sB : PySem.W.subIn K (.ref C) (.type "ValueError") = some true
  iC : PySem.W.findIn K (.ref C) "__init__" = some (some (.ref f))
  tI : PySem.W.typeIn K (.ref f) = some (.type "function")
abbrev superS (m : Str) (j : Nat) (p0 p1 p2 p3 p4 p5 : Pos) : Stmt := .Expr (.Call (.Attribute (.Call (.Name "super" p0) [] [] p1) "__init__" p2) [.Constant (.str m) j p3] [] p4) p5
/-- the exception at a gets the fields fl -/
def spEx (C : Addr) (fl : List Str) : Sp := fun vs H Q E => ∃ (a : Addr) (ws : List V), vs = .ref a :: ws ∧ ws.length = fl.length ∧ H a = some (exo a C none) ∧
  ∀ (d : Addr) (H2 : Hp), H d = none → d ≠ a → H2 a = some (exo a C (some d)) → H2 d = some (exd d (fl.zip ws).reverse) → (∀ b, b ≠ a → b ≠ d → H2 b = H b) → Q .non H2
section
variable {P : Program} {w : World} {K : PySem.W.Frag} {mg : Str → Option Value} {base : Heap} {qual m : Str} {st : Stmt} {C f : Addr} {fd : FuncData} {N ps fl : List Str} {k j : Nat} {rest : List Stmt} {t : TS} {ar : Arg} {p0 p1 p2 p3 p4 p5 : Pos} {pl : Sem Bool}
theorem fnx_of (F : FunX K qual st P.main.file C f fd) (S : NScope N ps ["__class__"] (defScope st)) (hb0 : defBody st = superS m j p0 p1 p2 p3 p4 p5 :: rest) (hh : ((defArgs st).posonlyargs ++ (defArgs st).args).head? = some ar) (hps : N[0]? = some ar.arg) (hlen : ps.length = fl.length + 1)
    (hsuper : mg "super" = none) (hks : (defScope st).names.lookup ("super" : Str) = some .globalImplicit) (hka : (defScope st).names.lookup ar.arg = some .local) (htop : (P.main.scope.names.lookup ("super" : Str)).isSome = false)
    (hi : ∀ (L cda cc : Addr), interactive (PySem.W.envX qual (defScope st) L f (.ref cda) [("__class__", cc)]) = false)
    (hsw : ∀ (L cda cc : Addr), swapsWith (.Call (.Attribute (.Call (.Name "super" p0) [] [] p1) "__init__" p2) [.Constant (.str m) j p3] [] p4) none p5.line (PySem.W.envX qual (defScope st) L f (.ref cda) [("__class__", cc)]) = pure false)
    (he : ∀ (L cda cc : Addr), eval (.Call (.Attribute (.Call (.Name "super" p0) [] [] p1) "__init__" p2) [.Constant (.str m) j p3] [] p4) (PySem.W.envX qual (defScope st) L f (.ref cda) [("__class__", cc)]) = (do
      let ov ← attributeBase (.Call (.Name "super" p0) [] [] p1) "__init__" (PySem.W.envX qual (defScope st) L f (.ref cda) [("__class__", cc)]) (eval (.Call (.Name "super" p0) [] [] p1) (PySem.W.envX qual (defScope st) L f (.ref cda) [("__class__", cc)]))
      standAt p2.atName
      let (f', first) ← holding [ov] (getMethod ov "__init__" pl)
      callWith p4 f' first (backTo p4 (starEach [.Constant (.str m) j p3] (PySem.W.envX qual (defScope st) L f (.ref cda) [("__class__", cc)]))) []))
    (hrest : ∀ (F' : NF) (A : Around) (outer : List Env) (s : Shared) (H : Hp) (E : XK), F'.scope = defScope st → F'.qual = qual → PSs (ncx (L2.CX P w) P w K mg base N F' f A outer s H E) rest t)
    (ht : ∀ (D : Ends) (H : Hp) (a : Addr) (ws : List V), ws.length = fl.length → H a = some (exo a C none) →
      (∀ (σ : L2.St) (d : Addr) (H2 : Hp), H d = none → d ≠ a → H2 a = some (exo a C (some d)) → H2 d = some (exd d (fl.zip ws).reverse) → (∀ b, b ≠ a → b ≠ d → H2 b = H b) → D.nx σ H2) → t D (startF N (.ref a :: ws) [none]) H) :
    FnOk P w K mg base (L2.CX P w) (k + 1) f fd ps (spEx C fl) := by
  refine ⟨fun vs H Q E q => ?_, fun A outer s H args us vs Q E hr e0 hb r hsp => ?_⟩
  · obtain ⟨a, ws, rfl, hl, _⟩ := q
    rw [List.length_cons, hl, hlen]
  obtain ⟨oc, od, osl, doc, pm, ct, cda, cc, ccl, cld, csl, rfl, lk, hcd, hfile, hcc⟩ := F.ex
  obtain ⟨a, ws, rfl, hl, ea, hq⟩ := hsp
  have KX : K.In s.heap := e0.mod.kin.keeps fun b o e => (e0.bs b o e).1
  have lim : s.heap.NoLimit := e0.mod.nolimit.keeps fun b o e => (e0.bs b o e).1
  let F' : NF := ⟨"__init__", qual, defArgs st, defBody st, defScope st, [("__class__", cc)], cda⟩
  have Ce : CellsAt F'.cl ["__class__"] [none] s.heap H := by
    have look : ∀ (y : Str) (c : Addr), List.lookup y [(("__class__" : Str), cc)] = some c → c = cc ∧ y = "__class__" := fun y c z => by
      simp only [List.lookup_cons, List.lookup_nil] at z
      split at z
      · rename_i q
        cases z
        exact ⟨rfl, by simpa using q⟩
      · cases z
    refine ⟨rfl, fun y c z => ?_, fun x y c z1 z2 => (look _ _ z1).2.trans (look _ _ z2).2.symm, fun i y z => ?_⟩
    · obtain ⟨rfl, _⟩ := look _ _ z
      exact ⟨(e0.bs _ _ (e0.mod.kin _ _ hcc)).2, _, _, KX _ _ hcc, rfl⟩
    · cases i with
      | succ i => simp at z
      | zero =>
        have z : some ("__class__" : Str) = some y := z
        cases z
        exact ⟨cc, by simp [F'], fun v z2 => by cases z2⟩
  refine codeAny_call_function hr.depth (KX _ _ lk) rfl S.co S.gen rfl (PySem.W.codeRec_of KX hcd) (hb _ _ _ _ ?_)
  refine wpAny_newFunctionEnv S.nocell (fun ⟨n, _⟩ hy => S.par n (List.of_mem_zip hy).1) (fun h₁ hns hsb => ⟨lim.fresh _ hsb, ?_⟩) S.kind
  show codeAny _ _ (.func (defBody st) (envF F' f s.heap.objs.size)) _ _
  have kp : ∀ b o, s.heap.get? b = some o → h₁.get? b = some o := fun b o e => hsb.extBut b o (Nat.ne_of_lt (Heap.lt_size e)) (Heap.get?_push_of_some _ e)
  have I : Inv (ncx (L2.CX P w) P w K mg base N F' f A outer s H E) [] (startF N (.ref a :: ws) [none]) H { s with heap := h₁, toks := s.toks + (ps.zip us).length } := inv_startN S hr.hd e0 (by rw [List.length_cons, hl, hlen]) r Ce hns kp
  refine ks_codeAny_funcAt ?_
  rw [hb0]
  refine ks_wpAt_execs_cons ?_
  refine ks_wpAt_mono (wp_superInit (ar := ar) (X := ncx (L2.CX P w) P w K mg base N F' f A outer s H E) I lk rfl hh rfl hfile rfl hcc F.T F.sub hsuper hks (S.frk _ (List.mem_cons_self ..)) hka htop F.th F.si F.sB hps rfl ea (hi _ _ _) (hsw _ _ _) (he _ _ _) rfl) (fun fl0 s' hs => ?_) fun e s' hs => hs
  obtain ⟨rfl, J⟩ := hs
  refine wpAt_of_wpAny (wpAny_mono ((hrest F' A outer s H E rfl rfl).run [] s' _ H { nx := fun _ H' => Q .non H', rt := Q } J (ht _ _ _ _ hl ea fun σ d H2 => hq d H2)) (fun fl2 s2 hs => ?_) fun e s2 hs => hs)
  have fin : ∀ {σ' : L2.St} {H' : Hp} {v : V} {u : Value}, Inv (ncx (L2.CX P w) P w K mg base N F' f A outer s H E) [] σ' H' s2 → L2.RelV v u → Q v H' → CE outer P w H s Q u s2 :=
    fun {σ' H' v u} J rv q => ⟨v, H', J.os, J.bare, J.base, J.hok, rv, q⟩
  cases fl2 with
  | ret u =>
    obtain ⟨v, σ', H', J, rv, q⟩ := hs
    exact fin J rv q
  | next =>
    obtain ⟨σ', H', J, q⟩ := hs
    exact fin (v := V.non) (u := Value.none) J rfl q
  | brk =>
    obtain ⟨_, _, _, q⟩ := hs
    exact False.elim q
  | cont =>
    obtain ⟨_, _, _, q⟩ := hs
    exact False.elim q
end
/-! ### what such an exception's fields may be -/
theorem rep_atm {K : PySem.W.Frag} {mg : Str → Option Value} {F F' : Hp} {v : V} {d : D} (h : d.flat = true) (r : Rep K mg F v d) : Rep K mg F' v d := by
  cases r with
  | non => exact .non
  | bl b => exact .bl b
  | int i => exact .int i
  | str x => exact .str x
  | lst a b => cases h
  | tup a b => cases h
  | obj a b c d => cases h
theorem repAll_atm {K : PySem.W.Frag} {mg : Str → Option Value} {F F' : Hp} : ∀ {vs : List V} {ds : List D}, ds.all D.flat = true → RepAll K mg F vs ds → RepAll K mg F' vs ds
  | _, _, _, .nil => .nil
  | _, _, h, .cons a b => by
    rw [List.all_cons, Bool.and_eq_true] at h
    exact .cons (rep_atm h.1 a) (repAll_atm h.2 b)
/-- raise c(..), c's __init__ keeping its arguments as the fields fl -/
def sRaise (c : Str) (fl : List Str) (g : DEnv → Res (List D)) : DEnv → SRes := fun ρ => after (g ρ) ρ fun ds => if ds.length = fl.length ∧ ds.length ≤ 1000 ∧ ds.all D.flat = true then .er ⟨c, fl.reverse, ds.reverse⟩ ρ else .st
section
variable {X : Cx} {fr : Bool} {We : WeX} {S : List Nat} {c : Str} {fl ps : List Str} {C f : Addr} {fd : FuncData} {k : Nat} {qual : Str} {st : Stmt} {file : Str} {e : PySem.Expr} {es : List PySem.Expr} {g : DEnv → Res (List D)} {p pos pos2 : Pos}
theorem zip_fst : ∀ {fl : List Str} {ws : List V}, ws.length = fl.length → (fl.zip ws).map (·.1) = fl
  | [], [], _ => rfl
  | a :: l, b :: m, h => by rw [List.zip_cons_cons, List.map_cons, zip_fst (by simpa using h)]
theorem zip_snd : ∀ {fl : List Str} {ws : List V}, ws.length = fl.length → (fl.zip ws).map (·.2) = ws
  | [], [], _ => rfl
  | a :: l, b :: m, h => by rw [List.zip_cons_cons, List.map_cons, zip_snd (by simpa using h)]
theorem sd_raise (hc : X.calm = true) (tk : Takes X We.w) (F : FunX X.K qual st file C f fd) (F1 : FnOk X.prog X.w X.K X.mg X.base (L2.CX X.prog X.w) k f fd ps (spEx C fl)) {kk : Nat} (hr : Room kk X.A) (hjk : k + 1 ≤ kk) (hb : Binds X.K fd ps []) (hg : Gl X c) (hm : X.mg c = some (.ref C)) (ha : PAD X We S (e :: es) g)
    (hdb : (c == ("__debug__" : Str)) = false := by decide) (he : starEach (e :: es) X.env = (false, eval e X.env) :: starEach es X.env := by rfl) (hpl : (backTo pos (starEach es X.env)).any (·.1) = false := by rfl) :
    SD X fr We (.Raise (some (.Call (.Name c p) (e :: es) [] pos)) none pos2) (sRaise c fl g) :=
  ps_imp (ps_raise hc tk (pmk_oex (dvs := []) F.T F.iC F.tI F1 (hr.mono hjk) hb .nil (passes_call takes0 fun _ _ _ _ z => z) hg hm ha hdb he hpl)) fun E σ H ⟨B, F0, ρ, e0, h⟩ => OutS.eval e0 h fun Fp F' H1 vs ds hf hg2 ex r e1 ⟨F2, e2, l, s2⟩ => by
    by_cases hz : ds.length = fl.length ∧ ds.length ≤ 1000 ∧ ds.all D.flat = true
    · have hg2 : OutS X.K X.mg fr We B E (if ds.length = fl.length ∧ ds.length ≤ 1000 ∧ ds.all D.flat = true then .er ⟨c, fl.reverse, ds.reverse⟩ ρ else .st) := hg2
      rw [if_pos hz] at hg2
      have r : RepAll X.K X.mg F' vs ds := r
      have hl := r.length
      refine ⟨by omega, fun a na => ⟨a, vs, by rw [List.append_nil], by omega, upd_same, fun d H2 nd dne q1 q2 q3 => ⟨rfl, d, _, q1, q2, ?_, ?_⟩⟩⟩
      · rw [upd_ne dne] at nd; exact nd
      · have nd1 : H1 d = none := by rw [upd_ne dne] at nd; exact nd
        have sm : Same H1 (upd (del H2 a) d (.xd (fl.zip vs).reverse)) := fun b o q => by
          have ba : b ≠ a := ne_of_none q na
          have bd : b ≠ d := ne_of_none q nd1
          rw [upd_ne bd, del_ne ba, q3 b ba bd, upd_ne ba]
          exact q
        refine hg2 F2 σ _ C (some d) (e2.heap sm) hm (.inr ⟨d, _, rfl, e2.hh.free nd1, upd_same, ?_, ?_⟩)
        · rw [List.map_reverse, zip_fst (by omega)]
        · rw [List.map_reverse, zip_snd (by omega)]
          exact (repAll_atm hz.2.2 r).reverse
    · have hg2 : OutS X.K X.mg fr We B E (if ds.length = fl.length ∧ ds.length ≤ 1000 ∧ ds.all D.flat = true then .er ⟨c, fl.reverse, ds.reverse⟩ ρ else .st) := hg2
      rw [if_neg hz] at hg2; exact hg2.elim
end
/-! ### self.f = f -/
abbrev keepS (fl : Str) (q1 q2 q3 q4 : Pos) : Stmt := .Assign [.Attribute (.Name "self" q1) fl q2] (.Name fl q3) q4
section
variable {CX : CXT} {P : Program} {w : World} {K : PySem.W.Frag} {mg : Str → Option Value} {base : Heap} {N : List Str} {F' : NF} {f C : Addr} {A : Around} {outer : List Env} {s : Shared} {H : Hp} {E : XK} {fl x1 x2 : Str} {q1 q2 q3 q4 q5 q6 q7 q8 : Pos} {sc : Scope}
theorem keep1 (e : F'.scope = sc) (n0 : N[0]? = some ("self" : Str)) (n1 : N[1]? = some x1) (k0 : sc.names.lookup ("self" : Str) = some .local) (k1 : sc.names.lookup x1 = some .local) (hs : swapsWith (.Name x1 q3) (some (.Attribute (.Name "self" q1) x1 q2)) q4.line (envF F' f s.heap.objs.size) = pure false)
    (d1 : (x1 == ("__debug__" : Str)) = false := by decide) (d2 : (x1 == ("__classdict__" : Str)) = false := by decide) : PSs (ncx CX P w K mg base N F' f A outer s H E) [keepS x1 q1 q2 q3 q4] (tOst K x1 (tVar 0) (tVar 1)) := by
  subst e
  exact pss_one (ps_ost (pe_var n0 (.inl k0) (by decide) (by decide)) (pe_var n1 (.inl k1) d1 d2) hs)
theorem keep1_t (T : OexC K C) (hno : PySem.W.findIn K (.ref C) x1 = some none) (D : Ends) (H : Hp) (a : Addr) (ws : List V) (hl : ws.length = [x1].length) (ea : H a = some (exo a C none))
    (h : ∀ (σ : L2.St) (d : Addr) (H2 : Hp), H d = none → d ≠ a → H2 a = some (exo a C (some d)) → H2 d = some (exd d ([x1].zip ws).reverse) → (∀ b, b ≠ a → b ≠ d → H2 b = H b) → D.nx σ H2) : tOst K x1 (tVar 0) (tVar 1) D (startF N (.ref a :: ws) [none]) H := by
  obtain ⟨y, rfl⟩ : ∃ y, ws = [y] := by
    cases ws with
    | nil => simp at hl
    | cons y r => cases r with
      | nil => exact ⟨y, rfl⟩
      | cons z r => simp at hl
  refine ⟨y, rfl, .ref a, rfl, a, C, rfl, T, hno, .inl ⟨ea, fun dx n ne => h _ dx _ n ne upd_same ?_ fun b b1 b2 => ?_⟩⟩
  · rw [upd_ne ne, upd_same]; rfl
  · rw [upd_ne b1, upd_ne b2]
theorem keep2 (e : F'.scope = sc) (n0 : N[0]? = some ("self" : Str)) (n1 : N[1]? = some x1) (n2 : N[2]? = some x2) (k0 : sc.names.lookup ("self" : Str) = some .local) (k1 : sc.names.lookup x1 = some .local) (k2 : sc.names.lookup x2 = some .local)
    (hs : swapsWith (.Name x1 q3) (some (.Attribute (.Name "self" q1) x1 q2)) q4.line (envF F' f s.heap.objs.size) = pure false) (hs2 : swapsWith (.Name x2 q7) (some (.Attribute (.Name "self" q5) x2 q6)) q8.line (envF F' f s.heap.objs.size) = pure false)
    (d1 : (x1 == ("__debug__" : Str)) = false := by decide) (d2 : (x1 == ("__classdict__" : Str)) = false := by decide) (d3 : (x2 == ("__debug__" : Str)) = false := by decide) (d4 : (x2 == ("__classdict__" : Str)) = false := by decide) :
    PSs (ncx CX P w K mg base N F' f A outer s H E) [keepS x1 q1 q2 q3 q4, keepS x2 q5 q6 q7 q8] (tSeq (tOst K x1 (tVar 0) (tVar 1)) (tOst K x2 (tVar 0) (tVar 2))) := by
  subst e
  exact pss_cons (ps_ost (pe_var n0 (.inl k0) (by decide) (by decide)) (pe_var n1 (.inl k1) d1 d2) hs) (pss_one (ps_ost (pe_var n0 (.inl k0) (by decide) (by decide)) (pe_var n2 (.inl k2) d3 d4) hs2))
theorem keep2_t (T : OexC K C) (hno : PySem.W.findIn K (.ref C) x1 = some none) (hno2 : PySem.W.findIn K (.ref C) x2 = some none) (D : Ends) (H : Hp) (a : Addr) (ws : List V) (hl : ws.length = [x1, x2].length) (ea : H a = some (exo a C none))
    (h : ∀ (σ : L2.St) (d : Addr) (H2 : Hp), H d = none → d ≠ a → H2 a = some (exo a C (some d)) → H2 d = some (exd d ([x1, x2].zip ws).reverse) → (∀ b, b ≠ a → b ≠ d → H2 b = H b) → D.nx σ H2) : tSeq (tOst K x1 (tVar 0) (tVar 1)) (tOst K x2 (tVar 0) (tVar 2)) D (startF N (.ref a :: ws) [none]) H := by
  obtain ⟨y, z, rfl⟩ : ∃ y z, ws = [y, z] := by
    cases ws with
    | nil => simp at hl
    | cons y r => cases r with
      | nil => simp at hl
      | cons z r => cases r with
        | nil => exact ⟨y, z, rfl⟩
        | cons u r => simp at hl
  refine ⟨y, rfl, .ref a, rfl, a, C, rfl, T, hno, .inl ⟨ea, fun dx n ne => ?_⟩⟩
  refine ⟨z, rfl, .ref a, rfl, a, C, rfl, T, hno2, .inr ⟨dx, [(x1, y)], upd_same, by rw [upd_ne ne, upd_same], (by decide : (1:Nat) ≤ 900), h _ dx _ n ne ?_ ?_ fun b b1 b2 => ?_⟩⟩
  · rw [upd_ne (Ne.symm ne), upd_same]
  · rw [upd_same]; rfl
  · rw [upd_ne b2, upd_ne b1, upd_ne b2]
end
/-! ### raise c('text'), c without own __init__ -/
def sRaise0 (c : Str) : DEnv → SRes := fun ρ => .er ⟨c, [], []⟩ ρ
section
variable {X : Cx} {fr : Bool} {We : WeX} {c m : Str} {C : Addr} {j : Nat} {p p2 pos pos2 : Pos} {bmB : List Value} {Bn newId initId : String}
theorem sd_raise0 (hc : X.calm = true) (tk : Takes X We.w) (F : ExcBaseFacts Bn newId initId bmB) (q : PySem.W.excIn X.K C bmB newId = true) (hm : X.mg c = some (.ref C)) (kC : PySem.W.keepIn X.K (.ref C) = true) (exC : PySem.W.subIn X.K (.ref C) (.type "BaseException") = some true) (tyC : PySem.W.typeIn X.K (.ref C) = some (.type "type"))
    (hg : Gl X c) (hdb : (c == ("__debug__" : Str)) = false := by decide) : SD X fr We (.Raise (some (.Call (.Name c p) [.Constant (.str m) j p2] [] pos)) none pos2) (sRaise0 c) :=
  ps_imp (ps_raise hc tk (pmk_own F q hm kC (raises_own exC tyC) hg hdb)) fun E σ H ⟨B, F0, ρ, e0, h⟩ => h F0 σ H C none e0 hm (.inl ⟨rfl, rfl⟩)
end
/-! ### the facts, as tests -/
def oexIn (K : PySem.W.Frag) (C : Addr) : Bool := match K.lookup C with
  | some ⟨.type "type", _, .cls cd, sl⟩ => (match cd.mro, sl.toList with
    | .ref C' :: bm, [_, _, _, _, some (.builtin n), _] => C' == C && n == "ValueError.__new__" && !cd.hasDel && cd.hasDict && PySem.HandSPX.refsVE bm
    | _, _ => false)
  | _ => false
theorem oexC_by {K : PySem.W.Frag} {C : Addr} (q : oexIn K C = true) (sa : PySem.W.findIn K (.ref C) "__setattr__" = some (some (.builtin "object.__setattr__"))) (exC : PySem.W.subIn K (.ref C) (.type "BaseException") = some true) (tyC : PySem.W.typeIn K (.ref C) = some (.type "type")) (kC : PySem.W.keepIn K (.ref C) = true) : OexC K C := by
  refine ⟨?_, sa, exC, tyC, kC⟩
  unfold oexIn at q
  split at q
  · rename_i dd cd sl ho
    split at q
    · rename_i C' bm k0 k1 k2 k3 n k5 hm hs
      simp only [Bool.and_eq_true, beq_iff_eq, Bool.not_eq_true'] at q
      obtain ⟨⟨⟨⟨rfl, rfl⟩, hdel⟩, hdct⟩, hv⟩ := q
      obtain ⟨nm, bs, mro, ns, qn, hd, sn, sub, ab, col, del⟩ := cd
      dsimp only at hm hdel hdct
      subst hm hdel hdct
      have hsl : sl = #[k0, k1, k2, k3, some (.builtin "ValueError.__new__"), k5] := by
        obtain ⟨l⟩ := sl
        simp only at hs
        rw [hs]
      subst hsl
      exact ⟨nm, qn, ns, bs, bm, sn, sub, ab, col, dd, k0, k1, k2, k3, k5, ho, hv⟩
    · cases q
  · cases q
theorem funX_mk {K : PySem.W.Frag} {qual : Str} {st : Stmt} {file : Str} {C f cda cc : Addr} {oc doc pm ct ccl : Value} {od cld : Option Addr} {osl csl : Array (Option Value)}
    (l : K.lookup f = some ⟨oc, od, .func (PySem.W.fnX "__init__" qual (defArgs st) (defBody st) (defScope st) [("__class__", cc)] .none .none doc pm none (.ref cda) ct), osl⟩) (c : PySem.W.codeIn K (.ref cda) qual = true) (fi : fileIn K cda file = true) (l2 : K.lookup cc = some ⟨ccl, cld, .cell (some (.ref C)), csl⟩)
    (T : OexC K C) (sub : PySem.W.mroIn K C (.ref C) = some true) (th : PySem.W.nsIn K cStatics "thirdparty.any" = some none) (si : PySem.W.ks_superIn K C C "__init__" = some (some (.builtin "ValueError.__init__"))) (sB : PySem.W.subIn K (.ref C) (.type "ValueError") = some true)
    (iC : PySem.W.findIn K (.ref C) "__init__" = some (some (.ref f))) (tI : PySem.W.typeIn K (.ref f) = some (.type "function")) :
    FunX K qual st file C f (PySem.W.fnX "__init__" qual (defArgs st) (defBody st) (defScope st) [("__class__", cc)] .none .none doc pm none (.ref cda) ct) :=
  ⟨⟨oc, od, osl, doc, pm, ct, cda, cc, ccl, cld, csl, rfl, l, c, fi, l2⟩, T, sub, th, si, sB, iC, tI⟩
theorem FunX.binds {K : PySem.W.Frag} {qual : Str} {st : Stmt} {file : Str} {C f : Addr} {fd : FuncData} {ps : List Str} (F : FunX K qual st file C f fd)
    (h : ∀ (doc pm ct : Value) (cda cc : Addr) (us : List Value), us.length = ps.length → bindArgs (PySem.W.fnX "__init__" qual (defArgs st) (defBody st) (defScope st) [("__class__", cc)] .none .none doc pm none (.ref cda) ct) ⟨us, []⟩ = pure (ps.zip us)) : Binds K fd ps [] := by
  obtain ⟨oc, od, osl, doc, pm, ct, cda, cc, ccl, cld, csl, rfl, _⟩ := F.ex
  exact .all (h doc pm ct cda cc)
/-- the tests on what the lookup told -/
def oexOk (C : Addr) (cd : ClassData) (sl : Array (Option Value)) : Bool := match cd.mro, sl.toList with
  | .ref C' :: bm, [_, _, _, _, some (.builtin n), _] => C' == C && n == "ValueError.__new__" && !cd.hasDel && cd.hasDict && PySem.HandSPX.refsVE bm
  | _, _ => false
theorem oexIn_by {K : PySem.W.Frag} {C : Addr} {dd : Option Addr} {cd : ClassData} {sl : Array (Option Value)} (h : K.lookup C = some ⟨.type "type", dd, .cls cd, sl⟩) (q : oexOk C cd sl = true) : oexIn K C = true := by
  unfold oexIn
  rw [h]
  exact q
theorem fileIn_by {K : PySem.W.Frag} {c : Addr} {file : Str} {oc : Value} {od : Option Addr} {vs : Array Value} {sl : Array (Option Value)} {t : Tok} (h : K.lookup c = some ⟨oc, od, .fields vs, sl⟩) (q : vs[2]? = some (.str file t)) : fileIn K c file = true := by
  unfold fileIn
  rw [h]
  dsimp only
  rw [q]
  exact beq_self_eq_true _
end DL
set_option Elab.async false
set_option linter.all false
set_option maxRecDepth 100000
set_option maxHeartbeats 1000000
/-! SA: tables of sets of up to 306 elements, by hashes alone (the kit's TabOk ends at 127 slots). -/
namespace SS
open PySem PySem.Spec PyProof.Rows L2

def Msk (m : Nat) : Prop := MaskOk m ∨ m = 511
theorem Msk.odd {m : Nat} (q : Msk m) : m % 2 = 1 := by
  rcases q with q | rfl
  · exact mask_odd q
  · rfl
theorem Msk.le {m : Nat} (q : Msk m) : m ≤ 511 := by
  rcases q with (rfl | rfl | rfl) | rfl <;> decide
/-- n numbers from i on -/
def orb (m : Nat) : Nat → Nat → List Nat
  | 0, _ => []
  | n + 1, i => i :: orb m n ((i * 5 + 1) % (m + 1))
theorem orb_mem (m : Nat) : ∀ (n a j : Nat), j ∈ orb m n (lcgN m a) → ∃ k, k < n ∧ lcgN m (a + k) = j
  | 0, _, _, q => by cases q
  | n + 1, a, j, q => by
    have q : j ∈ lcgN m a :: orb m n (lcgN m (a + 1)) := q
    cases q with
    | head => exact ⟨0, by omega, rfl⟩
    | tail _ q =>
      obtain ⟨k, k1, k2⟩ := orb_mem m n (a + 1) j q
      exact ⟨k + 1, by omega, by rw [← k2]; congr 1; omega⟩
theorem orb511 : ((List.range 512).all fun j => (orb 511 512 0).contains j) = true := by decide +kernel
theorem end511 : lcgN 511 512 = 0 := by decide +kernel
theorem Msk.each {m : Nat} (q : Msk m) {j : Nat} (hj : j ≤ m) : ∃ b, b ≤ m ∧ lcgN m b = j := by
  rcases q with q | rfl
  · exact lcg_all q hj
  · have z := List.all_eq_true.mp orb511 j (List.mem_range.mpr (by omega))
    have z : j ∈ orb 511 512 0 := by simpa using z
    obtain ⟨k, k1, k2⟩ := orb_mem 511 512 0 j z
    exact ⟨k, by omega, by rw [← k2, Nat.zero_add]⟩
theorem Msk.back {m : Nat} (q : Msk m) (k : Nat) : lcgN m (m + 1 + k) = lcgN m k := by
  induction k with
  | zero =>
    rcases q with q | rfl
    · exact lcg_round q
    · exact end511
  | succ k ih => exact congrArg (fun z => (z * 5 + 1) % (m + 1)) ih
theorem Msk.from {m : Nat} (q : Msk m) {i j : Nat} (hi : i ≤ m) (hj : j ≤ m) : ∃ k, k ≤ m ∧ lcgI m i k = j := by
  obtain ⟨a, a1, rfl⟩ := q.each hi
  obtain ⟨b, b1, rfl⟩ := q.each hj
  by_cases c : a ≤ b
  · exact ⟨b - a, by omega, by rw [lcgN_add, Nat.add_sub_cancel' c]⟩
  · exact ⟨m + 1 + b - a, by omega, by rw [lcgN_add, show a + (m + 1 + b - a) = m + 1 + b by omega, q.back]⟩
theorem Msk.run {m : Nat} (q : Msk m) (h : Int) {j : Nat} (hj : j ≤ m) : ∃ n, n ≤ m + 12 ∧ runI m (SetTable.bits h) n = j := by
  obtain ⟨k, k1, k2⟩ := q.from (runI_le m (SetTable.bits h) 12) hj
  exact ⟨12 + k, by omega, (runI_tail (bits_lt h) k).trans k2⟩
abbrev stt (m : Nat) (h : Int) : SetTable.Probe := runAt m (SetTable.bits h % (m + 1)) (SetTable.bits h)
theorem Msk.met {m : Nat} (q : Msk m) (h : Int) {j : Nat} (hj : j ≤ m) : ∃ k, k < 10 * SetTable.turns m ∧ way m h k = j := by
  obtain ⟨n, n1, n2⟩ := q.run h hj
  obtain ⟨k, k1, k2⟩ := run_nth m (SetTable.bits h) n
  exact ⟨k, by unfold SetTable.turns; omega, by show (nth m (stt m h) k).j = j; rw [k2]; exact n2⟩
theorem way_in (m : Nat) (h : Int) (k : Nat) : way m h k ≤ m := by
  have b0 : SetTable.bits h % (m + 1) ≤ m := Nat.le_of_lt_succ (Nat.mod_lt _ (by omega))
  have b1 := runEnd_bd b0
  have b2 : (nth m (stt m h) k).j + (nth m (stt m h) k).more ≤ m := nth_in k (stt m h) (by
    change SetTable.bits h % (m + 1) + (SetTable.runEnd m (SetTable.bits h % (m + 1)) - SetTable.bits h % (m + 1)) ≤ m
    omega)
  exact Nat.le_trans (Nat.le_add_right _ _) b2

/-- a table whose elements have the hashes hs -/
structure Tb (t : SetTable) (hs : List Int) : Prop where
  up : Ris t.place.toList
  nodum : t.dummies = #[]
  num : t.place.size = hs.length
  msk : Msk t.mask
  top : ∀ x ∈ t.place.toList, x ≤ t.mask
  road : ∀ (i : Nat) (h : Int) (j : Nat), hs[i]? = some h → t.place.toList[i]? = some j → ∃ k, way t.mask h k = j ∧ ∀ c, c < k → way t.mask h c ∈ t.place.toList
section
variable {t : SetTable} {hs : List Int} {h : Int} {K : Nat}
theorem Tb.free (T : Tb t hs) (hl : hs.length ≤ t.mask) (h : Int) : ∃ K, K < 10 * SetTable.turns t.mask ∧ way t.mask h K ∉ t.place.toList ∧ ∀ c, c < K → way t.mask h c ∈ t.place.toList := by
  obtain ⟨j, j1, j2⟩ := st_missing t.place.toList (t.mask + 1) (by rw [Array.length_toList, T.num]; omega)
  obtain ⟨k, k1, k2⟩ := T.msk.met h (Nat.le_of_lt_succ j1)
  obtain ⟨K, z1, z2, z3⟩ := st_least (p := fun c => way t.mask h c ∉ t.place.toList) k (fun z => j2 (k2 ▸ z))
  exact ⟨K, by omega, z2, fun c hc => Classical.byContradiction (z3 c hc)⟩
theorem Tb.ahead (T : Tb t hs) {i j : Nat} (hK : way t.mask h K ∉ t.place.toList) (hi : hs[i]? = some h) (hj : t.place.toList[i]? = some j) : ∃ k, k < K ∧ way t.mask h k = j := by
  obtain ⟨k, k1, k2⟩ := T.road i h j hi hj
  refine ⟨k, Nat.lt_of_not_le fun z => hK ?_, k1⟩
  rcases Nat.eq_or_lt_of_le z with z | z
  · rw [z, k1]; exact List.mem_of_getElem? hj
  · exact k2 K z
/-- one is put in at the free end of its way -/
theorem Tb.ins (T : Tb t hs) (hK : way t.mask h K ∉ t.place.toList) (hb : ∀ c, c < K → way t.mask h c ∈ t.place.toList) (p : Nat) (hp : SetTable.below t.place (way t.mask h K) = p) :
    p ≤ hs.length ∧ Tb (t.put (way t.mask h K)).1 (hs.take p ++ h :: hs.drop p) ∧ (t.put (way t.mask h K)).1.fill = hs.length + 1 := by
  have hm := way_in t.mask h K
  generalize hj : way t.mask h K = j at hK hm hp ⊢
  have cut := (below_cut T.up j).1
  rw [hp] at cut
  have ph : p ≤ hs.length := by rw [← T.num]; exact cut
  have pl : p ≤ t.place.toList.length := by rw [Array.length_toList]; exact cut
  have lay : (t.put j).1.place.toList = t.place.toList.take p ++ j :: t.place.toList.drop p := by rw [put_place, hp]
  have num : (t.put j).1.place.size = hs.length + 1 := by
    rw [← Array.length_toList, lay, len_ins _ pl, Array.length_toList, T.num]
  have kept : ∀ x ∈ t.place.toList, x ∈ (t.put j).1.place.toList := fun x hx => by rw [lay]; exact mem_ins.mpr (.inr hx)
  have nn : t.place[SetTable.below t.place j]? ≠ some j := fun z => by
    rw [← Array.getElem?_toList] at z
    exact hK (List.mem_of_getElem? z)
  refine ⟨ph, ⟨ris_insert T.up nn, put_dm T.nodum j, by rw [len_ins _ ph]; exact num, T.msk, fun x hx => ?_, fun i h' j' a b => ?_⟩, ?_⟩
  · rw [lay] at hx
    rcases mem_ins.mp hx with rfl | hx
    · exact hm
    · exact T.top x hx
  · rw [tins_get hs ph] at a
    rw [lay, tins_get _ pl] at b
    change ∃ k, way t.mask h' k = j' ∧ ∀ c, c < k → way t.mask h' c ∈ (t.put j).1.place.toList
    split at a
    · rename_i g
      rw [if_pos g] at b
      obtain ⟨k, k1, k2⟩ := T.road i h' j' a b
      exact ⟨k, k1, fun c hc => kept _ (k2 c hc)⟩
    · rename_i g
      rw [if_neg g] at b
      split at a
      · rename_i g2
        rw [if_pos g2] at b
        cases a
        cases b
        exact ⟨K, hj, fun c hc => kept _ (hb c hc)⟩
      · rename_i g2
        rw [if_neg g2] at b
        obtain ⟨k, k1, k2⟩ := T.road (i - 1) h' j' a b
        exact ⟨k, k1, fun c hc => kept _ (k2 c hc)⟩
  · change (t.put j).1.place.size + (t.put j).1.dummies.size = hs.length + 1
    rw [num, put_dm T.nodum j]
    rfl
end
/-! ### laid anew -/
theorem lay_free {m : Nat} (q : Msk m) (ow : Array (Option Nat)) (h : Int) {j : Nat} (hj : j ≤ m) (e : oAt ow j = none) :
    ∃ K, SetTable.layClean.free m ow (SetTable.turns m) (SetTable.bits h % (m + 1)) (SetTable.bits h) = some (way m h K) ∧ oAt ow (way m h K) = none ∧ ∀ c, c < K → oAt ow (way m h c) ≠ none := by
  obtain ⟨n, n1, n2⟩ := q.run h hj
  have at_n : way m h (off m (SetTable.bits h % (m + 1)) (SetTable.bits h) n) = j := by
    change (nth m (stt m h) (off m (SetTable.bits h % (m + 1)) (SetTable.bits h) n)).j = j
    rw [nth_off, itL_run]
    exact n2
  obtain ⟨K, z1, z2, z3⟩ := st_least (p := fun c => oAt ow (way m h c) = none) _ (at_n.symm ▸ e : oAt ow (way m h (off m (SetTable.bits h % (m + 1)) (SetTable.bits h) n)) = none)
  refine ⟨K, free_spec m ow _ n _ _ K (by unfold SetTable.turns; omega) z1 (fun c hc => ?_) ?_, z2, z3⟩
  · exact Option.isNone_eq_false_iff.mpr (Option.isSome_iff_ne_none.mpr (z3 c hc))
  · exact Option.isNone_iff_eq_none.mpr z2
theorem own_next {m : Nat} (q : Msk m) {done : List Int} {ow : Array (Option Nat)} (W : Own m done ow) (hl : done.length ≤ m) (h : Int) :
    ∃ j, SetTable.layClean.free m ow (SetTable.turns m) (SetTable.bits h % (m + 1)) (SetTable.bits h) = some j ∧ Own m (done ++ [h]) (ow.setIfInBounds j (some done.length)) := by
  obtain ⟨ps, l, mem⟩ := W.ps
  obtain ⟨j0, g0, g1⟩ := st_missing ps (m + 1) (by omega)
  have e0 : oAt ow j0 = none := Classical.byContradiction fun z => g1 (mem j0 (by omega) z)
  obtain ⟨K, f1, f2, f3⟩ := lay_free q ow h (Nat.le_of_lt_succ g0) e0
  have hm := way_in m h K
  have hself := oAt_set_self (owner := ow) (some done.length) (j := way m h K) (by rw [W.sz]; omega)
  have stays : ∀ i, oAt ow i ≠ none → oAt (ow.setIfInBounds (way m h K) (some done.length)) i ≠ none := fun i hi => by
    by_cases c : i = way m h K
    · rw [c, hself]; simp
    · rw [oAt_set_ne _ c]; exact hi
  refine ⟨_, f1, ⟨by rw [Array.size_setIfInBounds, W.sz], fun j k hj e => ?_, fun k hk => ?_, ⟨way m h K :: ps, by simp [l], fun j hj e => ?_⟩⟩⟩
  · by_cases c : j = way m h K
    · rw [c, hself] at e
      cases e
      exact ⟨h, K, by simp, c.symm, fun k' hk' => stays _ (f3 k' hk')⟩
    · rw [oAt_set_ne _ c] at e
      obtain ⟨h', K', w1, w2, w3⟩ := W.at_ j k hj e
      exact ⟨h', K', by rw [List.getElem?_append_left (List.getElem?_eq_some_iff.mp w1).1, w1], w2, fun k' hk' => stays _ (w3 k' hk')⟩
  · simp only [List.length_append, List.length_singleton] at hk
    by_cases c : k = done.length
    · exact ⟨_, hm, by rw [hself, c]⟩
    · obtain ⟨j, hj, e⟩ := W.all k (by omega)
      refine ⟨j, hj, ?_⟩
      rw [oAt_set_ne _ (fun z => by rw [z, f2] at e; cases e)]
      exact e
  · by_cases c : j = way m h K
    · rw [c]; simp
    · rw [oAt_set_ne _ c] at e
      exact List.mem_cons_of_mem _ (mem j hj e)
theorem own_fold {m : Nat} (q : Msk m) : ∀ (rest done : List Int) (ow : Array (Option Nat)), Own m done ow → done.length + rest.length ≤ m →
    ∃ ow2, rest.foldl (stepF m) (some (ow, done.length)) = some (ow2, (done ++ rest).length) ∧ Own m (done ++ rest) ow2
  | [], done, ow, W, _ => ⟨ow, by simp, by simpa using W⟩
  | h :: rest, done, ow, W, hl => by
    simp only [List.length_cons] at hl
    obtain ⟨j, e, W1⟩ := own_next q W (by omega) h
    obtain ⟨ow2, f, W2⟩ := own_fold q rest (done ++ [h]) _ W1 (by simp; omega)
    simp only [List.append_assoc, List.singleton_append, List.length_append, List.length_singleton] at f W2
    refine ⟨ow2, ?_, W2⟩
    rw [List.foldl_cons, stepF_some e, f]
    simp only [List.length_append]
theorem clean {m : Nat} (q : Msk m) {hs : Array Int} (hn : hs.size ≤ m) : ∃ ow, SetTable.layClean m hs = some ow ∧ Own m hs.toList ow := by
  obtain ⟨ow, f, W⟩ := own_fold q hs.toList [] _ (Own.init m) (by simpa using hn)
  refine ⟨ow, ?_, by simpa using W⟩
  rw [layClean_eq]
  exact congrArg (Option.map (·.1)) f
theorem relaid' (t : SetTable) {hs : Array Int} {wanted M : Nat} (hw : SetTable.sizeAbove wanted - 1 = M) (q : Msk M) (hn : hs.size ≤ M) :
    ∃ t' order, t.relaid hs wanted = some (t', order) ∧ order.toList.Perm (List.range hs.size) ∧ Tb t' (order.toList.map fun i => hs.getD i 0) ∧ t'.mask = M ∧ t'.led = t.led ∧ t'.plain = t.plain := by
  obtain ⟨ow, e, W⟩ := clean q hn
  have hr : t.relaid hs wanted = some (tabOf t M ow, ((liveOf M ow).map (·.2)).toArray) := by
    rw [relaid_eq, hw, e]
    rfl
  obtain ⟨u1, u2⟩ := ris_live (fun j => ow.getD j none) (List.range (M + 1)) (show List.Pairwise (· < ·) _ from List.pairwise_lt_range)
  have u1 : Ris ((liveOf M ow).map (·.1)) := u1
  have nd : ((liveOf M ow).map (·.1)).Nodup := u1.imp fun z => Nat.ne_of_lt z
  have le1 : ∀ x ∈ (liveOf M ow).map (·.1), x ≤ M := fun x hx => by
    have := List.mem_range.mp (u2 x hx)
    omega
  have all : ∀ k, k < hs.size → k ∈ (liveOf M ow).map (·.2) := fun k hk => by
    obtain ⟨j, b1, b2⟩ := W.all k (by rw [Array.length_toList]; exact hk)
    exact List.mem_map.mpr ⟨(j, k), (mem_live W.sz).mpr ⟨b1, b2⟩, rfl⟩
  have len : (liveOf M ow).length = hs.size := by
    obtain ⟨ps, p1, p2⟩ := W.ps
    have a := nat_nodup_len _ ps nd fun x hx => by
      obtain ⟨⟨y, k⟩, hq, e1⟩ := List.mem_map.mp hx
      have e1 : y = x := e1
      obtain ⟨b1, b2⟩ := (mem_live W.sz).mp hq
      rw [← e1]
      exact p2 y b1 (by rw [b2]; simp)
    have b := nat_nodup_len (List.range hs.size) ((liveOf M ow).map (·.2)) List.nodup_range fun k hk => all k (List.mem_range.mp hk)
    simp only [List.length_map, List.length_range, Array.length_toList] at a b p1
    omega
  refine ⟨_, _, hr, ?_, ⟨u1, rfl, ?_, q, le1, fun i h j a b => ?_⟩, rfl, rfl, rfl⟩
  · exact perm_range hs.size _ (by rw [List.length_map]; exact len) all
  · change ((liveOf M ow).map (·.1)).toArray.size = _
    simp
  · have a : (((liveOf M ow).map (·.2)).map fun i => hs.getD i 0)[i]? = some h := a
    have b : ((liveOf M ow).map (·.1))[i]? = some j := b
    simp only [List.getElem?_map] at a b
    cases z : (liveOf M ow)[i]? with
    | none => rw [z] at b; cases b
    | some yk =>
      obtain ⟨y, k⟩ := yk
      rw [z] at a b
      have b : y = j := Option.some.inj b
      have a : hs.getD k 0 = h := Option.some.inj a
      obtain ⟨b1, b2⟩ := (mem_live W.sz).mp (List.mem_of_getElem? z)
      obtain ⟨h0, K, w1, w2, w3⟩ := W.at_ y k b1 b2
      have e0 : hs.getD k 0 = h0 := by
        rw [Array.getElem?_toList] at w1
        rw [Array.getD_eq_getD_getElem?, w1]
        rfl
      have eh : h0 = h := e0.symm.trans a
      refine ⟨K, by rw [← eh, ← b]; exact w2, fun c hc => ?_⟩
      change way M h c ∈ (liveOf M ow).map (·.1)
      rw [← eh]
      obtain ⟨k2, e2⟩ := Option.ne_none_iff_exists'.mp (w3 c hc)
      exact List.mem_map.mpr ⟨(_, k2), (mem_live W.sz).mpr ⟨way_in M h0 c, e2⟩, rfl⟩
theorem size_308 : SetTable.sizeAbove (SetTable.grown 77) = 512 := by decide +kernel
end SS
set_option Elab.async false
set_option linter.all false
set_option maxRecDepth 100000
set_option maxHeartbeats 1000000
/-! SB: sets whose elements are tuples of ints, bools, None and of such tuples: added to. -/
namespace SS
open PySem PySem.Spec PyProof.Rows L2
abbrev NK := NestedKey
mutual
/-- no text within -/
def nt : NK → Bool
  | .text _ => false
  | .tup ks => nts ks
  | _ => true
def nts : List NK → Bool
  | [] => true
  | k :: ks => nt k && nts ks
end
section
variable {P : Program} {w : World}
theorem away {n : Nat} {v : Value} (q : ∀ a, v ≠ .ref a) : ofAClassStatement n v = pure false := by
  cases v with
  | ref a => exact absurd rfl (q a)
  | _ => cases n <;> rfl
mutual
theorem notOwn : ∀ (k : NK) (v : Value) (n : Nat) (A : Around) (E : Value → Shared → Prop) (s : Shared) (Q : Bool → Shared → Prop), NestedIs s.heap k v → k.depth ≤ n → Q false s → wpAny (model P w) A (ofAClassStatement n v) Q E s
  | .none, _, n, A, E, s, Q, x, _, q => by cases x; rw [away (by simp)]; exact wpAny_pure q
  | .num i, _, n, A, E, s, Q, x, _, q => by cases x <;> (rw [away (by simp)]; exact wpAny_pure q)
  | .text y, _, n, A, E, s, Q, x, _, q => by cases x; rw [away (by simp)]; exact wpAny_pure q
  | .tup ks, _, n, A, E, s, Q, x, hn, q => by
    cases x with
    | @tup a o vs m _ g1 g2 g3 g4 =>
      have hn : NestedKey.depthAll ks + 1 ≤ n := hn
      cases n with
      | zero => omega
      | succ n =>
        unfold ofAClassStatement
        refine wpAny_bind (wpAny_typeOf (⟨o, g1, g2⟩ : s.TypeIs (.ref a) "tuple") ?_)
        dsimp only
        simp only [show (("tuple" : String) == "tuple") = true from by decide, if_true, Bool.not_true, Bool.false_eq_true, if_false]
        first
          | refine wpAny_bind (wpAny_pure ?_)
          | skip
        try simp only [Bool.not_true, Bool.false_eq_true, if_false]
        refine wpAny_bind (m := seqItems? (.ref a)) (wpAny_seqItems g1 g3 ?_)
        dsimp only
        refine wpAny_bind ?_
        change wpAny _ _ (forIn vs _ _) _ _ s
        rw [← Array.forIn_toList]
        refine wpAny_forIn_list _ (fun l r s' => r.1 = none ∧ s' = s ∧ ∃ kk, NestedAll s.heap kk l ∧ ∀ v ∈ l, ∀ Q', Q' false s → wpAny (model P w) A (ofAClassStatement n v) Q' E s) _ ?_ ?_ _ _ ⟨rfl, rfl, ks, g4, notOwns ks _ n A E s g4 (by omega)⟩
        · rintro v l r s' ⟨e1, rfl, kk, all, each⟩
          refine wpAny_bind (each v List.mem_cons_self _ ?_)
          simp only [Bool.false_eq_true, if_false]
          cases all with
          | cons _ tl => exact wpAny_pure ⟨rfl, rfl, _, tl, fun u hu => each u (List.mem_cons_of_mem _ hu)⟩
        · rintro ⟨r1, r2⟩ s' ⟨e1, rfl, _⟩
          simp only at e1
          subst e1
          exact wpAny_pure q
theorem notOwns : ∀ (ks : List NK) (vs : List Value) (n : Nat) (A : Around) (E : Value → Shared → Prop) (s : Shared), NestedAll s.heap ks vs → NestedKey.depthAll ks ≤ n →
    ∀ v ∈ vs, ∀ Q : Bool → Shared → Prop, Q false s → wpAny (model P w) A (ofAClassStatement n v) Q E s
  | [], _, n, A, E, s, x, _, v, hv, _, _ => by cases x; cases hv
  | k :: ks, _, n, A, E, s, x, hn, v, hv, Q, q => by
    have hn : max k.depth (NestedKey.depthAll ks) ≤ n := hn
    cases x with
    | cons x1 x2 =>
      cases hv with
      | head => exact notOwn k _ n A E s Q x1 (by omega) q
      | tail _ hv => exact notOwns ks _ n A E s x2 (by omega) v hv Q q
end
mutual
theorem byVal : ∀ (k : NK) (v : Value) (n : Nat) (A : Around) (E : Value → Shared → Prop) (s : Shared) (Q : Bool → Shared → Prop), NestedIs s.heap k v → nt k = true → k.depth ≤ n → Q true s → wpAny (model P w) A (hashByValue n v) Q E s
  | .none, _, n, A, E, s, Q, x, _, _, q => by cases x; cases n <;> exact wpAny_pure q
  | .num i, _, n, A, E, s, Q, x, _, _, q => by cases x <;> cases n <;> exact wpAny_pure q
  | .text y, _, n, A, E, s, Q, x, z, _, q => by cases z
  | .tup ks, _, n, A, E, s, Q, x, z, hn, q => by
    cases x with
    | @tup a o vs m _ g1 g2 g3 g4 =>
      have hn : NestedKey.depthAll ks + 1 ≤ n := hn
      cases n with
      | zero => omega
      | succ n =>
        unfold hashByValue
        refine wpAny_bind (wpAny_specialOf (⟨o, g1, g2⟩ : s.TypeIs (.ref a) "tuple") F.slot_tuple_hash.lookup ?_)
        change wpAny _ _ (seqItems? (.ref a) >>= _) _ _ s
        refine wpAny_bind (wpAny_seqItems g1 g3 ?_)
        refine wpAny_bind ?_
        change wpAny _ _ (forIn vs _ _) _ _ s
        rw [← Array.forIn_toList]
        refine wpAny_forIn_list _ (fun l r s' => r.1 = none ∧ s' = s ∧ ∀ v ∈ l, ∀ Q', Q' true s → wpAny (model P w) A (hashByValue n v) Q' E s) _ ?_ ?_ _ _ ⟨rfl, rfl, byVals ks _ n A E s g4 z (by omega)⟩
        · rintro v l r s' ⟨e1, rfl, each⟩
          refine wpAny_bind (each v List.mem_cons_self _ ?_)
          simp only [Bool.not_true, Bool.false_eq_true, if_false]
          exact wpAny_pure ⟨rfl, rfl, fun u hu => each u (List.mem_cons_of_mem _ hu)⟩
        · rintro ⟨r1, r2⟩ s' ⟨e1, rfl, _⟩
          simp only at e1
          subst e1
          exact wpAny_pure q
theorem byVals : ∀ (ks : List NK) (vs : List Value) (n : Nat) (A : Around) (E : Value → Shared → Prop) (s : Shared), NestedAll s.heap ks vs → nts ks = true → NestedKey.depthAll ks ≤ n →
    ∀ v ∈ vs, ∀ Q : Bool → Shared → Prop, Q true s → wpAny (model P w) A (hashByValue n v) Q E s
  | [], _, n, A, E, s, x, _, _, v, hv, _, _ => by cases x; cases hv
  | k :: ks, _, n, A, E, s, x, z, hn, v, hv, Q, q => by
    have hn : max k.depth (NestedKey.depthAll ks) ≤ n := hn
    have z : (nt k && nts ks) = true := z
    rw [Bool.and_eq_true] at z
    cases x with
    | cons x1 x2 =>
      cases hv with
      | head => exact byVal k _ n A E s Q x1 z.1 (by omega) q
      | tail _ hv => exact byVals ks _ n A E s x2 z.2 (by omega) v hv Q q
end
end

/-- at b stands the tuple k -/
def Is (h : Heap) (k : NK) (b : Addr) : Prop := NestedIs h k (.ref b) ∧ k.depth ≤ 8 ∧ nt k = true
theorem Is.keep {h h' : Heap} {k : NK} {b : Addr} (x : Is h k b) (e : ∀ c o, h.get? c = some o → h'.get? c = some o) : Is h' k b := ⟨NestedIs.at (fun a o _ _ g _ => e a o g) k _ x.1, x.2⟩
theorem Is.but {h h' : Heap} {k : NK} {a b : Addr} {o : Obj} {es : Array (Int × Value)} {ep : Nat} {t : SetTable} (x : Is h k b) (ho : h.get? a = some o) (hd : o.data = .set es ep t) (sb : Heap.SameBut a h h') : Is h' k b :=
  ⟨NestedIs.at (fun c u vs n g gd => (sb.2 c (fun z => by
    subst z
    rw [ho] at g
    cases g
    rw [hd] at gd
    cases gd)).trans g) k _ x.1, x.2⟩
def rws (w : World) (L : List (Addr × NK)) : List (Int × Value) := L.map fun p => (p.2.hash w, Value.ref p.1)
/-- the set at a: the tuples of L -/
structure Sx (w : World) (h : Heap) (a : Addr) (L : List (Addr × NK)) (es : Array (Int × Value)) (ep : Nat) (t : SetTable) : Prop where
  ob : ∃ o, h.get? a = some o ∧ o.ExactSet ∧ o.data = .set es ep t
  rows : es.toList = rws w L
  tab : Tb t (L.map fun p => p.2.hash w)
  nd : (L.map (·.2)).Nodup
  plain : t.plain = true
  led : w.params.followText "set-order" = true ∨ t.led = true
  room : L.length * 5 < t.mask * 3
section
variable {P : Program} {w : World} {A : Around} {E : Value → Shared → Prop} {s : Shared} {a : Addr} {L : List (Addr × NK)} {es : Array (Int × Value)} {ep : Nat} {t : SetTable}
theorem rows_len {L : List (Addr × NK)} (e : es.toList = rws w L) : es.size = L.length := by
  have := congrArg List.length e
  simpa [rws] using this
theorem fits_of (T : Tb t (L.map fun p => p.2.hash w)) (e : es.size = L.length) (b : L.length ≤ t.mask) : t.fits es.size = true := by
  have z := T.num
  rw [List.length_map] at z
  unfold SetTable.fits SetTable.fill
  simp only [T.nodum, e, z, Bool.and_eq_true, beq_iff_eq, decide_eq_true_eq]
  exact ⟨trivial, b⟩
theorem Sx.le (R : Sx w s.heap a L es ep t) : L.length ≤ t.mask := by have := R.room; omega
theorem Sx.fits (R : Sx w s.heap a L es ep t) : t.fits es.size = true := fits_of R.tab (rows_len R.rows) R.le
theorem Sx.row (R : Sx w s.heap a L es ep t) {i : Nat} {p : Addr × NK} (h : L[i]? = some p) : es[i]? = some (p.2.hash w, Value.ref p.1) := by
  rw [← Array.getElem?_toList, R.rows, rws, List.getElem?_map, h]
  rfl
theorem quiet_of {k : NK} {b : Addr} (x : Is s.heap k b) {Q : Bool → Shared → Prop} (q : Q true s) : wpAny (model P w) A (eqIsQuiet 8 (.ref b)) Q E s := quiet_key k _ 8 s x.1 x.2.1 A E Q q
theorem unseen {k : NK} {b : Addr} (x : Is s.heap k b) {ys : List Value} (hy : ∀ y ∈ ys, ∃ k' c, y = Value.ref c ∧ Is s.heap k' c) {Q : Bool → Shared → Prop} (q : Q false s) : wpAny (model P w) A (searchCouldBeSeen (.ref b) ys) Q E s := by
  unfold searchCouldBeSeen
  refine wpAny_bind ?_
  refine wpAny_forIn_list _ (fun l r s' => r.1 = none ∧ s' = s ∧ ∀ y ∈ l, ∃ k' c, y = Value.ref c ∧ Is s.heap k' c) _ ?_ ?_ _ _ ⟨rfl, rfl, hy⟩
  · rintro y l r s' ⟨e1, rfl, all⟩
    obtain ⟨k', c, rfl, y1⟩ := all _ List.mem_cons_self
    have tl := fun u hu => all u (List.mem_cons_of_mem _ hu)
    dsimp only
    by_cases z : (b == c || (carriedByValue (.ref b) && carriedByValue (.ref c))) = true
    · exact wp_if_pos z (wpAny_pure ⟨rfl, rfl, tl⟩)
    · refine wp_if_neg z (wpAny_bind (quiet_of x ?_))
      simp only [Bool.not_true, Bool.false_eq_true, if_false]
      refine wpAny_bind (quiet_of y1 ?_)
      simp only [Bool.not_true, Bool.false_eq_true, if_false]
      refine wpAny_bind (notOwn k _ 8 A _ _ _ x.1 x.2.1 ?_)
      simp only [Bool.false_eq_true, if_false]
      refine wpAny_bind (notOwn k' _ 8 A _ _ _ y1.1 y1.2.1 ?_)
      simp only [Bool.false_eq_true, if_false]
      exact wpAny_pure ⟨rfl, rfl, tl⟩
  · rintro ⟨r1, r2⟩ s' ⟨e1, rfl, _⟩
    simp only at e1
    subst e1
    exact wpAny_pure q
theorem eq_of {x y : NK} {b c : Addr} (hx : Is s.heap x b) (hy : Is s.heap y c) (hu : A.units + 8 < cLine) {Q : Bool → Shared → Prop} (q : Q (decide (x = y)) s) : wpAny (model P w) A (eqBool (.ref b) (.ref c)) Q E s :=
  (nestedKind P w).eqBool hu ⟨hx.1, hx.2.1⟩ ⟨hy.1, hy.2.1⟩ q
theorem no_dummy (m : Nat) : ∀ (n : Nat) (p : SetTable.Probe), p.dummy = none → (nth m p n).dummy = none
  | 0, _, h => h
  | n + 1, p, h => no_dummy m n _ (by unfold adv; split <;> exact h)

/-- the search, from step c of the way on -/
theorem seek (R : Sx w s.heap a L es ep t) (tu : ∀ p ∈ L, Is s.heap p.2 p.1) {x : Addr} {k : NK} (hx : Is s.heap k x) (hu : A.units + 8 < cLine) {H : Int} (hH : k.hash w = H) {K : Nat} (b1 : K < 10 * SetTable.turns t.mask)
    (b2 : way t.mask H K ∉ t.place.toList) (b3 : ∀ c, c < K → way t.mask H c ∈ t.place.toList) {Q : SetFound → Shared → Prop}
    (yes : k ∈ L.map (·.2) → Q (.there none) s) (no : k ∉ L.map (·.2) → Q (.free (way t.mask H K) false) s) :
    ∀ (f c : Nat) (stand : Option SetTable.Probe), stand.getD (t.probeStart H) = nth t.mask (stt t.mask H) c → c ≤ K → K - c < f →
      (∀ (i : Nat) p, L[i]? = some p → p.2 = k → ∃ c', c ≤ c' ∧ c' < K ∧ t.place.toList[i]? = some (way t.mask H c')) →
      wpAny (model P w) A (setSearchFrom a (.ref x) H true f stand) Q E s
  | 0, c, stand, _, _, z, _ => by omega
  | f + 1, c, stand, hst, hc, hf, later => by
    obtain ⟨o, ho, hex, hd⟩ := R.ob
    rw [setSearchFrom_succ]
    refine wpAny_bind (wpAny_setState_of ho hd R.fits ?_)
    dsimp only
    refine wp_if_neg (by unfold SetTable.gaveWay; rw [R.tab.msk.odd]; decide) ?_
    try refine wpAny_bind (wpAny_pure ?_)
    have at_ : ∀ q, nth t.mask (nth t.mask (stt t.mask H) c) q = nth t.mask (stt t.mask H) (c + q) := fun q => (nth_add t.mask c _ q).symm
    have atj : ∀ q, (nth t.mask (nth t.mask (stt t.mask H) c) q).j = way t.mask H (c + q) := fun q => congrArg SetTable.Probe.j (at_ q)
    have cK : c + (K - c) = K := Nat.add_sub_cancel' hc
    let hashAt : Nat → Int := fun i => (es[i]?.map (·.1)).getD 0
    have hash_at : ∀ (i : Nat) p, L[i]? = some p → hashAt i = p.2.hash w := fun i p hp => by
      change (es[i]?.map (·.1)).getD 0 = _
      rw [R.row hp]
      rfl
    -- no equal one is left out
    have missed : ∀ (q i : Nat) p, L[i]? = some p → p.2 = k → t.place.toList[i]? = some (way t.mask H (c + q)) → hashAt i = H := fun q i p hp e _ => by rw [hash_at i p hp, e, hH]
    rcases go_spec t R.tab.up R.tab.nodum hashAt H (10 * SetTable.turns t.mask) (K - c) _ (no_dummy t.mask c (stt t.mask H) rfl) (by omega)
      (fun q hq => by rw [atj]; exact b3 _ (by omega)) (by rw [atj, cK]; exact b2) with ⟨q, i, q1, q2, q3, q4, q5⟩ | ⟨q4, q5⟩
    · have pr : t.probe hashAt H (stand.getD (t.probeStart H)) = some (.candidate (way t.mask H (c + q)) i (nth t.mask (stt t.mask H) (c + (q + 1)))) := by
        rw [hst, ← atj, ← at_]
        exact q5
      rw [pr]
      dsimp only
      rw [atj] at q2
      have iL : i < L.length := by
        have z1 := (List.getElem?_eq_some_iff.mp q2).1
        have z2 := R.tab.num
        rw [List.length_map] at z2
        rw [Array.length_toList, z2] at z1
        exact z1
      obtain ⟨p, hp⟩ : ∃ p, L[i]? = some p := ⟨_, List.getElem?_eq_getElem iL⟩
      have pm := List.mem_of_getElem? hp
      have on : wpAny (model P w) A (searchRest a (.ref x) H true f es t (way t.mask H (c + q)) i (nth t.mask (stt t.mask H) (c + (q + 1)))) Q E s := by
        unfold searchRest
        rw [R.row hp]
        dsimp only
        refine wpAny_bind (wpAny_holding (eq_of (tu p pm) hx hu ?_))
        refine wpAny_bind (wpAny_setState_of ho hd R.fits ?_)
        dsimp only
        by_cases e : p.2 = k
        · refine wp_if_pos (by simp [e]) (wpAny_pure (yes ?_))
          rw [← e]
          exact List.mem_map_of_mem pm
        · refine wp_if_neg (by simp [e]) ?_
          try refine wpAny_bind (wpAny_pure ?_)
          rw [sameMem]
          dsimp only
          have sl : t.slot (way t.mask H (c + q)) = .live i := slot_live R.tab.up q2
          simp only [if_true, sl, R.row hp]
          refine wpAny_bind (wpAny_isSame_ref_self (wpAny_bind (wpAny_pure ?_)))
          simp only [if_true]
          refine wp_if_neg (by simp [e]) ?_
          refine seek R tu hx hu hH b1 b2 b3 yes no f (c + (q + 1)) _ rfl (by omega) (by omega) fun i0 p0 g0 ge => ?_
          obtain ⟨c', w1, w2, w3⟩ := later i0 p0 g0 ge
          refine ⟨c', Classical.byContradiction fun z => ?_, w2, w3⟩
          by_cases y : c' = c + q
          · rw [y] at w3
            have s0 := slot_live R.tab.up w3
            rw [sl] at s0
            cases s0
            rw [hp] at g0
            cases g0
            exact e ge
          · have cc : c + (c' - c) = c' := by omega
            exact q4 (c' - c) i0 (by omega) (by rw [atj, cc]; exact w3) (missed (c' - c) i0 p0 g0 ge (by rw [cc]; exact w3))
      by_cases ld : t.led = true
      · refine wp_if_neg (by simp [ld]) ?_
        try refine wpAny_bind (wpAny_pure ?_)
        exact on
      · refine wp_if_pos (by simp [ld]) ?_
        refine wpAny_bind (unseen hx (fun y hy => ?_) ?_)
        · obtain ⟨r, r1, r2⟩ := List.mem_map.mp hy
          have r3 : r ∈ es.toList := by
            have : r ∈ es ∧ r.1 = H := by simpa using r1
            simpa using this.1
          rw [R.rows] at r3
          obtain ⟨p2, p3, p4⟩ := List.mem_map.mp r3
          exact ⟨p2.2, p2.1, by rw [← r2, ← p4], tu p2 p3⟩
        · refine wp_if_neg (by decide) ?_
          try refine wpAny_bind (wpAny_pure ?_)
          exact on
    · have pr : t.probe hashAt H (stand.getD (t.probeStart H)) = some (.empty (way t.mask H K) none) := by
        rw [hst, ← cK, ← atj]
        exact q5
      rw [pr]
      dsimp only
      refine wpAny_pure (no fun hm => ?_)
      obtain ⟨p0, g0, ge⟩ := List.mem_map.mp hm
      obtain ⟨i0, gi⟩ := List.getElem?_of_mem g0
      obtain ⟨c', w1, w2, w3⟩ := later i0 p0 gi ge
      have cc : c + (c' - c) = c' := by omega
      exact q4 (c' - c) i0 (by omega) (by rw [atj, cc]; exact w3) (missed (c' - c) i0 p0 gi ge (by rw [cc]; exact w3))
theorem find (R : Sx w s.heap a L es ep t) (tu : ∀ p ∈ L, Is s.heap p.2 p.1) {x : Addr} {k : NK} (hx : Is s.heap k x) (hu : A.units + 8 < cLine) {H : Int} (hH : k.hash w = H) {Q : SetFound → Shared → Prop}
    (yes : k ∈ L.map (·.2) → Q (.there none) s)
    (no : ∀ K, k ∉ L.map (·.2) → way t.mask H K ∉ t.place.toList → (∀ c, c < K → way t.mask H c ∈ t.place.toList) → Q (.free (way t.mask H K) false) s) :
    wpAny (model P w) A (setSearch a (.ref x) H true) Q E s := by
  obtain ⟨K, k1, k2, k3⟩ := R.tab.free (by rw [List.length_map]; exact R.le) H
  have small := R.tab.msk.le
  have k4 : K < 100000 := by unfold SetTable.turns at k1; omega
  unfold setSearch
  refine seek R tu hx hu hH k1 k2 k3 yes (fun n => no K n k2 k3) 100000 0 none rfl (Nat.zero_le _) (by omega) fun i p hp e => ?_
  have iT : i < t.place.toList.length := by
    rw [Array.length_toList, R.tab.num, List.length_map]
    exact (List.getElem?_eq_some_iff.mp hp).1
  obtain ⟨c, c1, c2⟩ := R.tab.ahead (h := H) k2 (i := i) (by rw [List.getElem?_map, hp, ← hH, ← e]; rfl) (List.getElem?_eq_getElem iT)
  exact ⟨c, Nat.zero_le _, c1, by rw [List.getElem?_eq_getElem iT, c2]⟩
theorem pick_rows (L : List (Addr × NK)) (order : Array Nat) (hr : es.toList = rws w L) (hp : order.toList.Perm (List.range L.length)) :
    ∃ L2, (order.filterMap (es[·]?)).toList = rws w L2 ∧ L2.Perm L ∧ (L2.map fun p => p.2.hash w) = order.toList.map fun i => (es.map (·.1)).getD i 0 := by
  have ent : ∀ i (p : Addr × NK), L[i]? = some p → es[i]? = some (p.2.hash w, Value.ref p.1) := fun i p h => by
    rw [← Array.getElem?_toList, hr, rws, List.getElem?_map, h]
    rfl
  have go : ∀ l : List Nat, (∀ i ∈ l, i < L.length) → l.filterMap (fun i => es[i]?) = rws w (l.filterMap fun i => L[i]?) ∧ ((l.filterMap fun i => L[i]?).map fun p => p.2.hash w) = l.map fun i => (es.map (·.1)).getD i 0 := by
    intro l
    induction l with
    | nil => exact fun _ => ⟨rfl, rfl⟩
    | cons i l ih =>
      intro hl
      obtain ⟨e1, e2⟩ := ih fun j hj => hl j (List.mem_cons_of_mem _ hj)
      obtain ⟨p, hp⟩ : ∃ p, L[i]? = some p := ⟨_, List.getElem?_eq_getElem (hl i List.mem_cons_self)⟩
      rw [List.filterMap_cons_some (ent i p hp), List.filterMap_cons_some hp, e1]
      refine ⟨rfl, ?_⟩
      rw [List.map_cons, List.map_cons, e2, Array.getD_eq_getD_getElem?, Array.getElem?_map, ent i p hp]
      rfl
  obtain ⟨e1, e2⟩ := go order.toList fun i hi => List.mem_range.mp (hp.mem_iff.mp hi)
  refine ⟨_, by first | (rw [Array.toList_filterMap]; exact e1) | simpa using e1, ?_, e2⟩
  have whole : (List.range L.length).filterMap (fun i => L[i]?) = L := by
    have : ∀ n, n ≤ L.length → (List.range n).filterMap (fun i => L[i]?) = L.take n := by
      intro n
      induction n with
      | zero => intro _; simp
      | succ n ih =>
        intro hn
        rw [List.range_succ, List.filterMap_append, ih (by omega), List.take_succ]
        congr 1
        try simp [List.getElem?_eq_getElem (show n < L.length by omega)]
    simpa using this L.length (Nat.le_refl _)
  have z := hp.filterMap fun i => L[i]?
  rw [whole] at z
  exact z
/-- laid anew in a larger table -/
theorem relay {o : Obj} (ho : s.heap.get? a = some o) (hex : o.ExactSet) (hd : o.data = .set es ep t) (hr : es.toList = rws w L) (T : Tb t (L.map fun p => p.2.hash w)) (hl : L.length ≤ t.mask)
    (nd : (L.map (·.2)).Nodup) (pl : t.plain = true) (ld : w.params.followText "set-order" = true ∨ t.led = true) {n M : Nat}
    (hw : SetTable.sizeAbove n = M + 1) (hM : Msk M) (hn : L.length * 5 < M * 3) {Q : Unit → Shared → Prop}
    (hQ : ∀ h' L' es' ep' t', Heap.SameBut a s.heap h' → Sx w h' a L' es' ep' t' → L'.Perm L → Q () { s with heap := h' }) : wpAny (model P w) A (setRelay a n) Q E s := by
  have len := rows_len hr
  have mle := hM.le
  obtain ⟨t', order, e, pm, T', em, el, epl⟩ := relaid' t (hs := es.map (·.1)) (wanted := n) (M := M) (by omega) hM (by rw [Array.size_map, len]; omega)
  rw [Array.size_map, len] at pm
  obtain ⟨L2, r1, r2, r3⟩ := pick_rows L order hr pm
  rw [← r3] at T'
  have len2 : (order.filterMap (es[·]?)).size = es.size := by rw [rows_len r1, r2.length_eq, len]
  rw [setRelay_eq]
  refine wpAny_bind (wpAny_setState_of ho hd (fits_of T len hl) ?_)
  dsimp only
  refine wp_if_neg (by rw [sizeLine_eq]; omega) ?_
  try refine wpAny_bind (wpAny_pure ?_)
  rw [e]
  dsimp only
  refine wpAny_bind (wp_if_neg (by rw [len2]; simp) ?_)
  try refine wpAny_bind (wpAny_pure ?_)
  refine wpAny_pure ?_
  dsimp only
  refine wpAny_storeSet_of ho hd ?_ (by rw [len2, len, sizeLine_eq]; omega)
  have sb : Heap.SameBut a s.heap (s.heap.update a (Obj.putSet (order.filterMap (es[·]?)) t')) := Heap.SameBut.update ..
  exact hQ _ L2 _ (ep + 1) t' sb ⟨⟨_, store_at ho hd, ⟨hex.1, hex.2.1, hex.2.2⟩, rfl⟩, r1, T', (r2.map (·.2)).nodup_iff.mpr nd, by rw [epl]; exact pl, by rw [el]; exact ld, by rw [r2.length_eq, em]; exact hn⟩ r2
theorem sz20 : SetTable.sizeAbove (SetTable.grown 5) = 31 + 1 := by decide +kernel
theorem sz76 : SetTable.sizeAbove (SetTable.grown 19) = 127 + 1 := by decide +kernel
/-- one is added -/
theorem add (R : Sx w s.heap a L es ep t) (tu : ∀ p ∈ L, Is s.heap p.2 p.1) {x : Addr} {k : NK} (hx : Is s.heap k x) (hu : A.units + 8 < cLine) (few : L.length < 305) {Q : Bool → Shared → Prop}
    (hQ : ∀ b h' L' es' ep' t', Heap.SameBut a s.heap h' → Sx w h' a L' es' ep' t' → (k ∈ L.map (·.2) → L' = L) → (k ∉ L.map (·.2) → L'.Perm ((x, k) :: L)) → Q b { s with heap := h' }) :
    wpAny (model P w) A (setAddHashed a (.ref x) (k.hash w)) Q E s := by
  obtain ⟨o, ho, hex, hd⟩ := R.ob
  have len := rows_len R.rows
  have room := R.room
  generalize hH : k.hash w = H
  unfold setAddHashed
  refine wpAny_holding ?_
  rw [show (100000 : Nat) = 99999 + 1 from rfl, setAddHashedIn_succ]
  refine wpAny_bind (wpAny_setState_of ho hd R.fits ?_)
  dsimp only
  refine wp_if_neg (by simp [byScan, Value.scannable]) ?_
  try refine wpAny_bind (wpAny_pure ?_)
  refine wpAny_bind (find R tu hx hu hH (fun hm => ?_) fun K hm hK hb => ?_)
  · dsimp only
    exact wpAny_pure (hQ false s.heap L es ep t (Heap.SameBut.refl a s.heap) R (fun _ => rfl) (absurd hm))
  · dsimp only
    refine wpAny_bind (wpAny_setState_of ho hd R.fits ?_)
    dsimp only
    obtain ⟨p, hp⟩ : ∃ p, SetTable.below t.place (way t.mask H K) = p := ⟨_, rfl⟩
    obtain ⟨z1, z2, z3⟩ := R.tab.ins (h := H) hK hb p hp
    have plc : (t.put (way t.mask H K)).2 = p := hp
    have pl1 : (t.put (way t.mask H K)).1.plain = true := R.plain
    have mk1 : (t.put (way t.mask H K)).1.mask = t.mask := rfl
    have ld1 : w.params.followText "set-order" = true ∨ (t.put (way t.mask H K)).1.led = true := R.led
    generalize t.put (way t.mask H K) = pt at z2 z3 plc pl1 mk1 ld1 ⊢
    obtain ⟨t1, p1⟩ := pt
    dsimp only at z2 z3 plc pl1 mk1 ld1 ⊢
    subst plc
    first
      | (refine wpAny_bind ?_; refine wp_if_pos pl1 ?_; refine byVal k _ 8 A _ _ _ hx.1 hx.2.2 hx.2.1 ?_)
      | refine wp_if_pos pl1 (wpAny_bind (byVal k _ 8 A _ _ _ hx.1 hx.2.2 hx.2.1 ?_))
    simp only [if_true]
    have lay : (SetTable.insertAt es p1 (H, Value.ref x)).toList = rws w (L.take p1 ++ (x, k) :: L.drop p1) := by
      rw [SetTable.toList_insertAt, R.rows]
      simp only [rws, List.map_append, List.map_cons, List.map_take, List.map_drop, hH]
    have pm : (L.take p1 ++ (x, k) :: L.drop p1).Perm ((x, k) :: L) := put_perm L p1 (x, k)
    have hsh : (L.take p1 ++ (x, k) :: L.drop p1).map (fun p => p.2.hash w) = (L.map fun p => p.2.hash w).take p1 ++ H :: (L.map fun p => p.2.hash w).drop p1 := by
      simp only [List.map_append, List.map_cons, List.map_take, List.map_drop, hH]
    rw [← hsh] at z2
    have nd1 : ((L.take p1 ++ (x, k) :: L.drop p1).map (·.2)).Nodup := (pm.map (·.2)).nodup_iff.mpr (List.nodup_cons.mpr ⟨hm, R.nd⟩)
    generalize L.take p1 ++ (x, k) :: L.drop p1 = L1 at lay pm z2 nd1
    have len1 : L1.length = L.length + 1 := pm.length_eq
    have les := rows_len lay
    generalize SetTable.insertAt es p1 (H, Value.ref x) = es1 at lay les ⊢
    refine wpAny_bind (wpAny_storeSet_of ho hd ?_ (by rw [les, len1, sizeLine_eq]; omega))
    have sb : Heap.SameBut a s.heap (s.heap.update a (Obj.putSet es1 t1)) := Heap.SameBut.update ..
    have ho1 := store_at (es' := es1) (t' := t1) ho hd
    generalize s.heap.update a (Obj.putSet es1 t1) = h1 at sb ho1 ⊢
    by_cases full : t1.tooFull = true
    · first
        | (refine wpAny_bind ?_; refine wp_if_pos (by simp [full]) ?_)
        | (refine wp_if_pos (by simp [full]) ?_; refine wpAny_bind ?_)
      have hfull : (L.length + 1) * 5 ≥ t.mask * 3 := by
        unfold SetTable.tooFull at full
        rw [decide_eq_true_eq, z3, List.length_map, mk1] at full
        exact full
      rw [len]
      have go : ∀ M, SetTable.sizeAbove (SetTable.grown (L.length + 1)) = M + 1 → Msk M → (L.length + 1) * 5 < M * 3 →
          wpAny (model P w) A (setRelay a (SetTable.grown (L.length + 1))) (fun _ s' => wpAny (model P w) A (pure true) Q E s') E { s with heap := h1 } := fun M g1 g2 g3 =>
        relay (s := { s with heap := h1 }) ho1 ⟨hex.1, hex.2.1, hex.2.2⟩ rfl lay z2 (by rw [len1, mk1]; have := R.tab.msk; rcases this with (e | e | e) | e <;> (rw [e] at room ⊢; omega)) nd1 pl1 ld1 g1 g2 (by rw [len1]; exact g3)
          fun h2 L2 es2 ep2 t2 sb2 R2 pm2 => wpAny_pure (hQ true h2 L2 es2 ep2 t2 (sb.trans sb2) R2 (fun z => absurd z hm) fun _ => pm2.trans pm)
      rcases R.tab.msk with (e | e | e) | e
      · have : L.length = 4 := by rw [e] at room hfull; omega
        exact go 31 (by rw [this, sz20]) (.inl (.inr (.inl rfl))) (by omega)
      · have : L.length = 18 := by rw [e] at room hfull; omega
        exact go 127 (by rw [this, sz76]) (.inl (.inr (.inr rfl))) (by omega)
      · have : L.length = 76 := by rw [e] at room hfull; omega
        exact go 511 (by rw [this, size_308]) (.inr rfl) (by omega)
      · rw [e] at room hfull; omega
    · first
        | refine wp_if_neg (by simp [full]) ?_
        | (refine wpAny_bind ?_; refine wp_if_neg (by simp [full]) ?_; refine wpAny_pure ?_)
      refine wpAny_pure (hQ true h1 L1 es1 (ep + 1) t1 sb ⟨⟨_, ho1, ⟨hex.1, hex.2.1, hex.2.2⟩, rfl⟩, lay, z2, nd1, pl1, ld1, ?_⟩ (fun z => absurd z hm) fun _ => pm)
      unfold SetTable.tooFull at full
      rw [decide_eq_true_eq, z3, List.length_map] at full
      omega
theorem Sx.fresh {h : Heap} (ho : h.get? a = some { cls := .type "set", dict := none, data := .set #[] 0 (.fresh 0 0 (!w.params.followText "set-order")) }) : Sx w h a [] #[] 0 (.fresh 0 0 (!w.params.followText "set-order")) where
  ob := ⟨_, ho, ⟨rfl, rfl, rfl⟩, rfl⟩
  rows := rfl
  tab := ⟨.nil, rfl, rfl, .inl (.inl rfl), fun _ q => (by cases q), fun _ _ _ q => (by simp at q)⟩
  nd := .nil
  plain := rfl
  led := by
    change _ ∨ (!w.params.followText "set-order") = true
    cases w.params.followText "set-order" <;> simp
  room := by change 0 * 5 < 7 * 3; decide
end
end SS
set_option Elab.async false
set_option linter.all false
set_option maxRecDepth 100000
set_option maxHeartbeats 1000000
/-! SC: set comprehensions whose elements are tuples; sorted of sets and of lists, by data. -/
namespace DL
open PySem PySem.Spec PyProof.Rows L2
mutual
def D.nk : D → NestedKey
  | .non => .none
  | .bl b => .num (if b = true then 1 else 0)
  | .int i => .num i
  | .str x => .text x
  | .tup xs => .tup (nks xs)
  | .lst _ => .none
  | .obj _ _ _ => .none
def nks : List D → List NestedKey
  | [] => []
  | d :: ds => d.nk :: nks ds
end
mutual
/-- a key of this depth, no text within -/
def kOk : Nat → D → Bool
  | _, .non => true
  | _, .bl _ => true
  | _, .int _ => true
  | _, .str _ => false
  | _, .lst _ => false
  | _, .obj _ _ _ => false
  | 0, .tup _ => false
  | n + 1, .tup xs => kOks n xs
def kOks : Nat → List D → Bool
  | _, [] => true
  | n, d :: ds => kOk n d && kOks n ds
end
section
variable {X : Cx} {pins : List (Addr × Obj)} {σ : L2.St} {H : Hp} {s : Shared}
mutual
theorem rep_nk (I : Inv X pins σ H s) : ∀ (d : D) (v : V) (u : Value) (n : Nat), Rep X.K X.mg H v d → RelV v u → kOk n d = true → NestedIs s.heap d.nk u ∧ d.nk.depth ≤ n ∧ SS.nt d.nk = true
  | .non, _, _, n, r, e, _ => by cases r; cases e; exact ⟨.none, Nat.zero_le _, rfl⟩
  | .bl b, _, _, n, r, e, _ => by cases r; cases e; exact ⟨.bool rfl, Nat.zero_le _, rfl⟩
  | .int i, _, _, n, r, e, _ => by cases r; obtain ⟨t, rfl⟩ := e; exact ⟨.int i t, Nat.zero_le _, rfl⟩
  | .str _, _, _, n, _, _, k => by cases n <;> cases k
  | .lst _, _, _, n, _, _, k => by cases n <;> cases k
  | .obj _ _ _, _, _, n, _, _, k => by cases n <;> cases k
  | .tup ds, _, _, 0, _, _, k => by cases k
  | .tup ds, _, _, n + 1, r, e, k => by
    cases r with
    | tup a b =>
      cases e
      obtain ⟨its, rv, ⟨o, ho, hc, m, hd⟩, _⟩ := I.tuple a
      obtain ⟨h1, h2, h3⟩ := rep_nks I ds _ its n b rv k
      exact ⟨.tup ho hc hd (by simpa using h1), Nat.succ_le_succ h2, h3⟩
theorem rep_nks (I : Inv X pins σ H s) : ∀ (ds : List D) (vs : List V) (us : List Value) (n : Nat), RepAll X.K X.mg H vs ds → Vals vs us → kOks n ds = true → NestedAll s.heap (nks ds) us ∧ NestedKey.depthAll (nks ds) ≤ n ∧ SS.nts (nks ds) = true
  | [], _, _, n, r, e, _ => by cases r; cases e; exact ⟨.nil, Nat.zero_le _, rfl⟩
  | d :: ds, _, _, n, r, e, k => by
    have k : (kOk n d && kOks n ds) = true := k
    rw [Bool.and_eq_true] at k
    cases r with
    | cons r1 r2 =>
      cases e with
      | cons e1 e2 =>
        obtain ⟨h1, h2, h3⟩ := rep_nk I d _ _ n r1 e1 k.1
        obtain ⟨g1, g2, g3⟩ := rep_nks I ds _ _ n r2 e2 k.2
        exact ⟨.cons h1 g1, Nat.max_le.mpr ⟨h2, g2⟩, by show (SS.nt d.nk && SS.nts (nks ds)) = true; rw [h3, g3]; rfl⟩
end
end

/-! ### the set as a tracked thing -/
abbrev Row := Addr × D
def kz (Z : List Row) : List (Addr × NestedKey) := Z.map fun z => (z.1, z.2.nk)
/-- a set whose elements are the tuples of Z -/
def SxO (w : World) (a : Addr) (Z : List Row) : HO := .ext fun h => ∃ es ep t, SS.Sx w h a (kz Z) es ep t
theorem Sx_keep {w : World} {h h' : Heap} {a : Addr} {L : List (Addr × NestedKey)} {es : Array (Int × Value)} {ep : Nat} {t : SetTable} (R : SS.Sx w h a L es ep t) (e : ∀ o, h.get? a = some o → h'.get? a = some o) : SS.Sx w h' a L es ep t := by
  obtain ⟨o, ho, z⟩ := R.ob
  exact ⟨⟨o, e o ho, z⟩, R.rows, R.tab, R.nd, R.plain, R.led, R.room⟩
theorem SxO_new {w : World} {P : Program} {H : Hp} {h : Heap} {a : Addr} {Z : List Row} (R : ∃ es ep t, SS.Sx w h a (kz Z) es ep t) : ObjOk P w H h a (SxO w a Z) := by
  have ⟨es, ep, t, R1⟩ := R
  have ⟨o, ho, _⟩ := R1.ob
  exact ⟨R, ⟨o, ho⟩, fun h1 h2 ⟨es', ep', t', p⟩ k => ⟨es', ep', t', Sx_keep p (k)⟩⟩
section
variable {X : Cx} {pins : List (Addr × Obj)} {σ : L2.St} {H : Hp} {s : Shared} {E : Value → Shared → Prop}
theorem SxO_get {a : Addr} {Z : List Row} (I : Inv X pins σ H s) (h : H a = some (SxO X.w a Z)) : ∃ es ep t, SS.Sx X.w s.heap a (kz Z) es ep t := (I.hok a _ h).1
/-- the rows' tuples stand -/
def RowsOk (K : PySem.W.Frag) (mg : Str → Option Value) (H : Hp) (Z : List Row) : Prop := ∀ z ∈ Z, Rep K mg H (.ref z.1) z.2 ∧ kOk 8 z.2 = true
theorem rows_is (I : Inv X pins σ H s) {Z : List Row} (h : RowsOk X.K X.mg H Z) : ∀ p ∈ kz Z, SS.Is s.heap p.2 p.1 := fun p hp => by
  obtain ⟨z, hz, rfl⟩ := List.mem_map.mp hp
  obtain ⟨r, k⟩ := h z hz
  exact rep_nk I z.2 _ _ 8 r rfl k
/-- a perm of an image is an image of a perm -/
theorem perm_img {α β : Type} {f : α → β} {m l : List β} (pm : m.Perm l) : ∀ L : List α, l = L.map f → ∃ L1 : List α, L1.Perm L ∧ m = L1.map f := by
  induction pm with
  | nil => intro L e; exact ⟨L, .refl _, e⟩
  | @cons x m l _ ih =>
    intro L e
    cases L with
    | nil => cases e
    | cons y L =>
      rw [List.map_cons] at e
      injection e with e1 e2
      obtain ⟨L1, p1, rfl⟩ := ih L e2
      exact ⟨y :: L1, p1.cons y, by rw [List.map_cons, e1]⟩
  | @swap x y m =>
    intro L e
    cases L with
    | nil => cases e
    | cons a L =>
      cases L with
      | nil => cases e
      | cons b L =>
        simp only [List.map_cons, List.cons.injEq] at e
        obtain ⟨rfl, rfl, rfl⟩ := e
        exact ⟨b :: a :: L, .swap .., rfl⟩
  | trans _ _ ih1 ih2 =>
    intro L e
    obtain ⟨L2, p2, rfl⟩ := ih2 L e
    obtain ⟨L1, p1, rfl⟩ := ih1 L2 rfl
    exact ⟨L1, p1.trans p2, rfl⟩
theorem kz_perm {L : List (Addr × NestedKey)} {Z : List Row} {z : Row} (pm : L.Perm ((z.1, z.2.nk) :: kz Z)) : ∃ Z1 : List Row, Z1.Perm (z :: Z) ∧ L = kz Z1 := perm_img (f := fun z : Row => (z.1, z.2.nk)) pm (z :: Z) rfl

/-- D.add(x) -/
theorem add_sx {Dn b : Addr} {d : D} {Z : List Row} {Q : Value → Shared → Prop} (I : Inv X pins σ H s) (hu : X.A.units + 16 < cLine) (hD : H Dn = some (SxO X.w Dn Z)) (ok : RowsOk X.K X.mg H Z) (rb : Rep X.K X.mg H (.ref b) d) (kb : kOk 8 d = true) (few : Z.length < 305)
    (h : ∀ s' Z', (d.nk ∈ (kz Z).map (·.2) → Z' = Z) → (d.nk ∉ (kz Z).map (·.2) → Z'.Perm ((b, d) :: Z)) → Inv X pins σ (upd H Dn (SxO X.w Dn Z')) s' → Q .none s') :
    wpAny (model X.prog X.w) X.A (call (.builtin "set.add") [.ref Dn, .ref b]) Q E s := by
  obtain ⟨es, ep, t, R⟩ := SxO_get I hD
  have xi := rep_nk I d _ _ 8 rb rfl kb
  have ti : s.TypeIs (.ref Dn) "set" := by
    obtain ⟨o, ho, hx, _⟩ := R.ob
    exact ⟨o, ho, hx.1⟩
  refine wpAny_call_entry F.slot_set_add ti F.entry_set_add ?_ (F.args_set_add_2 _ _)
  unfold Builtin.«set.add» Builtin.Frozenset.oneOther
  simp only [List.isEmpty_nil, bind_assoc]
  unfold Builtin.Frozenset.addrOf setAdd
  refine wpAny_bind (wpAny_pure ?_)
  try dsimp only
  refine wpAny_bind (wpAny_pure ?_)
  try dsimp only
  refine wpAny_bind (wpAny_holding ?_)
  refine wpAny_bind ((nestedKind X.prog X.w).pyHash (A := X.A.in1) (show X.A.units + 1 + 8 < cLine by omega) (k := d.nk) ⟨xi.1, xi.2.1⟩ ?_)
  refine SS.add (s := { s with toks := s.toks + NestedKey.draws d.nk }) R (rows_is I ok) xi (A := X.A.in1) (show X.A.units + 1 + 8 < cLine by omega) (by rw [kz, List.length_map]; exact few) fun bb h' L' es' ep' t' sb R' c1 c2 => ?_
  change wpAny _ _ (ret Value.none) _ _ _
  obtain ⟨Z', z1, z2, z3⟩ : ∃ Z' : List Row, L' = kz Z' ∧ (d.nk ∈ (kz Z).map (·.2) → Z' = Z) ∧ (d.nk ∉ (kz Z).map (·.2) → Z'.Perm ((b, d) :: Z)) := by
    by_cases c : d.nk ∈ (kz Z).map (·.2)
    · exact ⟨Z, c1 c, fun _ => rfl, fun n => absurd c n⟩
    · obtain ⟨Z1, p1, p2⟩ := kz_perm (z := (b, d)) (c2 c)
      exact ⟨Z1, p2, fun n => absurd n c, fun _ => p1⟩
  subst z1
  have keep : ∀ c u, c ≠ Dn → s.heap.get? c = some u → h'.get? c = some u := fun c u hc hu => (sb.2 c hc).trans hu
  have there : ∃ u, h'.get? Dn = some u := let ⟨o, ho, _⟩ := R'.ob; ⟨o, ho⟩
  exact wpAny_pure ⟨_, rfl, h _ Z' z2 z3 (I.write (e := Dn) (t' := s.toks + NestedKey.draws d.nk) (by rw [hD]; trivial) (.inl rfl) keep there (SxO_new ⟨es', ep', t', R'⟩))⟩
end
open PpSet
section
variable {X : Cx}
/-- {elt for target in iter if ..}: Dn the new set -/
def tSx (K : PySem.W.Frag) (mg : Str → Option Value) (w : World) (wi : TI) (g : TG) (tt : TT) (te : TE) (vs : List Nat) : TE := fun σ H Q => wi σ H fun J H1 => ∀ Dn, H1 Dn = none → ∃ W : Nat → Nat → Hp → Prop, (∃ m, W 0 m (upd H1 Dn (SxO w Dn []))) ∧ ∀ i m Hc, W i m Hc →
  (J.stop i Hc ∧ Q (.ref Dn) Hc) ∨ (J.go i Hc ∧ ∃ Nx : Hp → Prop, (∀ H', Nx H' → ∃ m', m' < m ∧ W (i + 1) m' H') ∧ ∀ x H', J.yld i Hc x H' → g x (wipe σ vs) H' fun σ2 H2 => wipe σ2 vs = wipe σ vs ∧ tt σ2 H2 fun b H3 =>
    if b = true then te σ2 H3 fun y H4 => ∃ (p : Addr) (d : D) (Z : List Row), y = .ref p ∧ H4 Dn = some (SxO w Dn Z) ∧ RowsOk K mg H4 Z ∧ Rep K mg H4 (.ref p) d ∧ kOk 8 d = true ∧ Z.length < 305 ∧
      ∀ Z', (d.nk ∈ (kz Z).map (·.2) → Z' = Z) → (d.nk ∉ (kz Z).map (·.2) → Z'.Perm ((p, d) :: Z)) → Nx (upd H4 Dn (SxO w Dn Z')) else Nx H3)
theorem pe_sx {elt tg iter : PySem.Expr} {ifs : List PySem.Expr} {scope : Scope} {own : List (Str × Nat)} {pos : Pos} {wi : TI} {g : TG} {tt : TT} {te : TE} (hc : X.calm = true) (hu : X.A.units + 16 < cLine) (hN : X.N.Nodup) (hi : PI X tg iter wi) (ok : BlkOk X.N X.env.scope scope own)
    (hg : ∀ (s : Shared) (H : Hp) (C : Addr) (cl : List (Str × Addr)) (fp : List Addr), PG (X.blk s H scope (compEnvC scope cl C X.env) fp) tg g) (ht : ∀ (s : Shared) (H : Hp) (C : Addr) (cl : List (Str × Addr)) (fp : List Addr), PTs (X.blk s H scope (compEnvC scope cl C X.env) fp) ifs tt)
    (he : ∀ (s : Shared) (H : Hp) (C : Addr) (cl : List (Str × Addr)) (fp : List Addr), PE (X.blk s H scope (compEnvC scope cl C X.env) fp) elt te) (hs : ∀ x, foldedSetIterable iter X.env x = pure x := by intro _; rfl) :
    PE X (.SetComp elt [⟨tg, iter, ifs, 0⟩] scope pos) (tSx X.K X.mg X.w wi g tt te (own.map (·.2))) := by
  refine ⟨fun pins s σ H Q I h => ?_⟩
  rw [eval_SetComp]
  have frees : ∀ y ∈ scope.names, y.2 = .free → ∃ c, X.env.cells.lookup y.1 = some c := fun y hy e => I.ok.has _ (by
    rcases ok.free y hy e with z | z
    · exact .inl z
    · exact .inr z)
  refine wpAny_comprehension_free (use := none) rfl hs (closure_ok frees) ok.kind (fun y hy e => by rw [ok.uniq y hy, e]) (thn (hi.run pins s σ H _ I h) fun xv s1 k1 => thn k1 fun itv s2 k2 => ?_)
  obtain ⟨it, fp, tn, J, H2, rfl, I2, T, st2, fr2, q⟩ := k2
  refine newSet_ok (newEnv_comp ?_)
  obtain ⟨Dn, hDn⟩ : ∃ n, s2.heap.objs.size = n := ⟨_, rfl⟩
  rw [hDn]
  have noD : H2 Dn = none := I2.hok.fresh (Nat.le_of_eq hDn)
  obtain ⟨W, ⟨m0, w0⟩, turn⟩ := q Dn noD
  -- the new set
  let emp : Obj := { cls := .type "set", dict := none, data := .set #[] 0 (.fresh 0 0 (!X.w.params.followText "set-order")) }
  obtain ⟨s3, hs3⟩ : ∃ z : Shared, z = { s2 with heap := s2.heap.push emp } := ⟨_, rfl⟩
  have hp3 : s3.heap = s2.heap.push emp := by rw [hs3]
  obtain ⟨H3, hH3⟩ : ∃ z, z = upd H2 Dn (SxO X.w Dn []) := ⟨_, rfl⟩
  rw [← hH3] at w0
  have I3 : Inv X pins σ H3 s3 := by
    rw [hs3, hH3]
    refine I2.laid (t' := s2.toks) (fun b o e => Heap.get?_push_of_some _ e) (Nat.le_of_eq hDn) (SxO_new ⟨#[], 0, _, SS.Sx.fresh ?_⟩)
    rw [← hDn]
    exact Heap.get?_push_size _ rfl
  have small : ∀ b ∈ fp, b < s2.heap.objs.size := fun b hb => let ⟨o, e, _⟩ := T.obj _ _ st2 b hb; Heap.lt_size e
  have fr3 : ∀ b ∈ fp, FpOk X pins H3 b ∧ b < s3.heap.objs.size := fun b hb => by
    have lt := small b hb
    obtain ⟨z1, z2⟩ := fr2 b hb
    refine ⟨⟨?_, z2⟩, by rw [hp3, Heap.size_push]; exact Nat.lt_succ_of_lt lt⟩
    rw [hH3, upd_ne (fun z => Nat.lt_irrefl _ (by rw [z, ← hDn] at lt; exact lt))]
    exact z1
  have st3 : tn 0 s3.heap := T.keep _ _ _ st2 fun b _ o e => by rw [hp3]; exact Heap.get?_push_of_some _ e
  have I4 := block_start I3 ok hN fr3
  have none3 : ∀ b ∈ fp, H3 b = none := fun b hb => (fr3 b hb).1.1
  have pg := hg s3 H3 s3.heap.objs.size (cellsFrom (s3.heap.objs.size + 1) scope.names (cloFrom X.env.cells scope.names [])) fp
  have pt := ht s3 H3 s3.heap.objs.size (cellsFrom (s3.heap.objs.size + 1) scope.names (cloFrom X.env.cells scope.names [])) fp
  have pe := he s3 H3 s3.heap.objs.size (cellsFrom (s3.heap.objs.size + 1) scope.names (cloFrom X.env.cells scope.names [])) fp
  have hst3 : ({ s2 with heap := s2.heap.push { cls := .type "set", dict := none, data := .set #[] 0 (.fresh 0 0 (!X.w.params.followText "set-order")) } } : Shared) = s3 := hs3.symm
  rw [hst3]
  show codeAny _ _ (.compStart (.SetComp elt [⟨tg, iter, ifs, 0⟩] scope pos) 0 (.ref it) (.ref Dn) (compEnvC scope (cellsFrom (s3.heap.objs.size + 1) scope.names (cloFrom X.env.cells scope.names [])) s3.heap.objs.size X.env)) (compPost (model X.prog X.w) X.A X.xe none _ (.ref Dn) s3.heap.objs.size) { s3 with heap := pushCells (s3.heap.push { cls := .type "dict", data := .dict #[] }) scope.names }
  generalize hce : compEnvC scope (cellsFrom (s3.heap.objs.size + 1) scope.names (cloFrom X.env.cells scope.names [])) s3.heap.objs.size X.env = ce at I4 pg pt pe ⊢
  have locs : ce.locals = s3.heap.objs.size := by rw [← hce]; rfl
  generalize hs4 : ({ s3 with heap := pushCells (s3.heap.push { cls := .type "dict", data := .dict #[] }) scope.names } : Shared) = s4 at I4 ⊢
  have st4 : tn 0 s4.heap := T.keep _ _ _ st3 fun b _ o e => by rw [← hs4]; exact pushCells_keeps _ _ _ _ (Heap.get?_push_of_some _ e)
  have stays : ∀ {σ' : L2.St} {H' : Hp} {s' : Shared}, Inv (X.blk s3 H3 scope ce fp) [] σ' H' s' → (∀ b ∈ fp, H' b = none) → ∀ b ∈ fp, FpOk (X.blk s3 H3 scope ce fp) [] H' b := fun {σ' H' s'} I' n' b hb =>
    ⟨n' b hb, (I'.ok.exf b hb).1, I'.ok.exfs b hb, .inl hb, fun x c e => (I'.ok.exf b hb).2 x c e, fun p hp => by
      have hp : p ∈ ([] : List (Addr × Obj)) ++ [] := hp
      simp at hp⟩
  have loop : codeAny (model X.prog X.w) X.A (.compLoop (.SetComp elt [⟨tg, iter, ifs, 0⟩] scope pos) 0 (.ref it) (.ref Dn) ce) (compPost (model X.prog X.w) X.A X.xe none (EP X pins σ Q) (.ref Dn) s3.heap.objs.size) s4 := by
    refine compLoopS_any (fun n s' => ∃ i Hc, Inv (X.blk s3 H3 scope ce fp) [] (wipe σ (own.map (·.2))) Hc s' ∧ tn i s'.heap ∧ (∀ b ∈ fp, Hc b = none) ∧ W i n Hc) ?_ m0 ⟨0, H3, I4, st4, none3, w0⟩
    rintro n s5 ⟨i, H5, I5, st5, n5, w5⟩
    rcases turn i n H5 w5 with ⟨halt, fin⟩ | ⟨go, Nx, back, step⟩
    · refine thnF (T.done (X.blk s3 H3 scope ce fp) rfl rfl rfl hc i [] s5 _ H5 (fun _ _ => False) I5 (stays I5 n5) st5 halt) fun r s6 ⟨hr, I6⟩ => ?_
      subst hr
      have I7 : Inv X pins σ H5 s6 := I3.call' (ch := fp) I6.os I6.base I6.hok I6.bare fun b hb => by
        obtain ⟨⟨_, z1, z2, z3, z4, z5⟩, _⟩ := fr3 b hb
        exact ⟨z3, z1, z4, z5⟩
      have fC : H5 s3.heap.objs.size = none := by
        have z : H5 ce.locals = none := I6.free
        rwa [locs] at z
      obtain ⟨m, hm, _⟩ := I6.loc
      have hm : s6.heap.Ns ce.locals m := hm
      rw [locs] at hm
      obtain ⟨f0, f1, f2, f3, f4, f5⟩ := I3.fpOk (Nat.le_refl _) fC
      exact ⟨m, hm, fun h2 sb => ⟨.ref Dn, H5, I7.turned (t' := s6.toks) (fun b o hb e => (sb.2 b hb).trans e) f0 f1 f3 f4 f5, rfl, fin⟩⟩
    · refine thnF (T.item (X.blk s3 H3 scope ce fp) rfl rfl rfl hc i [] s5 _ H5 (fun _ _ => False) I5 (stays I5 n5) st5 go) fun r s6 ⟨u, hr, k6⟩ => ?_
      subst hr
      refine thnF k6 fun _ s7 ⟨x, H7, I7, r7, y7, st7, n7⟩ => ?_
      refine thnF (pg.run _ s7 _ H7 x u _ (I7.pinned (stays I7 n7) (T.obj _ _ st7)) r7 (step x H7 y7)) fun _ s8 ⟨σ8, H8, I8, hw8, q8⟩ => ?_
      refine thnF (pt.run _ s8 σ8 H8 _ I8 q8) fun b s9 ⟨H9, I9, q9⟩ => ?_
      -- behind the turn
      have next : ∀ {s' : Shared} {H' : Hp}, Inv (X.blk s3 H3 scope ce fp) ([] ++ pinsAt fp s7.heap) σ8 H' s' → Nx H' → ∃ m, m < n ∧ ∃ i Hc, Inv (X.blk s3 H3 scope ce fp) [] (wipe σ (own.map (·.2))) Hc s' ∧ tn i s'.heap ∧ (∀ b ∈ fp, Hc b = none) ∧ W i m Hc := fun {s' H'} I' nx => by
        obtain ⟨m', lt, w'⟩ := back H' nx
        have pin' : ∀ b ∈ fp, ∀ o, s7.heap.get? b = some o → s'.heap.get? b = some o ∧ H' b = none := fun b hb o e => by
          obtain ⟨z1, z2, _⟩ := I'.pin (b, o) (List.mem_append_right _ (List.mem_append_right _ (mem_pinsAt hb e)))
          exact ⟨z1, z2⟩
        refine ⟨m', lt, i + 1, H', (I'.unpinned (pins := [])).weak (by rw [← hw8, wipe_length]) (fun j v e => ?_), T.keep _ _ _ st7 fun b hb o e => (pin' b hb o e).1, fun b hb => ?_, w'⟩
        · rw [← hw8] at e
          exact (wipe_some e).1
        · have ⟨o, e, _⟩ := T.obj _ _ st7 b hb
          exact (pin' b hb o e).2
      cases b with
      | false =>
        simp only [Bool.false_eq_true, if_false] at q9 ⊢
        exact next I9 q9
      | true =>
        simp only [if_true] at q9 ⊢
        refine thnF (pe.run _ s9 σ8 H9 _ I9 q9) fun z s10 ⟨yv, H10, I10, r10, p, d, Z, ey, hD10, rok, rp, kd, few, nx⟩ => ?_
        subst ey
        cases r10
        exact add_sx (X := X.blk s3 H3 scope ce fp) I10 hu hD10 rok rp kd few fun s11 Z' z1 z2 I11 => next I11 (nx Z' z1 z2)
  exact codeAny_compStart_set loop (T.self X.A 0 _ _ _ st4 loop)
end
end DL
set_option Elab.async false
set_option linter.all false
set_option maxRecDepth 100000
set_option maxHeartbeats 1000000
/-! SD: sorted(list), sorted({.. for ..}) by data. -/
namespace DL
open PySem PySem.Spec PyProof.Rows L2 PySem.W
def toksD (d : D) : List (Int ⊕ List Nat) := keyToks d.py
/-- a may stand before b -/
def leD (a b : D) : Bool := sortLe (listOrd itemOrd) false toksD a b
def sortD (xs : List D) : List D := xs.mergeSort leD
theorem leD_total : TotalLe leD := sortLe_total (listOrd itemOrd) false toksD
def tup1 : D → Bool
  | .tup (_ :: _) => true
  | _ => false
def plainK : D → Bool
  | .bl _ => true
  | .int _ => true
  | .str _ => true
  | .lst _ => true
  | _ => false
def alikes (xs : List D) : Bool := xs.all fun a => xs.all fun b => alike a.py b.py
def sortOk (xs : List D) : Bool := dOks 15 xs && alikes xs && (xs.all tup1 || xs.all plainK) && decide (xs.length ≤ lim)
theorem sortOk_iff {xs : List D} : sortOk xs = true ↔ dOks 15 xs = true ∧ alikes xs = true ∧ (xs.all tup1 = true ∨ xs.all plainK = true) ∧ xs.length ≤ lim := by
  unfold sortOk
  simp only [Bool.and_eq_true, Bool.or_eq_true, decide_eq_true_eq, and_assoc]
theorem dOks_mem : ∀ {xs : List D} {n : Nat}, dOks n xs = true → ∀ d ∈ xs, dOk n d = true
  | [], _, _, _, h => by cases h
  | x :: xs, n, e, d, h => by
    have e : (dOk n x && dOks n xs) = true := e
    rw [Bool.and_eq_true] at e
    cases h with
    | head => exact e.1
    | tail _ h => exact dOks_mem e.2 d h
theorem sortable_of {xs : List D} (h : xs.all tup1 = true ∨ xs.all plainK = true) : Sortable (xs.map D.py) := by
  rcases h with h | h
  · refine .inl fun p hp => ?_
    obtain ⟨d, hd, rfl⟩ := List.mem_map.mp hp
    have z := List.all_eq_true.mp h d hd
    cases d with
    | tup l =>
      cases l with
      | nil => cases z
      | cons x r => exact ⟨_, _, rfl⟩
    | _ => cases z
  · refine .inr fun p hp => ?_
    obtain ⟨d, hd, rfl⟩ := List.mem_map.mp hp
    have z := List.all_eq_true.mp h d hd
    cases d with
    | tup l => cases z
    | non => cases z
    | obj _ _ _ => cases z
    | _ => exact ⟨fun e => (by cases e), fun _ e => (by cases e)⟩
theorem alikes_of {xs : List D} (h : alikes xs = true) : AllAlike (xs.map D.py) := fun p hp q hq => by
  obtain ⟨d, hd, rfl⟩ := List.mem_map.mp hp
  obtain ⟨e, he, rfl⟩ := List.mem_map.mp hq
  exact List.all_eq_true.mp (List.all_eq_true.mp h d hd) e he
/-- values and what they stand for -/
theorem each_reads {h : Heap} : ∀ {zs : List (Value × D)}, (∀ z ∈ zs, ∃ as, Reads h z.1 z.2.py as) → EachIs (fun v d => ∃ as, Reads h v d as) (zs.map (·.1)) ((zs.map (·.2)).map D.py)
  | [], _ => .nil
  | z :: zs, q => .cons (q z List.mem_cons_self) (each_reads fun y hy => q y (List.mem_cons_of_mem _ hy))
theorem each_pair {h : Heap} {ds : List PyData} (al : AllAlike ds) : ∀ {zs : List (Value × D)}, (∀ z ∈ zs, z.2.py ∈ ds ∧ ∃ as, Reads h z.1 z.2.py as) → EachIs (fun v (z : Value × D) => (dataKind h ds).keyOf v = some (toksD z.2)) (zs.map (·.1)) zs
  | [], _ => .nil
  | z :: zs, q => by
    obtain ⟨m, as, r⟩ := q z List.mem_cons_self
    exact .cons (dataKind_some al m r) (each_pair al fun y hy => q y (List.mem_cons_of_mem _ hy))
theorem each_self {zs : List (Value × D)} : EachIs (fun v (z : Value × D) => v = z.1) (zs.map (·.1)) zs := by
  induction zs with
  | nil => exact .nil
  | cons z zs ih => exact .cons rfl ih
theorem each_vals {out : List Value} {zs : List (Value × D)} (e : EachIs (fun v (z : Value × D) => v = z.1) out zs) : out = zs.map (·.1) := by
  induction e with
  | nil => rfl
  | cons h _ ih => rw [List.map_cons, h, ih]
def leP (a b : Value × D) : Bool := leD a.2 b.2
/-- what list.sort makes of the values -/
theorem sort_pairs {h : Heap} (zs : List (Value × D)) (al : alikes (zs.map (·.2)) = true) (q : ∀ z ∈ zs, ∃ as, Reads h z.1 z.2.py as) :
    sortVals (dataKind h ((zs.map (·.2)).map D.py)) false (zs.map (·.1)) (zs.map (·.1)) = (zs.mergeSort leP).map (·.1) := by
  have z := sortVals_each (κ := dataKind h ((zs.map (·.2)).map D.py)) (rev := false) (fun z : Value × D => toksD z.2) (each_self (zs := zs)) (each_pair (alikes_of al) fun z hz => ⟨List.mem_map_of_mem (List.mem_map_of_mem hz), q z hz⟩)
  exact each_vals z
section
variable {X : Cx} {pins : List (Addr × Obj)} {σ : L2.St} {H : Hp} {s : Shared} {E : Value → Shared → Prop}
theorem reads_of (I : Inv X pins σ H s) {v : V} {u : Value} {d : D} (r : Rep X.K X.mg H v d) (rv : RelV v u) (k : dOk 15 d = true) : ∃ as, Reads s.heap u d.py as := Dp.reads I d.py v u (r.dp _ _ _ k) rv
theorem sorts_at {A : Around} {s' : Shared} (zs : List (Value × D)) (q : ∀ z ∈ zs, ∃ as, Reads s'.heap z.1 z.2.py as) (ok : sortOk (zs.map (·.2)) = true) (hu : A.units + 20 < cLine) : SortsAt X.prog X.w A s' (dataKind s'.heap ((zs.map (·.2)).map D.py)) (zs.map (·.1)) := by
  obtain ⟨k1, k2, k3, k4⟩ := sortOk_iff.mp ok
  refine SortsAt.data (each_reads q) (alikes_of k2) (sortable_of k3) fun p hp => ?_
  obtain ⟨d, hd, rfl⟩ := List.mem_map.mp hp
  have := (dOk_lay d 15 (dOks_mem k1 d hd)).2
  omega
/-! ### sorted(list) -/
theorem zip_vals : ∀ {ws : List (V × D)} {us : List Value}, Vals (ws.map (·.1)) us → ∃ W : List ((V × D) × Value), W.map (·.1) = ws ∧ W.map (·.2) = us ∧ ∀ x ∈ W, RelV x.1.1 x.2
  | [], _, e => by cases e; exact ⟨[], rfl, rfl, by simp⟩
  | w :: ws, _, e => by
    cases e with
    | @cons _ u _ us e1 e2 =>
      obtain ⟨W, h1, h2, h4⟩ := zip_vals e2
      refine ⟨(w, u) :: W, by rw [List.map_cons, h1], by rw [List.map_cons, h2], fun x hx => ?_⟩
      cases hx with
      | head => exact e1
      | tail _ hx => exact h4 x hx
theorem unzip_vals : ∀ {W : List ((V × D) × Value)}, (∀ x ∈ W, RelV x.1.1 x.2) → Vals (W.map (·.1.1)) (W.map (·.2))
  | [], _ => .nil
  | x :: W, q => .cons (q x List.mem_cons_self) (unzip_vals fun y hy => q y (List.mem_cons_of_mem _ hy))
def leV (a b : V × D) : Bool := leD a.2 b.2
def leW (a b : (V × D) × Value) : Bool := leD a.1.2 b.1.2
def rSortL (K : PySem.W.Frag) (mg : Str → Option Value) : List V → Hp → VK → Prop := fun vs H Q => ∃ (l : Addr) (ws : List (V × D)), vs = [.ref l] ∧ SqL K H l (ws.map (·.1)) ∧ (∀ x ∈ ws, Rep K mg H x.1 x.2) ∧ sortOk (ws.map (·.2)) = true ∧
  ∀ p, H p = none → Q (.ref p) (upd H p (.lst ((ws.mergeSort leV).map (·.1))))
theorem cr_sortL (hu : X.A.units + 65 < cLine) : CallR X (.builtin "sorted") (rSortL X.K X.mg) := by
  intro pins s σ H vs us Q I r h
  obtain ⟨l, ws, rfl, hl, rr, ok, q⟩ := h
  obtain ⟨its, rv, pl, hz⟩ := I.list hl
  rw [Vals.ref1 r]
  obtain ⟨W, w1, w2, w4⟩ := zip_vals rv
  subst w1
  subst w2
  obtain ⟨k1, k2, k3, k4⟩ := sortOk_iff.mp ok
  let zs : List (Value × D) := W.map fun x => (x.2, x.1.2)
  have m1 : zs.map (·.1) = W.map (·.2) := by show (W.map _).map _ = _; rw [List.map_map]; rfl
  have m2 : zs.map (·.2) = (W.map (·.1)).map (·.2) := by show (W.map _).map _ = _; rw [List.map_map, List.map_map]; rfl
  have rd : ∀ (h' : Heap), (∀ b o, s.heap.get? b = some o → h'.get? b = some o) → ∀ z ∈ zs, ∃ as, Reads h' z.1 z.2.py as := fun h' kp z hm => by
    obtain ⟨x, hx, rfl⟩ := List.mem_map.mp hm
    obtain ⟨as, ra⟩ := reads_of I (rr _ (List.mem_map_of_mem hx)) (w4 x hx) (dOks_mem k1 _ (List.mem_map_of_mem (List.mem_map_of_mem hx)))
    exact ⟨as, PyProof.Rows.Reads.keeps kp ra⟩
  have kp : ∀ b o, s.heap.get? b = some o → (sortingHeap (copyHeap s.heap (W.map (·.2))) (s.heap.objs.size + 1) (W.map (·.2))).get? b = some o := fun b o e => sorting_copy_old e
  have S := sorts_at (X := X) (A := X.A.in1.in1) (s' := { s with heap := sortingHeap (copyHeap s.heap (W.map (·.2))) (s.heap.objs.size + 1) (W.map (·.2)) }) zs (rd _ kp) (by rw [m2]; exact ok) (show X.A.units + 1 + 1 + 20 < cLine by omega)
  rw [m1] at S
  have srt := sort_pairs zs (by rw [m2]; exact k2) (rd _ kp)
  rw [m1] at srt
  have srt2 : zs.mergeSort leP = (W.mergeSort leW).map fun x => (x.2, x.1.2) := (sort_maps (r := leW) (s := leP) (fun x : (V × D) × Value => (x.2, x.1.2)) fun _ _ _ _ => rfl).symm
  have srt3 : (W.map (·.1)).mergeSort leV = (W.mergeSort leW).map (·.1) := (sort_maps (r := leW) (s := leV) (fun x : (V × D) × Value => x.1) fun _ _ _ _ => rfl).symm
  refine sorted_vals (κ := dataKind (sortingHeap (copyHeap s.heap (W.map (·.2))) (s.heap.objs.size + 1) (W.map (·.2))) ((zs.map (·.2)).map D.py)) pl.isList S (by rw [← rv.length]; exact hz) ?_
  rw [srt, srt2, List.map_map]
  obtain ⟨ep, he⟩ := PyProof.Rows.sortedAll_at s.heap (W.map (·.2)) (((W.mergeSort leW).map ((·.1) ∘ fun x => (x.2, x.1.2)))).toArray
  have pm := List.mergeSort_perm W leW
  have v1 := unzip_vals (W := W.mergeSort leW) fun x hx => w4 x (pm.mem_iff.mp hx)
  have lenO : ((W.mergeSort leW).map (·.1.1)).length ≤ sizeLine := by
    rw [List.length_map, pm.length_eq]
    simpa using hz
  have fin := q (s.heap.objs.size + 1) (I.hok.fresh (Nat.le_succ _))
  rw [srt3, List.map_map] at fin
  exact ⟨.ref _, upd H (s.heap.objs.size + 1) (.lst ((W.mergeSort leW).map (·.1.1))), I.laid (t' := s.toks) (fun _ _ => PyProof.Rows.sortedAll_old) (Nat.le_succ _) ⟨lenO, _, ep, v1, he⟩, rfl, fin⟩
/-! ### sorted(set) -/
def rSortX (K : PySem.W.Frag) (mg : Str → Option Value) (w : World) : List V → Hp → VK → Prop := fun vs H Q => ∃ (a : Addr) (Z : List Row), vs = [.ref a] ∧ H a = some (SxO w a Z) ∧ RowsOk K mg H Z ∧ sortOk (Z.map (·.2)) = true ∧ Z.length < 4000 ∧
  ∀ (p : Addr) (Z' : List Row), Z'.Perm Z → (Z'.map (·.2)).Pairwise (fun a b => leD a b = true) → H p = none → Q (.ref p) (upd H p (.lst (Z'.map fun z => V.ref z.1)))
theorem sortOk_perm {xs ys : List D} (pm : xs.Perm ys) (h : sortOk ys = true) : sortOk xs = true := by
  obtain ⟨k1, k2, k3, k4⟩ := sortOk_iff.mp h
  refine sortOk_iff.mpr ⟨?_, ?_, ?_, by rw [pm.length_eq]; exact k4⟩
  · have : ∀ l : List D, (∀ d ∈ l, dOk 15 d = true) → dOks 15 l = true := by
      intro l
      induction l with
      | nil => exact fun _ => rfl
      | cons x l ih =>
        intro q
        show (dOk 15 x && dOks 15 l) = true
        rw [q x List.mem_cons_self, ih fun d hd => q d (List.mem_cons_of_mem _ hd)]
        rfl
    exact this xs fun d hd => dOks_mem k1 d (pm.mem_iff.mp hd)
  · unfold alikes at k2 ⊢
    simp only [List.all_eq_true] at k2 ⊢
    exact fun a ha b hb => k2 a (pm.mem_iff.mp ha) b (pm.mem_iff.mp hb)
  · simp only [List.all_eq_true] at k3 ⊢
    exact k3.imp (fun q a ha => q a (pm.mem_iff.mp ha)) fun q a ha => q a (pm.mem_iff.mp ha)
theorem cr_sortX (hc : X.calm = true) (hu : X.A.units + 65 < cLine) : CallR X (.builtin "sorted") (rSortX X.K X.mg X.w) := by
  intro pins s σ H vs us Q I r h
  obtain ⟨a, Z, rfl, ha, rok, ok, few, q⟩ := h
  obtain ⟨es, ep, t, R⟩ := SxO_get I ha
  rw [Vals.ref1 r]
  obtain ⟨o, ho, hex, hd⟩ := R.ob
  have len : es.size = Z.length := by rw [SS.rows_len R.rows, kz, List.length_map]
  refine Calls.call_function_entry kind_sorted plain_sorted entry_sorted (args_sorted1 _) ?_
  unfold Builtin.«sorted»
  refine wpAny_bind (m := checkCount "sorted" 1 1 _) (wpAny_pure ?_)
  refine wpAny_bind (collect_set (A := X.A.in1) (I.ok.hd hc) ⟨o, ho, hex.1, hd⟩ R.fits (by unfold scanBound; omega) R.tab.up R.led fun s1 vs1 kp1 sz1 g1 o1 pm => ?_)
  have ev : es.toList.map (·.2) = Z.map fun z => Value.ref z.1 := by
    rw [R.rows, SS.rws, kz, List.map_map, List.map_map]
    rfl
  rw [ev] at pm
  obtain ⟨Z1, p1, rfl⟩ := perm_img pm Z rfl
  obtain ⟨k1, k2, k3, k4⟩ := sortOk_iff.mp ok
  have ok1 : sortOk (Z1.map (·.2)) = true := sortOk_perm (p1.map _) ok
  have lenZ : (Z1.map fun z => Value.ref z.1).length ≤ sizeLine := by rw [List.length_map, p1.length_eq, sizeLine_eq]; omega
  refine wpAny_bind (wpAny_newList ?_ lenZ)
  obtain ⟨L, hL⟩ : ∃ L, s1.heap.objs.size = L := ⟨_, rfl⟩
  have atL : (s1.heap.push (seqObj "list" (Z1.map fun z => Value.ref z.1).toArray 0)).get? L = some (seqObj "list" (Z1.map fun z => Value.ref z.1).toArray 0) := by rw [← hL]; exact Heap.get?_push_size _ rfl
  have kp2 : ∀ b u, s.heap.get? b = some u → b ≠ L ∧ (s1.heap.push (seqObj "list" (Z1.map fun z => Value.ref z.1).toArray 0)).get? b = some u := fun b u e => by
    have z := kp1 b u e
    exact ⟨fun y => by rw [y, ← hL] at z; exact Nat.lt_irrefl _ (Heap.lt_size z), Heap.get?_push_of_some _ z⟩
  rw [hL]
  generalize s1.heap.push (seqObj "list" (Z1.map fun z => Value.ref z.1).toArray 0) = h2 at atL kp2 ⊢
  let zs : List (Value × D) := Z1.map fun z => (Value.ref z.1, z.2)
  have m1 : zs.map (·.1) = Z1.map fun z => Value.ref z.1 := by show (Z1.map _).map _ = _; rw [List.map_map]; rfl
  have m2 : zs.map (·.2) = Z1.map (·.2) := by show (Z1.map _).map _ = _; rw [List.map_map]; rfl
  have rd : ∀ (h' : Heap), (∀ b o, s.heap.get? b = some o → h'.get? b = some o) → ∀ z ∈ zs, ∃ as, Reads h' z.1 z.2.py as := fun h' kp z hm => by
    obtain ⟨x, hx, rfl⟩ := List.mem_map.mp hm
    have hx' := p1.mem_iff.mp hx
    obtain ⟨as, ra⟩ := reads_of I (rok x hx').1 (show RelV (.ref x.1) (.ref x.1) from rfl) (dOks_mem k1 _ (List.mem_map_of_mem hx'))
    exact ⟨as, PyProof.Rows.Reads.keeps kp ra⟩
  have kp3 : ∀ b o, s.heap.get? b = some o → (sortingHeap h2 L (Z1.map fun z => Value.ref z.1)).get? b = some o := fun b o e => sortingHeap_old (kp2 b o e).1 (kp2 b o e).2
  have S := sorts_at (X := X) (A := X.A.in1.in1) (s' := { s1 with heap := sortingHeap h2 L (Z1.map fun z => Value.ref z.1) }) zs (rd _ kp3) (by rw [m2]; exact ok1) (show X.A.units + 1 + 1 + 20 < cLine by omega)
  rw [m1] at S
  have srt := sort_pairs zs (by rw [m2]; exact (sortOk_iff.mp ok1).2.1) (rd _ kp3)
  rw [m1] at srt
  have srt2 : zs.mergeSort leP = (Z1.mergeSort fun a b => leD a.2 b.2).map fun z => (Value.ref z.1, z.2) := (sort_maps (r := fun a b : Row => leD a.2 b.2) (s := leP) (fun z : Row => (Value.ref z.1, z.2)) fun _ _ _ _ => rfl).symm
  have pm1 := List.mergeSort_perm Z1 fun a b : Row => leD a.2 b.2
  refine wpAny_bind (wpAny_holding (wpAny_call_entry slot_list_sort ⟨_, atL, rfl⟩ entry_list_sort (list_sort_vals (s := { s1 with heap := h2 }) atL S lenZ ⟨_, rfl, ?_⟩) (args_list_sort _)))
  rw [srt, srt2, List.map_map]
  obtain ⟨c, hc2⟩ := sortedHeap_at (vs := Z1.map fun z => Value.ref z.1) (out := ((Z1.mergeSort fun a b => leD a.2 b.2).map ((·.1) ∘ fun z => (Value.ref z.1, z.2))).toArray) atL
  refine wpAny_pure ⟨_, rfl, ?_⟩
  have kp4 : ∀ b o, s.heap.get? b = some o → (sortedHeap h2 L (Z1.map fun z => Value.ref z.1) ((Z1.mergeSort fun a b => leD a.2 b.2).map ((·.1) ∘ fun z => (Value.ref z.1, z.2))).toArray).get? b = some o := fun b o e => by
    rw [sortedHeap_old (kp2 b o e).1 (Heap.lt_size (kp2 b o e).2)]
    exact (kp2 b o e).2
  have fr : H L = none := I.hok.fresh (by rw [← hL]; exact sz1)
  generalize hZ2 : (Z1.mergeSort fun a b => leD a.2 b.2) = Z2 at pm1 hc2 kp4 ⊢
  have vals : Vals (Z2.map fun z => V.ref z.1) (Z2.map ((·.1) ∘ fun z => (Value.ref z.1, z.2))) := by
    clear hZ2 pm1 hc2 kp4
    induction Z2 with
    | nil => exact .nil
    | cons z Z2 ih => exact .cons rfl ih
  have len2 : (Z2.map fun z => V.ref z.1).length ≤ sizeLine := by rw [List.length_map, pm1.length_eq, ← List.length_map (f := fun z : Row => Value.ref z.1) (as := Z1)]; exact lenZ
  have pw : (Z2.map (·.2)).Pairwise fun a b => leD a b = true := by
    have tt : TotalLe fun a b : Row => leD a.2 b.2 := ⟨fun a b c => leD_total.trans a.2 b.2 c.2, fun a b => leD_total.total a.2 b.2⟩
    rw [← hZ2, List.pairwise_map]
    exact sort_pairwise tt Z1
  have e3 : ({ s1 with heap := sortedHeap h2 L (Z1.map fun z => Value.ref z.1) (Z2.map ((·.1) ∘ fun z => (Value.ref z.1, z.2))).toArray } : Shared) = { s with heap := sortedHeap h2 L (Z1.map fun z => Value.ref z.1) (Z2.map ((·.1) ∘ fun z => (Value.ref z.1, z.2))).toArray, gens := s1.gens, drawn := s1.drawn, toks := s1.toks } := by
    cases s1
    cases s
    cases o1
    rfl
  rw [e3]
  exact ⟨.ref L, upd H L (.lst (Z2.map fun z => V.ref z.1)), I.call (ch := []) (Un.laid kp4 (by rw [← hL]; exact sz1) fr) (I.hok.laid kp4 (by rw [← hL]; exact sz1) ⟨len2, _, c, vals, hc2⟩) (by rw [g1]; exact I.bare) (fun _ z => nomatch z), rfl, q L Z2 (pm1.trans p1) pw fr⟩
end
end DL
set_option Elab.async false
set_option linter.all false
set_option maxRecDepth 100000
set_option maxHeartbeats 1000000
/-! SE: sorted(list), sorted({.. for ..}) as rules of data. -/
namespace DL
open PySem PySem.Spec PyProof.Rows L2 PySem.W
def bSorted : List D → Res (List D)
  | [.lst xs] => if sortOk xs = true then .ok (sortD xs) else .st
  | _ => .st
section
variable {K : PySem.W.Frag} {mg : Str → Option Value}
theorem rep_zip {F : Hp} : ∀ {vs : List V} {ds : List D}, RepAll K mg F vs ds → ∃ ws : List (V × D), ws.map (·.1) = vs ∧ ws.map (·.2) = ds ∧ ∀ x ∈ ws, Rep K mg F x.1 x.2
  | [], _, r => by cases r; exact ⟨[], rfl, rfl, by simp⟩
  | v :: vs, _, r => by
    cases r with
    | @cons _ _ d ds a b =>
      obtain ⟨ws, h1, h2, h3⟩ := rep_zip b
      refine ⟨(v, d) :: ws, by rw [List.map_cons, h1], by rw [List.map_cons, h2], fun x hx => ?_⟩
      cases hx with
      | head => exact a
      | tail _ hx => exact h3 x hx
theorem rep_unzip {F : Hp} : ∀ {ws : List (V × D)}, (∀ x ∈ ws, Rep K mg F x.1 x.2) → RepAll K mg F (ws.map (·.1)) (ws.map (·.2))
  | [], _ => .nil
  | x :: ws, q => .cons (q x List.mem_cons_self) (rep_unzip fun y hy => q y (List.mem_cons_of_mem _ hy))
theorem sortV_map (ws : List (V × D)) : (ws.mergeSort leV).map (·.2) = sortD (ws.map (·.2)) := sort_maps (r := leV) (s := leD) (fun x : V × D => x.2) fun _ _ _ _ => rfl
theorem cf_sorted : CaF K mg (rSortL K mg) bSorted := caf_one (len1 (fun a _ _ => by cases a <;> rfl) rfl) fun We F H σ d v Q hF r q => by
  cases d with
  | lst xs =>
    have q : Out K mg We (RF K mg) F H σ Q (if sortOk xs = true then .ok (sortD xs) else .st) := q
    by_cases ok : sortOk xs = true
    · rw [if_pos ok] at q
      cases r with
      | @lst a vs _ sq rr =>
        obtain ⟨ws, rfl, rfl, h3⟩ := rep_zip rr
        refine ⟨a, ws, rfl, SqL.same hF sq, fun x hx => (h3 x hx).mono hF, ok, fun p hp => ?_⟩
        refine q F _ _ (Ext.new0 hF hp) ⟨p, _, rfl, hp, hF.free hp, upd_same, ?_⟩
        have z := rep_unzip (K := K) (mg := mg) (F := F) (ws := ws.mergeSort leV) fun x hx => h3 x ((List.mergeSort_perm ws leV).mem_iff.mp hx)
        rw [sortV_map] at z
        exact z
    · rw [if_neg ok] at q; exact q.elim
  | _ => exact q.elim
end
/-! ### what a set keeps -/
def hasK (acc : List D) (d : D) : Bool := acc.any fun y => NestedKey.beq y.nk d.nk
/-- the first of each key, behind acc -/
def ddS : List D → List D → List D
  | acc, [] => acc
  | acc, d :: ds => ddS (if hasK acc d = true then acc else acc ++ [d]) ds
theorem ddS_append : ∀ (xs ys acc : List D), ddS acc (xs ++ ys) = ddS (ddS acc xs) ys
  | [], _, _ => rfl
  | _ :: xs, ys, _ => ddS_append xs ys _
theorem ddS_len : ∀ (xs acc : List D), acc.length ≤ (ddS acc xs).length
  | [], _ => Nat.le_refl _
  | x :: xs, acc => by
    refine Nat.le_trans ?_ (ddS_len xs _)
    split
    · exact Nat.le_refl _
    · simp
theorem beq_iff {a b : NestedKey} : NestedKey.beq a b = true ↔ a = b := by rw [← NestedKey.decide_eq, decide_eq_true_eq]
theorem hasK_iff {acc : List D} {d : D} : hasK acc d = true ↔ d.nk ∈ acc.map D.nk := by
  unfold hasK
  rw [List.any_eq_true, List.mem_map]
  exact ⟨fun ⟨y, h1, h2⟩ => ⟨y, h1, beq_iff.mp h2⟩, fun ⟨y, h1, h2⟩ => ⟨y, h1, beq_iff.mpr h2⟩⟩
def keyT : D → Bool
  | .tup xs => kOks 7 xs
  | _ => false
/-- no two that stand alike -/
def strictD : List D → Bool
  | [] => true
  | d :: ds => (ds.all fun e => !(leD d e && leD e d)) && strictD ds
def setSort (xs : List D) : Res (List D) := if (xs.all keyT && sortOk (ddS [] xs) && strictD (ddS [] xs) && decide ((ddS [] xs).length < 305)) = true then .ok (sortD (ddS [] xs)) else .st
theorem setSort_ok {xs ys : List D} (h : setSort xs = .ok ys) : xs.all keyT = true ∧ sortOk (ddS [] xs) = true ∧ strictD (ddS [] xs) = true ∧ (ddS [] xs).length < 305 ∧ ys = sortD (ddS [] xs) := by
  unfold setSort at h
  split at h
  · rename_i z
    simp only [Bool.and_eq_true, decide_eq_true_eq, and_assoc] at z
    cases h
    exact ⟨z.1, z.2.1, z.2.2.1, z.2.2.2, rfl⟩
  · cases h
theorem setSort_ner (xs : List D) (x : Exn) : setSort xs ≠ .er x := by
  unfold setSort
  split <;> simp
theorem strict_apart : ∀ {xs : List D}, strictD xs = true → xs.Pairwise fun a b => ¬ (leD a b = true ∧ leD b a = true)
  | [], _ => .nil
  | d :: ds, h => by
    have h : ((ds.all fun e => !(leD d e && leD e d)) && strictD ds) = true := h
    rw [Bool.and_eq_true] at h
    refine .cons (fun e he => ?_) (strict_apart h.2)
    have z := List.all_eq_true.mp h.1 e he
    rw [Bool.not_eq_true', Bool.and_eq_false_iff] at z
    rintro ⟨h1, h2⟩
    rcases z with z | z
    · rw [h1] at z; cases z
    · rw [h2] at z; cases z
/-- one order of a strict list -/
theorem sort_only {xs ys : List D} (st : strictD xs = true) (pm : ys.Perm xs) (pw : ys.Pairwise fun a b => leD a b = true) : ys = sortD xs := by
  have p2 : (sortD xs).Perm xs := List.mergeSort_perm xs leD
  have pw2 : (sortD xs).Pairwise fun a b => leD a b = true := sort_pairwise leD_total xs
  have ap : ∀ a ∈ xs, ∀ b ∈ xs, leD a b = true → leD b a = true → a = b := by
    have := strict_apart st
    intro a ha b hb h1 h2
    apply Classical.byContradiction
    intro ne
    have sym : ∀ {l : List D}, l.Pairwise (fun a b => ¬ (leD a b = true ∧ leD b a = true)) → ∀ a ∈ l, ∀ b ∈ l, a ≠ b → ¬ (leD a b = true ∧ leD b a = true) := by
      intro l pl
      induction pl with
      | nil => intro a ha; cases ha
      | @cons x l hx _ ih =>
        intro a ha b hb ne
        cases ha with
        | head =>
          cases hb with
          | head => exact absurd rfl ne
          | tail _ hb => exact hx b hb
        | tail _ ha =>
          cases hb with
          | head => exact fun z => hx a ha ⟨z.2, z.1⟩
          | tail _ hb => exact ih a ha b hb ne
    exact sym this a ha b hb ne ⟨h1, h2⟩
  exact List.Perm.eq_of_pairwise (le := fun a b => leD a b = true) (fun a b ha hb h1 h2 => ap a (pm.mem_iff.mp ha) b (p2.mem_iff.mp hb) h1 h2) pw pw2 (pm.trans p2.symm)
/-- sorted({..}) -/
def eSsc (sl : List Nat) (fi : DEnv → Res (List D)) (g : D → Option (List D)) (ft : DEnv → Res Bool) (fe : DEnv → Res D) : DEnv → Res (List D) := fun ρ => (fi ρ).bind fun ds => (lcL sl g ft fe ρ ds).bindN setSort
section
variable {X : Cx} {We : WeX} {Si St Se sl : List Nat} {tg iter elt : PySem.Expr} {ifs : List PySem.Expr} {fi : DEnv → Res (List D)} {g : D → Option (List D)} {ft : DEnv → Res Bool} {fe : DEnv → Res D} {p pos cpos : Pos} {scope : Scope} {own : List (Str × Nat)}
theorem ssc_ok {σ : L2.St} {H : Hp} {Q : VK} (hg2 : ∀ d ds, g d = some ds → ds.length = sl.length) (ho : own.map (·.2) = sl)
    (h : tG X.K X.mg We (RF X.K X.mg) (Si ++ minus (St ++ Se) sl) (eSsc sl fi g ft fe) σ H Q) :
    tSx X.K X.mg X.w (tG X.K X.mg We (RI X.K X.mg) Si fi) (tT X.K X.mg sl g) (tG X.K X.mg (We0 We.ex) RB St ft) (tG X.K X.mg (We0 We.ex) (RD X.K X.mg) Se fe) (own.map (·.2)) σ H fun v H' => rSortX X.K X.mg X.w [v] H' Q := by
  obtain ⟨F, ρ, hF, hE, q⟩ := h
  refine ⟨F, ρ, hF, hE.l, Out.bind q fun ds F1 H1 J ex hj q1 => ?_⟩
  intro Dn nD
  rw [ho]
  cases ht : (lcL sl g ft fe ρ ds).bindN setSort with
  | st => rw [ht] at q1; exact q1.elim
  | er x => exact absurd ht (bindN_ner setSort_ner x)
  | ok res =>
    rw [ht] at q1
    obtain ⟨tot, h1, h2⟩ := bindN_ok ht
    obtain ⟨g1, g2, g3, g4, rfl⟩ := setSort_ok h2
    have fD : F1 Dn = none := ex.2.1.free nD
    let Iv : Nat → Hp → Prop := fun i H => ∃ Fc Z accD ys, Ext F1 H1 Fc H ∧ H Dn = some (SxO X.w Dn Z) ∧ Fc Dn = none ∧ RowsOk X.K X.mg Fc Z ∧ (Z.map (·.2)).Perm (ddS [] accD) ∧ lcL sl g ft fe ρ (ds.drop i) = .ok ys ∧ tot = accD ++ ys
    refine ⟨fun i m H => m = ds.length - i ∧ i ≤ ds.length ∧ Iv i H, ⟨ds.length, by simp, Nat.zero_le _, F1, [], [], tot, Ext.new0 ex.2.1 nD, upd_same, fD, (fun _ hz => by cases hz), .nil, h1, rfl⟩, ?_⟩
    rintro i m H' ⟨rfl, hi, Fc, Z, accD, ys, exc, hD, fcD, rok, pmZ, hys, htot⟩
    obtain ⟨j1, j2⟩ := hj i Fc H' exc.1 exc.2.1
    by_cases hlt : i < ds.length
    · right
      have hd : ds[i]? = some ds[i] := List.getElem?_eq_getElem hlt
      obtain ⟨go, yl⟩ := j2 _ hd
      refine ⟨go, Iv (i + 1), fun H'' n => ⟨ds.length - (i + 1), by omega, rfl, hlt, n⟩, fun x H2 y => ?_⟩
      obtain ⟨F2, ex2, rx⟩ := yl x H2 y
      rw [List.drop_eq_getElem_cons hlt] at hys
      have hys : (match g ds[i] with
        | none => .st
        | some vs => (ft (setAll ρ sl (vs.map Slot.d))).bindN fun b => if b then (fe (setAll ρ sl (vs.map Slot.d))).bindN fun y => (lcL sl g ft fe ρ (ds.drop (i + 1))).bindN fun ys => .ok (y :: ys) else lcL sl g ft fe ρ (ds.drop (i + 1))) = Res.ok ys := hys
      cases hgd : g ds[i] with
      | none => rw [hgd] at hys; cases hys
      | some vs =>
        simp only [hgd] at hys
        obtain ⟨b, hb, hys⟩ := bindN_ok hys
        refine ⟨F2, ds[i], vs, ex2.2.1, rx, hgd, hg2 _ _ hgd, fun us ru => ⟨by rw [wipe_setAll sl _ _ fun _ h => h, wipe_wipe], ?_⟩⟩
        have sF2 : Same F F2 := ex.1.trans (exc.1.trans ex2.1)
        have env : EnvE X.K X.mg We.ex (St ++ Se) F2 (setAll (wipe σ sl) sl (us.map some)) (setAll ρ sl (vs.map Slot.d)) := by
          refine ⟨by rw [setAll_length, setAll_length, wipe_length]; exact hE.1, fun k hk s d a1 a2 => ?_, fun k hk x a1 => ?_⟩
          rotate_left
          · obtain ⟨nk, a2⟩ := setAll_exc sl vs ρ (hg2 _ _ hgd) a1
            rcases mem_minus (sl := sl) hk with z | z
            · exact absurd z nk
            · rw [setAll_get nk, wipe_get nk]
              exact (hE.2.2 k (List.mem_append_right _ z) x a2).mono sF2
          refine setAll_rel sl us vs (wipe σ sl) ρ (by rw [wipe_length]; exact hE.1) ru (hg2 _ _ hgd) k s d ?_ a1 a2
          rcases mem_minus (sl := sl) hk with z | z
          · exact .inr z
          · left
            intro s' d' b1 b2
            have nk : k ∉ sl := by
              have := (List.mem_filter.mp z).2
              simpa using this
            rw [wipe_get nk]
            obtain ⟨v, c1, c2⟩ := hE.2.1 k (List.mem_append_right _ z) s' d' b1 b2
            exact ⟨v, c1, c2.mono sF2⟩
        have step : ∀ F3 H3, Ext F2 H2 F3 H3 → Ext F1 H1 F3 H3 ∧ H3 Dn = some (SxO X.w Dn Z) ∧ F3 Dn = none ∧ RowsOk X.K X.mg F3 Z := fun F3 H3 e3 => by
          have d2 : H2 Dn = some (SxO X.w Dn Z) := ex2.2.2.1 _ _ hD
          refine ⟨(exc.trans ex2).trans e3, e3.2.2.1 _ _ d2, ?_, fun z hz => ⟨((rok z hz).1.mono ex2.1).mono e3.1, (rok z hz).2⟩⟩
          rw [e3.2.2.2 _ _ d2, ex2.2.2.2 _ _ hD]; exact fcD
        refine ⟨F2, _, ex2.2.1, env.l, ?_⟩
        rw [hb]
        intro F3 H3 b' ex3 eb
        have eb : b' = b := eb
        subst eb
        cases b' with
        | true =>
          rw [if_pos rfl] at hys ⊢
          obtain ⟨y0, hy0, hys⟩ := bindN_ok hys
          obtain ⟨ys', hys', e3⟩ := bindN_ok hys
          cases e3
          refine ⟨F3, _, ex3.2.1, env.r.mono ex3.1, ?_⟩
          rw [hy0]
          intro F4 H4 v4 ex4 r4
          obtain ⟨s1, s2, s3, s4⟩ := step F4 H4 (ex3.trans ex4)
          have ky : keyT y0 = true := List.all_eq_true.mp g1 y0 (by rw [htot]; simp)
          cases y0 with
          | tup ks =>
            cases r4 with
            | @tup a4 vs4 _ q4 r4 =>
              have lz : Z.length < 305 := by
                have e1 := pmZ.length_eq
                rw [List.length_map] at e1
                have e2 := ddS_len (.tup ks :: ys') (ddS [] accD)
                rw [← ddS_append, ← htot] at e2
                omega
              refine ⟨a4, .tup ks, Z, rfl, s2, fun z hz => ⟨(s4 z hz).1.mono s1.2.1, (s4 z hz).2⟩, (Rep.tup q4 r4).mono s1.2.1, ky, lz, fun Z' c1 c2 => ⟨F4, Z', accD ++ [.tup ks], ys', ?_, upd_same, s3, ?_, ?_, hys', by rw [List.append_assoc]; exact htot⟩⟩
              · refine ⟨s1.1, fun p o q => ?_, fun p o q => ?_, s1.2.2.2⟩
                · rw [upd_ne (fun z => by rw [z, s3] at q; cases q)]; exact s1.2.1 _ _ q
                · rw [upd_ne (ne_of_none q nD)]; exact s1.2.2.1 _ _ q
              · by_cases c : (D.tup ks).nk ∈ (kz Z).map (·.2)
                · rw [c1 c]; exact s4
                · intro z hz
                  cases (c2 c).mem_iff.mp hz with
                  | head => exact ⟨Rep.tup q4 r4, ky⟩
                  | tail _ hz => exact s4 z hz
              · have e0 : (kz Z).map (·.2) = (Z.map (·.2)).map D.nk := by unfold kz; rw [List.map_map, List.map_map]; rfl
                have e1 : ddS [] (accD ++ [.tup ks]) = if hasK (ddS [] accD) (.tup ks) = true then ddS [] accD else ddS [] accD ++ [.tup ks] := by rw [ddS_append]; rfl
                rw [e1]
                by_cases c : (D.tup ks).nk ∈ (kz Z).map (·.2)
                · rw [c1 c, if_pos (hasK_iff.mpr ((pmZ.map D.nk).mem_iff.mp (e0 ▸ c)))]
                  exact pmZ
                · rw [if_neg fun z => c (e0 ▸ (pmZ.map D.nk).mem_iff.mpr (hasK_iff.mp z))]
                  have z := (c2 c).map (fun z : Row => z.2)
                  rw [List.map_cons] at z
                  exact z.trans ((pmZ.cons (D.tup ks)).trans (List.perm_append_singleton (D.tup ks) (ddS [] accD)).symm)
          | _ => cases ky
        | false =>
          rw [if_neg Bool.false_ne_true] at hys ⊢
          obtain ⟨s1, s2, s3, s4⟩ := step F3 H3 ex3
          exact ⟨F3, Z, accD, ys, s1, s2, s3, s4, pmZ, hys, htot⟩
    · left
      have ei : i = ds.length := by omega
      refine ⟨j1 ei, ?_⟩
      rw [List.drop_eq_nil_of_le (by omega)] at hys
      have hys : Res.ok [] = Res.ok ys := hys
      cases hys
      rw [List.append_nil] at htot
      subst htot
      have e1 := pmZ.length_eq
      rw [List.length_map] at e1
      refine ⟨Dn, Z, rfl, hD, fun z hz => ⟨(rok z hz).1.mono exc.2.1, (rok z hz).2⟩, sortOk_perm pmZ g2, by omega, fun p Z' pm pw hp => ?_⟩
      refine q1 Fc _ _ ⟨exc.1, exc.2.1.trans (same_upd hp), exc.2.2.1.trans (same_upd hp), exc.2.2.2⟩ ⟨p, _, rfl, exc.2.2.1.free hp, exc.2.1.free hp, upd_same, ?_⟩
      rw [← sort_only g3 ((pm.map (·.2)).trans pmZ) pw]
      have : ∀ W : List Row, (∀ z ∈ W, Rep X.K X.mg Fc (.ref z.1) z.2) → RepAll X.K X.mg Fc (W.map fun z => V.ref z.1) (W.map (·.2)) := by
        intro W
        induction W with
        | nil => exact fun _ => .nil
        | cons z W ih => exact fun q => .cons (q z List.mem_cons_self) (ih fun y hy => q y (List.mem_cons_of_mem _ hy))
      exact this Z' fun z hz => (rok z (pm.mem_iff.mp hz)).1
theorem pf_ssc (hc : X.calm = true) (hu : X.A.units + 65 < cLine) (hm : X.mg "sorted" = none) (hN : X.N.Nodup) (hi : ID X We Si tg iter fi) (ok : BlkOk X.N X.env.scope scope own) (ho : own.map (·.2) = sl)
    (hg : ∀ (s : Shared) (H : Hp) (C : Addr) (cl : List (Str × Addr)) (fp : List Addr), GD (X.blk s H scope (compEnvC scope cl C X.env) fp) tg sl g)
    (ht : ∀ (s : Shared) (H : Hp) (C : Addr) (cl : List (Str × Addr)) (fp : List Addr), PTsD (X.blk s H scope (compEnvC scope cl C X.env) fp) (We0 We.ex) St ifs ft)
    (he : ∀ (s : Shared) (H : Hp) (C : Addr) (cl : List (Str × Addr)) (fp : List Addr), PD (X.blk s H scope (compEnvC scope cl C X.env) fp) (We0 We.ex) Se elt fe) (hs : ∀ x, foldedSetIterable iter X.env x = pure x := by intro _; rfl)
    (hgl : Gl X "sorted" := by rfl) (hv : bootBuiltins "sorted" = some (.builtin "sorted") := by decide +kernel)
    (hse : starEach [.SetComp elt [⟨tg, iter, ifs, 0⟩] scope cpos] X.env = (false, eval (.SetComp elt [⟨tg, iter, ifs, 0⟩] scope cpos) X.env) :: starEach [] X.env := by rfl) :
    PF X We (Si ++ minus (St ++ Se) sl) (.Call (.Name "sorted" p) [.SetComp elt [⟨tg, iter, ifs, 0⟩] scope cpos] [] pos) (eSsc sl fi g ft fe) :=
  pe_imp (pe_callB (cr_sortX hc hu) hgl hm hv (pa_cons (pe_sx hc (by omega) hN hi ok (fun s H C cl fp => (hg s H C cl fp).1) ht he hs) pa_nil hse)) fun σ H Q h => ssc_ok (hg X.s_0 X.H_0 0 [] []).2 ho h
end
end DL
set_option Elab.async false
set_option linter.all false
set_option maxRecDepth 100000
set_option maxHeartbeats 1000000
namespace Cb
open PySem PySem.Spec PyProof.Rows L2
abbrev nm : String := "itertools.combinations"
theorem mro_c : mroOf (.type "itertools.combinations") = pure [.type "itertools.combinations", .type "object"] := by rw [mroOf_type]; kernel_rfl
theorem new_c : typeLookup (.type "itertools.combinations") "__new__" = pure (some (.builtin "itertools.combinations.__new__")) := by rw [typeLookup_type, builtinLookup_eq_fast]; kernel_rfl
theorem sub_c : isSubtype (.type "itertools.combinations") (.type "itertools.combinations") = pure true := by rw [isSubtype_type]; kernel_rfl
theorem init_c : Slot "itertools.combinations" "__init__" "object.__init__" := by
  refine .of (owner := "object") (n := "__init__") ?_ ?_ ?_ ?_ ?_ ?_
  · rw [typeLookup_type, builtinLookup_eq_fast]; kernel_rfl
  · decide +kernel
  · decide +kernel
  · decide +kernel
  · first | exact .inl (by decide +kernel) | exact .inr (by decide +kernel)
  · rw [isSubtype_type]; kernel_rfl
theorem iter_c : Slot "itertools.combinations" "__iter__" "itertools.combinations.__iter__" := by
  refine .of (owner := "itertools.combinations") (n := "__iter__") ?_ ?_ ?_ ?_ ?_ sub_c
  · rw [typeLookup_type, builtinLookup_eq_fast]; kernel_rfl
  · decide +kernel
  · decide +kernel
  · decide +kernel
  · first | exact .inl (by decide +kernel) | exact .inr (by decide +kernel)
theorem next_c : Slot "itertools.combinations" "__next__" "itertools.combinations.__next__" := by
  refine .of (owner := "itertools.combinations") (n := "__next__") ?_ ?_ ?_ ?_ ?_ sub_c
  · rw [typeLookup_type, builtinLookup_eq_fast]; kernel_rfl
  · decide +kernel
  · decide +kernel
  · decide +kernel
  · first | exact .inl (by decide +kernel) | exact .inr (by decide +kernel)
theorem called_c : TypeCalled "itertools.combinations" "itertools.combinations.__new__" "object.__init__" := by
  refine ⟨?_, ?_, ⟨_, _, mro_c⟩, madeBy_type mro_c new_c ?_, ?_, sub_c, init_c⟩ <;> decide +kernel
theorem tcall_c (a b : Value) : checkTypeCall "itertools.combinations" ⟨[a, b], []⟩ = pure () := by kernel_rfl
theorem ncall_c (a b : Value) : checkBuiltinCall "itertools.combinations.__new__" ⟨[.type "itertools.combinations", a, b], []⟩ = pure () := by kernel_rfl
theorem enew_c : entryFor table "itertools.combinations.__new__" = some Builtin.«itertools.combinations.__new__» := entryFor_of_tree (by kernel_rfl)
theorem enext_c : entryFor table "itertools.combinations.__next__" = some Builtin.«itertools.combinations.__next__» := entryFor_of_tree (by kernel_rfl)
theorem eiter_c : entryFor table "itertools.combinations.__iter__" = some Builtin.«dict_keyiterator.__iter__» := by
  refine entryFor_alias (id' := "dict_keyiterator.__iter__") ?_ ?_ ?_ ?_
  · kernel_rfl
  · first | rfl | decide +kernel | (unfold String.splitOn; simp +decide [String.splitOnAux])
  · decide +kernel
  · kernel_rfl
theorem own_c : Manifest.owners.lookup (String.ofList ("itertools.combinations".toList.reverse).reverse) = some Manifest.sig_itertools_combinations := by kernel_rfl
theorem aiter_c (a : Value) : argsOk "itertools.combinations.__iter__" ⟨[a], []⟩ := by
  unfold argsOk
  rw [signature?_of (id := "itertools.combinations.__iter__") (n := "__iter__".toList.reverse) (o := "itertools.combinations".toList.reverse) (by kernel_rfl) own_c]
  kernel_rfl
theorem anext_c (a : Value) : argsOk "itertools.combinations.__next__" ⟨[a], []⟩ := by
  unfold argsOk
  rw [signature?_of (id := "itertools.combinations.__next__") (n := "__next__".toList.reverse) (o := "itertools.combinations".toList.reverse) (by kernel_rfl) own_c]
  kernel_rfl
theorem nodict_c : typeHasDict (.type "itertools.combinations") = false := by decide +kernel
end Cb
set_option Elab.async false
set_option linter.all false
set_option maxRecDepth 100000
set_option maxHeartbeats 1000000
namespace Cb
open PySem PySem.Spec PyProof.Rows L2

/-- the next row of places -/
def up (n : Nat) (l : List Nat) : Option (List Nat) :=
  match (List.range l.length).reverse.find? (fun j => l.getD j 0 != j + n - l.length) with
  | none => none
  | some j => some (l.take j ++ (List.range (l.length - j)).map (l.getD j 0 + 1 + ·))
def give (self pool : Value) (l : List Nat) : Sem PySem.Fin := do
  let res ← (do let its ← Builtin.Itertools.itPoolItems pool; newTuple (l.map fun j => its.getD j .none))
  let was ← field self 2
  setField self 2 res
  letGo [was] [res]
  ret res
def turnC (self : Value) : Sem PySem.Fin := do
  let pool ← field self 0
  let l ← Builtin.Itertools.itNumbersFrom self 3
  match ← Builtin.Itertools.itIntField self 1 with
  | 0 => setField self 1 (rawInt 1); give self pool l
  | 1 =>
    match up (← Builtin.Itertools.itPoolItems pool).size l with
    | some m => Builtin.Itertools.itSetNumbersFrom self 3 m; give self pool m
    | none => setField self 1 (rawInt 2); Builtin.Itertools.itStop
  | _ => rule "itertools.combinations.ended"; Builtin.Itertools.itStop
theorem turn_eq (self : Value) : Builtin.«itertools.combinations.__next__» ⟨[self], []⟩ = turnC self := by
  first
    | rfl
    | with_unfolding_all rfl
    | kernel_rfl

section
variable {prog : Program} {w : World} {A : Around} {E : Value → Shared → Prop} {s : Shared}
def rawN (l : List Nat) : List Value := l.map fun (j : Nat) => rawInt j
/-- what stands at it -/
def IsC (h : Heap) (it pool : Addr) (st : Int) (old : Value) (l : List Nat) : Prop := h.get? it = some { cls := .type "itertools.combinations", dict := none, data := .fields ([.ref pool, rawInt st, old] ++ rawN l).toArray, slots := #[] }
def IsPool (h : Heap) (pool : Addr) (its : Array Value) : Prop := ∃ o n, h.get? pool = some o ∧ o.data = .seq its n
theorem rawN_len (l : List Nat) : (rawN l).length = l.length := List.length_map ..
theorem wp_give {it pool : Addr} {its : Array Value} {st : Int} {old : Value} {l0 l : List Nat} {Q : PySem.Fin → Shared → Prop} (hi : IsC s.heap it pool st old l0) (hp : IsPool s.heap pool its) (len : l.length ≤ 1000)
    (hQ : ∀ h', IsC h' it pool st (.ref s.heap.objs.size) l0 → h'.get? s.heap.objs.size = some { cls := .type "tuple", data := .seq (l.map fun j => its.getD j .none).toArray } → (∀ b o, b ≠ it → s.heap.get? b = some o → h'.get? b = some o) → Q (.done (.ret (.ref s.heap.objs.size))) { s with heap := h' }) :
    wpAny (model prog w) A (give (.ref it) (.ref pool) l) Q E s := by
  obtain ⟨o, n, ho, hd⟩ := hp
  have lt := Heap.lt_size hi
  unfold give
  refine wpAny_bind (wpAny_bind ?_)
  unfold Builtin.Itertools.itPoolItems
  refine wpAny_bind (wpAny_seqItems ho hd ?_)
  dsimp only
  refine wpAny_pure (wpAny_newTuple ?_ (by rw [List.length_map, sizeLine_eq]; omega))
  generalize hT : (l.map fun j => its.getD j .none) = tt at hQ ⊢
  have hi1 : IsC (s.heap.push { cls := .type "tuple", data := .seq tt.toArray }) it pool st old l0 := Heap.get?_push_of_some _ hi
  refine wpAny_bind (wpAny_field hi1 rfl (x := old) (by simp) ?_)
  refine wpAny_bind (wpAny_setField hi1 rfl (by simp [rawN_len]) ?_)
  refine wpAny_bind (wpAny_letGo ?_)
  refine wpAny_pure (hQ _ ?_ ?_ ?_)
  · have z := Heap.get?_update_self (Obj.mapFields (·.setIfInBounds 2 (Value.ref s.heap.objs.size))) hi1 rfl
    unfold IsC
    rw [z]
    simp [Obj.mapFields]
  · rw [Heap.get?_update_ne _ _ _ _ (Nat.ne_of_gt lt)]
    exact Heap.get?_push_size _ rfl
  · intro b u hb hu
    rw [Heap.get?_update_ne _ _ _ _ hb]
    exact Heap.get?_push_of_some _ hu
theorem numbers_at {it pool : Addr} {st : Int} {old : Value} {l : List Nat} {Q : List Nat → Shared → Prop} (hi : IsC s.heap it pool st old l) (h : Q l s) : wpAny (model prog w) A (Builtin.Itertools.itNumbersFrom (.ref it) 3) Q E s := by
  unfold Builtin.Itertools.itNumbersFrom
  refine wpAny_bind (wpAny_load hi ?_)
  dsimp only
  refine wpAny_pure ?_
  have e : ((([.ref pool, rawInt st, old] ++ rawN l).toArray.toList.drop 3).map fun | .int n _ => n.toNat | _ => 0) = l := by
    simp only [List.cons_append, List.nil_append, List.drop_succ_cons, List.drop_zero, rawN, List.map_map]
    refine (List.map_congr_left fun j _ => ?_).trans (List.map_id l)
    rfl
  exact (congrArg (fun z => Q z s) e).mpr h
theorem flag_at {it pool : Addr} {st : Int} {old : Value} {l : List Nat} {Q : Int → Shared → Prop} (hi : IsC s.heap it pool st old l) (h : Q st s) : wpAny (model prog w) A (Builtin.Itertools.itIntField (.ref it) 1) Q E s := by
  unfold Builtin.Itertools.itIntField
  refine wpAny_bind (wpAny_field hi rfl (x := .int st 0) (by simp [rawInt]) ?_)
  exact wpAny_pure h
/-- what comes of a turn that gives -/
def Given (s : Shared) (it pool : Addr) (its : Array Value) (l : List Nat) (Q : Option Value → Shared → Prop) : Prop :=
  ∀ h', IsC h' it pool 1 (.ref s.heap.objs.size) l → h'.get? s.heap.objs.size = some { cls := .type "tuple", data := .seq (l.map fun j => its.getD j .none).toArray } → (∀ b o, b ≠ it → s.heap.get? b = some o → h'.get? b = some o) →
    Q (some (.ref s.heap.objs.size)) { s with heap := h' }
theorem isC_type {h : Heap} {it pool : Addr} {st : Int} {old : Value} {l : List Nat} (hi : IsC h it pool st old l) : ∃ o, h.get? it = some o ∧ o.cls = .type "itertools.combinations" := ⟨_, hi, rfl⟩
theorem pool_ne {h : Heap} {it pool : Addr} {its : Array Value} {st : Int} {old : Value} {l : List Nat} (hi : IsC h it pool st old l) (hp : IsPool h pool its) : pool ≠ it := fun z => by
  obtain ⟨o, n, ho, hd⟩ := hp
  rw [z] at ho
  have e := (show h.get? it = some _ from hi).symm.trans ho
  cases e
  cases hd
theorem next_first {it pool : Addr} {its : Array Value} {old : Value} {l : List Nat} {Q : Option Value → Shared → Prop} (hi : IsC s.heap it pool 0 old l) (hp : IsPool s.heap pool its) (len : l.length ≤ 1000) (hQ : Given s it pool its l Q) :
    wpAny (model prog w) A (pyNext (.ref it)) Q E s := by
  have lt := Heap.lt_size hi
  have ne := pool_ne hi hp
  unfold pyNext
  refine wpAny_bind (wpAny_attempt (wpAny_callSpecial?_slot (name := Str.ofString "__next__") (isC_type hi) next_c (wpAny_call_entry next_c (isC_type hi) enext_c ?_ (anext_c _))))
  rw [turn_eq]
  unfold turnC
  refine wpAny_bind (wpAny_field hi rfl (x := .ref pool) (by simp) ?_)
  refine wpAny_bind (numbers_at hi ?_)
  refine wpAny_bind (flag_at hi ?_)
  dsimp only
  refine wpAny_bind (wpAny_setField hi rfl (by simp [rawN_len]) ?_)
  have hi1 : IsC (s.heap.update it (Obj.mapFields (·.setIfInBounds 1 (rawInt 1)))) it pool 1 old l := by
    have z := Heap.get?_update_self (Obj.mapFields (·.setIfInBounds 1 (rawInt 1))) hi rfl
    unfold IsC
    rw [z]
    simp [Obj.mapFields]
  have sz : (s.heap.update it (Obj.mapFields (·.setIfInBounds 1 (rawInt 1)))).objs.size = s.heap.objs.size := Heap.size_update ..
  have hp1 : IsPool (s.heap.update it (Obj.mapFields (·.setIfInBounds 1 (rawInt 1)))) pool its := by
    obtain ⟨o, n, ho, hd⟩ := hp
    exact ⟨o, n, (Heap.get?_update_ne _ _ _ _ ne).trans ho, hd⟩
  refine wp_give (s := { s with heap := s.heap.update it (Obj.mapFields (·.setIfInBounds 1 (rawInt 1))) }) hi1 hp1 len fun h' k1 k2 k3 => ?_
  dsimp only at k1 k2 k3 ⊢
  rw [sz] at k1 k2 ⊢
  exact ⟨_, rfl, wpAny_pure (hQ h' k1 k2 fun b o hb ho => k3 b o hb ((Heap.get?_update_ne _ _ _ _ hb).trans ho))⟩
theorem next_more {it pool : Addr} {its : Array Value} {old : Value} {l m : List Nat} {Q : Option Value → Shared → Prop} (hi : IsC s.heap it pool 1 old l) (hp : IsPool s.heap pool its) (hu : up its.size l = some m) (len : m.length ≤ 1000) (hQ : Given s it pool its m Q) :
    wpAny (model prog w) A (pyNext (.ref it)) Q E s := by
  have lt := Heap.lt_size hi
  have ne := pool_ne hi hp
  unfold pyNext
  refine wpAny_bind (wpAny_attempt (wpAny_callSpecial?_slot (name := Str.ofString "__next__") (isC_type hi) next_c (wpAny_call_entry next_c (isC_type hi) enext_c ?_ (anext_c _))))
  rw [turn_eq]
  unfold turnC
  refine wpAny_bind (wpAny_field hi rfl (x := .ref pool) (by simp) ?_)
  refine wpAny_bind (numbers_at hi ?_)
  refine wpAny_bind (flag_at hi ?_)
  dsimp only
  have hp0 := hp
  obtain ⟨o, n, ho, hd⟩ := hp0
  unfold Builtin.Itertools.itPoolItems
  refine wpAny_bind (wpAny_bind (wpAny_seqItems ho hd ?_))
  dsimp only
  refine wpAny_pure ?_
  rw [hu]
  dsimp only
  unfold Builtin.Itertools.itSetNumbersFrom
  dsimp only
  refine wpAny_bind (wpAny_updateFields hi rfl ?_ ?_)
  rotate_left
  · rw [sizeLine_eq]
    simp [rawN_len]
    omega
  let f : Array Value → Array Value := fun fs => fs.extract 0 3 ++ (m.map fun (n : Nat) => rawInt n).toArray
  have hi1 : IsC (s.heap.update it (Obj.mapFields f)) it pool 1 old m := by
    have z := Heap.get?_update_self (Obj.mapFields f) hi rfl
    unfold IsC
    rw [z]
    simp [Obj.mapFields, f, rawN]
  have sz : (s.heap.update it (Obj.mapFields f)).objs.size = s.heap.objs.size := Heap.size_update ..
  have hp1 : IsPool (s.heap.update it (Obj.mapFields f)) pool its := ⟨o, n, (Heap.get?_update_ne _ _ _ _ ne).trans ho, hd⟩
  refine wp_give (s := { s with heap := s.heap.update it (Obj.mapFields f) }) hi1 hp1 len fun h' k1 k2 k3 => ?_
  dsimp only at k1 k2 k3 ⊢
  rw [sz] at k1 k2 ⊢
  exact ⟨_, rfl, wpAny_pure (hQ h' k1 k2 fun b o hb ho => k3 b o hb ((Heap.get?_update_ne _ _ _ _ hb).trans ho))⟩
theorem next_stop {it pool : Addr} {its : Array Value} {old : Value} {l : List Nat} {Q : Option Value → Shared → Prop} (hh : A.handled = none) (hi : IsC s.heap it pool 1 old l) (hp : IsPool s.heap pool its) (hu : up its.size l = none)
    (hQ : ∀ h', Heap.ExtBut it s.heap h' → Q none { s with heap := h' }) : wpAny (model prog w) A (pyNext (.ref it)) Q E s := by
  obtain ⟨o, n, ho, hd⟩ := hp
  unfold pyNext
  refine wpAny_bind (wpAny_attempt (wpAny_callSpecial?_slot (name := Str.ofString "__next__") (isC_type hi) next_c (wpAny_call_entry next_c (isC_type hi) enext_c ?_ (anext_c _))))
  rw [turn_eq]
  unfold turnC
  refine wpAny_bind (wpAny_field hi rfl (x := .ref pool) (by simp) ?_)
  refine wpAny_bind (numbers_at hi ?_)
  refine wpAny_bind (flag_at hi ?_)
  dsimp only
  unfold Builtin.Itertools.itPoolItems
  refine wpAny_bind (wpAny_bind (wpAny_seqItems ho hd ?_))
  dsimp only
  refine wpAny_pure ?_
  rw [hu]
  dsimp only
  refine wpAny_bind (wpAny_setField hi rfl (by simp [rawN_len]) ?_)
  unfold Builtin.Itertools.itStop
  change wpAny _ _ (newExc (.type "StopIteration") [] >>= _) _ _ _
  refine wpAny_bind ?_
  simp only [newExc, newTuple]
  refine wpAny_bind (wpAny_newObj_type ?_ (by size_fits))
  refine wpAny_bind (m := firstArgMember _ _) (wpAny_of_eq (a := Value.none) (by first | rfl | (simp only [firstArgMember]; rfl)) ?_)
  refine wpAny_newObj_type ?_ (by size_fits)
  simp only [raiseNew]
  refine wpAny_bind (wpAny_handled ?_)
  rw [show A.in1.handled = none from hh]
  refine wpAny_bind (wpAny_pure (wpAny_throw ?_))
  refine wpAny_bind (wpAny_isInstance (T := "StopIteration") (b := true) ⟨_, Heap.get?_push_size _ rfl, rfl⟩ isSubtype_stop ?_)
  exact wpAny_pure (hQ _ (((Heap.SameBut.update ..).extBut.push _).push _))
theorem iter_self {it pool : Addr} {st : Int} {old : Value} {l : List Nat} {Q : Value → Shared → Prop} (hi : IsC s.heap it pool st old l) (h : Q (.ref it) s) : wpAny (model prog w) A (pyIter (.ref it)) Q E s := by
  refine wpAny_pyIter_slot (isC_type hi) iter_c (wpAny_call_entry iter_c (isC_type hi) eiter_c ?_ (aiter_c _))
  change wpAny _ _ (ret (.ref it)) _ _ s
  exact wpAny_pure ⟨_, rfl, _, _, isC_type hi, next_c.lookup, h⟩
end
end Cb
set_option Elab.async false
set_option linter.all false
set_option maxRecDepth 100000
set_option maxHeartbeats 1000000
namespace Cb
open PySem PySem.Spec PyProof.Rows L2
section
variable {prog : Program} {w : World} {A : Around} {E : Value → Shared → Prop} {s : Shared} {r : Addr} {n k : Nat} {t u v tk : Tok}
theorem plain_c : plainId "itertools.combinations.__new__" = true := by decide +kernel
theorem code_new {Q : Value → Shared → Prop} (hh : A.handled = none) (hr : IsRange s.heap r 0 n 1 t u v) (hsmall : Builtin.Range.small 0 n 1 = true) (hn : Builtin.Range.rangeSize 0 n 1 = n) (hlen : n ≤ 1000) (hk : k ≤ n)
    (h : ∀ (h' : Heap) (tk : Nat) (acc : Array Value), (∀ b o, s.heap.get? b = some o → h'.get? b = some o) → ItemsOf (fun i v => ∃ t, v = .int ((i : Nat) : Int) t) acc n →
      Q (.ref (h'.objs.size + 1)) { s with heap := (h'.push { cls := .type "tuple", data := .seq acc }).push { cls := .type "itertools.combinations", data := .fields ([.ref h'.objs.size, rawInt 0, .none] ++ rawN (List.range k)).toArray }, toks := tk }) :
    codeAny (model prog w) A (.call (.builtin "itertools.combinations.__new__") ⟨[.type "itertools.combinations", .ref r, .int k tk], []⟩) (wants Q E) s := by
  refine codeAny_of_tree ?_
  show wpAny _ A.in1 (do checkBuiltinCall "itertools.combinations.__new__" ⟨[.type "itertools.combinations", .ref r, .int k tk], []⟩; again (.builtin "itertools.combinations.__new__" ⟨[.type "itertools.combinations", .ref r, .int k tk], []⟩)) _ _ s
  refine wpAny_bind (wpAny_of_eq (ncall_c _ _) (wpAny_pure ⟨plainId_quiet plain_c _, codeAny_builtin enew_c ?_⟩))
  rw [Around.under_plainId plain_c _]
  have hsub : isSubtype (.type "itertools.combinations") (.type ("itertools." ++ "combinations")) = pure true := by
    rw [show ("itertools." ++ "combinations" : String) = "itertools.combinations" from by decide]
    exact sub_c
  have hh1 : A.in1.handled = none := hh
  wp_walk
  rw [if_neg (by rw [decide_eq_false (by omega), decide_eq_false (by omega)]; decide)]
  refine wpAny_pure ?_
  refine wpAny_bind (collect_range (A := A.in1) hh1 hr hsmall hn (by omega) fun h' tk' acc kp hacc => ?_)
  dsimp only
  rw [if_neg (by omega)]
  unfold Builtin.Itertools.itTooMany
  rw [if_neg (by rw [decide_eq_true_eq]; omega)]
  have sz : acc.size = n := hacc.1
  refine wpAny_bind (wpAny_newTuple ?_ (by rw [Array.length_toList, sz, sizeLine_eq]; omega))
  refine wpAny_pure ?_
  dsimp only
  unfold Builtin.Itertools.itNewRecord
  rw [nodict_c]
  simp only [Bool.not_false, if_true]
  refine wpAny_bind (wpAny_newObj_type ?_ ?_)
  rotate_left
  · unfold sizeOk
    rw [sizeLine_eq]
    simp
    omega
  refine wpAny_pure ?_
  have e1 : (if (k : Int).toNat > acc.toList.length then (2 : Int) else 0) = 0 := if_neg (by rw [Array.length_toList, sz]; omega)
  have fin := h h' tk' acc kp ⟨sz, fun j v e => by
    obtain ⟨t, e⟩ := hacc.2 j v e
    exact ⟨t, by rw [e, Int.zero_add, Int.mul_one]⟩⟩
  rw [e1]
  simp only [Int.toNat_natCast, Array.toArray_toList, Heap.size_push] at fin ⊢
  exact fin
end
end Cb
set_option Elab.async false
set_option linter.all false
set_option maxRecDepth 100000
set_option maxHeartbeats 1000000
/-! SH: for x in combinations(range(n), k), n at most 7. -/
namespace Cb
open PySem PySem.Spec PyProof.Rows L2
section
variable {prog : Program} {w : World} {A : Around} {E : Value → Shared → Prop} {s : Shared} {r : Addr} {n k : Nat} {t u v tk : Tok}
theorem call_c {Q : Value → Shared → Prop} (hh : A.handled = none) (hr : IsRange s.heap r 0 n 1 t u v) (hsmall : Builtin.Range.small 0 n 1 = true) (hn : Builtin.Range.rangeSize 0 n 1 = n) (hlen : n ≤ 1000) (hk : k ≤ n)
    (h : ∀ (h1 h' : Heap) (tk : Nat) (its : Array Value) (pool it : Addr), (∀ b o, s.heap.get? b = some o → h1.get? b = some o) → (∀ b o, h1.get? b = some o → h'.get? b = some o) → h1.objs.size ≤ pool → h1.objs.size ≤ it → ItemsOf (fun i v => ∃ t, v = .int ((i : Nat) : Int) t) its n → IsPool h' pool its →
      IsC h' it pool 0 .none (List.range k) → Q (.ref it) { s with heap := h', toks := tk }) :
    wpAny (model prog w) A (call (.type "itertools.combinations") [.ref r, .int k tk]) Q E s := by
  refine callType_codes (Q₁ := fun obj s₁ => s₁.TypeIs obj "itertools.combinations" ∧ Q obj s₁) called_c (tcall_c _ _) F.entry_object_init (code_new (A := A.in1) hh hr hsmall hn hlen hk fun h' tk' acc kp hacc => ?_) fun obj s₁ h₁ => ?_
  · have atI : ((h'.push { cls := .type "tuple", data := .seq acc }).push { cls := .type "itertools.combinations", data := .fields ([.ref h'.objs.size, rawInt 0, .none] ++ rawN (List.range k)).toArray }).get? (h'.objs.size + 1) = some { cls := .type "itertools.combinations", data := .fields ([.ref h'.objs.size, rawInt 0, .none] ++ rawN (List.range k)).toArray } := by
      have z := Heap.get?_push_size (h := h'.push { cls := .type "tuple", data := .seq acc }) (o := { cls := .type "itertools.combinations", data := .fields ([.ref h'.objs.size, rawInt 0, .none] ++ rawN (List.range k)).toArray }) rfl
      rw [Heap.size_push] at z
      exact z
    exact ⟨⟨_, atI, rfl⟩, h h' _ tk' acc h'.objs.size (h'.objs.size + 1) kp (fun b o e => Heap.get?_push_of_some _ (Heap.get?_push_of_some _ e)) (Nat.le_refl _) (Nat.le_succ _) hacc ⟨_, 0, Heap.get?_push_of_some _ (Heap.get?_push_size _ rfl), rfl⟩ atI⟩
  · exact ⟨h₁.1, F.args_object_init_3 obj _ _, object_init_meets called_c.init.lookup called_c.made (by decide +kernel) prog w A.in1 _ s₁ ⟨h₁.1, rfl, h₁.2⟩⟩
end
/-! ### the rows -/
def rowsFrom (n : Nat) : Nat → List Nat → List (List Nat)
  | 0, _ => []
  | f + 1, l => l :: (match up n l with
    | some m => rowsFrom n f m
    | none => [])
/-- all rows of k places out of n, in order -/
def combs (n k : Nat) : List (List Nat) := rowsFrom n 200 (List.range k)
def linked (n : Nat) : List (List Nat) → Bool
  | [] => false
  | [l] => (up n l).isNone
  | l :: m :: r => (up n l == some m) && linked n (m :: r)
def okC (n k : Nat) : Bool := (combs n k).head? == some (List.range k) && linked n (combs n k) && (combs n k).all fun l => decide (l.length ≤ 7) && l.all fun j => decide (j < n)
theorem okC_all : ((List.range 8).all fun n => (List.range (n + 1)).all fun k => okC n k) = true := by decide +kernel
theorem okC_of {n k : Nat} (hn : n ≤ 7) (hk : k ≤ n) : okC n k = true := List.all_eq_true.mp (List.all_eq_true.mp okC_all n (List.mem_range.mpr (by omega))) k (List.mem_range.mpr (by omega))
theorem linked_at {n : Nat} : ∀ {cs : List (List Nat)} {i : Nat} {l : List Nat}, linked n cs = true → cs[i]? = some l → (∀ m, cs[i + 1]? = some m → up n l = some m) ∧ (cs[i + 1]? = none → up n l = none)
  | [], _, _, _, e => by simp at e
  | [x], 0, l, h, e => by
    cases e
    exact ⟨fun m q => by simp at q, fun _ => Option.isNone_iff_eq_none.mp h⟩
  | [x], i + 1, l, h, e => by simp at e
  | x :: y :: r, 0, l, h, e => by
    cases e
    have h : ((up n x == some y) && linked n (y :: r)) = true := h
    rw [Bool.and_eq_true, beq_iff_eq] at h
    exact ⟨fun m q => by cases q; exact h.1, fun q => by simp at q⟩
  | x :: y :: r, i + 1, l, h, e => by
    have h : ((up n x == some y) && linked n (y :: r)) = true := h
    rw [Bool.and_eq_true, beq_iff_eq] at h
    exact linked_at (cs := y :: r) (i := i) h.2 e
structure CombsOk (n k : Nat) : Prop where
  first : (combs n k)[0]? = some (List.range k)
  link : linked n (combs n k) = true
  small : ∀ l ∈ combs n k, l.length ≤ 7 ∧ ∀ j ∈ l, j < n
theorem combsOk {n k : Nat} (hn : n ≤ 7) (hk : k ≤ n) : CombsOk n k := by
  have h := okC_of hn hk
  unfold okC at h
  simp only [Bool.and_eq_true, beq_iff_eq, List.all_eq_true, decide_eq_true_eq] at h
  exact ⟨by rw [← List.head?_eq_getElem?]; exact h.1.1, h.1.2, h.2⟩
/-- the turns -/
def Itk (n k : Nat) : It := ⟨fun i _ => i < (combs n k).length, fun i H v H' => ∃ T l, v = .ref T ∧ H T = none ∧ (combs n k)[i]? = some l ∧ H' = upd H T (.tup (l.map fun j => V.int (j : Nat))), fun i _ => i = (combs n k).length⟩
theorem turn_c {P : Program} {w : World} {K : PySem.W.Frag} {tg : PySem.Expr} {n k : Nat} (C : CombsOk n k) (hn : n ≤ 7) {pool it : Addr} :
    Turn P w K tg (Itk n k) [it, pool] it (fun i h => ∃ its, IsPool h pool its ∧ ItemsOf (fun i v => ∃ t, v = .int ((i : Nat) : Int) t) its n ∧ (i = 0 → ∃ old, IsC h it pool 0 old (List.range k)) ∧ ∀ j, i = j + 1 → ∃ old l, (combs n k)[j]? = some l ∧ IsC h it pool 1 old l) where
  mem := by simp
  obj := fun i h ⟨its, ⟨op, m, ho, hd⟩, _, z0, z1⟩ b hb => by
    have e' : b = it ∨ b = pool := by simpa using hb
    rcases e' with rfl | rfl
    · cases i with
      | zero => obtain ⟨old, q⟩ := z0 rfl; exact ⟨_, q, fun v q => nomatch q⟩
      | succ j => obtain ⟨old, l, _, q⟩ := z1 j rfl; exact ⟨_, q, fun v q => nomatch q⟩
    · exact ⟨op, ho, fun v q => by rw [hd] at q; cases q⟩
  keep := fun i h h' ⟨its, ⟨op, m, ho, hd⟩, q, z0, z1⟩ kp => ⟨its, ⟨op, m, kp pool (by simp) _ ho, hd⟩, q, fun e => let ⟨old, y⟩ := z0 e; ⟨old, kp it (by simp) _ y⟩, fun j e => let ⟨old, l, y1, y⟩ := z1 j e; ⟨old, l, y1, kp it (by simp) _ y⟩⟩
  item := by
    intro X hP hw hK hc i pins s σ H E I hf st hg
    subst hP hw hK
    obtain ⟨its, hp, hits, z0, z1⟩ := st
    have hg : i < (combs n k).length := hg
    obtain ⟨l, hl⟩ : ∃ l, (combs n k)[i]? = some l := ⟨_, List.getElem?_eq_getElem hg⟩
    obtain ⟨l1, l2⟩ := C.small l (List.mem_of_getElem? hl)
    have given : Given s it pool its l fun r s1 => ∃ u, r = some u ∧ wpAny (model X.prog X.w) X.A (letOwnedTupleGo tg (.ref it) u) (fun _ s2 => ∃ x H', Inv X pins σ H' s2 ∧ RelV x u ∧ (Itk n k).yld i H x H' ∧ (∃ its, IsPool s2.heap pool its ∧ ItemsOf (fun i v => ∃ t, v = .int ((i : Nat) : Int) t) its n ∧ (i + 1 = 0 → ∃ old, IsC s2.heap it pool 0 old (List.range k)) ∧ ∀ j, i + 1 = j + 1 → ∃ old l, (combs n k)[j]? = some l ∧ IsC s2.heap it pool 1 old l) ∧ ∀ b ∈ [it, pool], H' b = none) E s1 := by
      intro h' k1 k2 k3
      refine ⟨_, rfl, go_of (s := { s with heap := h' }) k1 rfl rfl (by decide) ?_⟩
      have vals : Vals (l.map fun j => V.int (j : Nat)) (l.map fun j => its.getD j .none) := by
        have : ∀ m : List Nat, (∀ j ∈ m, j < n) → Vals (m.map fun j => V.int (j : Nat)) (m.map fun j => its.getD j .none) := by
          intro m
          induction m with
          | nil => exact fun _ => .nil
          | cons j m ih =>
            intro q
            refine .cons ?_ (ih fun a ha => q a (List.mem_cons_of_mem _ ha))
            have hj := q j List.mem_cons_self
            have hs : j < its.size := by rw [hits.1]; exact hj
            have hv : its[j]? = some its[j] := Array.getElem?_eq_getElem hs
            obtain ⟨t, e⟩ := hits.2 j _ hv
            refine ⟨t, ?_⟩
            show its.getD j .none = _
            rw [Array.getD_eq_getD_getElem?, hv, e]
            rfl
        exact this l l2
      have new : ObjOk X.prog X.w (upd H s.heap.objs.size (.tup (l.map fun j => V.int (j : Nat)))) h' s.heap.objs.size (.tup (l.map fun j => V.int (j : Nat))) :=
        ⟨by rw [List.length_map, sizeLine_eq]; omega, _, vals, ⟨_, k2, rfl, 0, rfl⟩⟩
      have I1 : Inv X pins σ (upd H s.heap.objs.size (.tup (l.map fun j => V.int (j : Nat)))) { s with heap := h', toks := s.toks } :=
        I.turnedNew (ch := [it, pool]) (fun b o hb e => k3 b o (fun z => hb (by simp [z])) e) hf (Nat.le_refl _) new
      refine ⟨.ref s.heap.objs.size, _, I1, rfl, ⟨_, l, rfl, I.hok.fresh (Nat.le_refl _), hl, rfl⟩, ⟨its, ?_, hits, fun e => by omega, fun j e => ?_⟩, fun b hb => ?_⟩
      · have hpp := hp
        obtain ⟨o, m, ho, hd⟩ := hpp
        refine ⟨o, m, k3 pool o ?_ ho, hd⟩
        cases i with
        | zero => obtain ⟨old, q⟩ := z0 rfl; exact pool_ne q hp
        | succ j => obtain ⟨old, _, _, q⟩ := z1 j rfl; exact pool_ne q hp
      · have e : j = i := by omega
        subst e
        exact ⟨_, l, hl, k1⟩
      · have lt : b < s.heap.objs.size := by
          have e' : b = it ∨ b = pool := by simpa using hb
          rcases e' with rfl | rfl
          · cases i with
            | zero => obtain ⟨old, q⟩ := z0 rfl; exact Heap.lt_size q
            | succ j => obtain ⟨old, _, _, q⟩ := z1 j rfl; exact Heap.lt_size q
          · obtain ⟨o, m, ho, hd⟩ := hp
            exact Heap.lt_size ho
        rw [upd_ne (Nat.ne_of_lt lt)]
        exact (hf b hb).1
    cases i with
    | zero =>
      obtain ⟨old, q⟩ := z0 rfl
      have e : l = List.range k := Option.some.inj (hl.symm.trans C.first)
      subst e
      exact next_first q hp (by omega) given
    | succ j =>
      obtain ⟨old, l0, q0, q⟩ := z1 j rfl
      have hu := (linked_at C.link q0).1 l hl
      exact next_more q hp (by rw [hits.1]; exact hu) (by omega) given
  done := by
    intro X hP hw hK hc i pins s σ H E I hf st hg
    subst hP hw hK
    obtain ⟨its, hp, hits, z0, z1⟩ := st
    have hg : i = (combs n k).length := hg
    obtain ⟨f0, f1, f2, f3, f4, f5⟩ := hf it (by simp)
    cases i with
    | zero =>
      have := C.first
      rw [List.getElem?_eq_none (by omega)] at this
      cases this
    | succ j =>
      obtain ⟨old, l, q0, q⟩ := z1 j rfl
      have hu := (linked_at C.link q0).2 (List.getElem?_eq_none (by omega))
      exact next_stop (I.ok.hd hc) q hp (by rw [hits.1]; exact hu) fun h' eb => ⟨rfl, I.turned (t' := s.toks) (fun b o hb e => eb b o hb e) f0 f1 f3 f4 f5⟩
  self := fun A i s Q E ⟨its, _, _, z0, z1⟩ h => by
    cases i with
    | zero => obtain ⟨old, q⟩ := z0 rfl; exact iter_self q h
    | succ j => obtain ⟨old, l, _, q⟩ := z1 j rfl; exact iter_self q h
end Cb
set_option Elab.async false
set_option linter.all false
set_option maxRecDepth 100000
set_option maxHeartbeats 1000000
/-! SI: for x in combinations(range(n), k) as a rule of data. -/
namespace DL
open PySem PySem.Spec PyProof.Rows L2 Cb
section
variable {X : Cx}
def rRng1 : List V → Hp → VK → Prop := fun vs H Q => ∃ j, vs = [V.int j] ∧ ∀ p, H p = none → Q (.ref p) (upd H p (.rng 0 j))
theorem cr_rng1 : CallR X (.type "range") rRng1 := by
  intro pins s σ H vs us Q I r h
  obtain ⟨j, rfl, q⟩ := h
  cases r with
  | cons r rr =>
    cases rr
    obtain ⟨t, rfl⟩ := r
    refine call_range_1 ⟨.ref s.heap.objs.size, upd H s.heap.objs.size (.rng 0 j), I.laid (t' := s.toks + 1 + 1) (fun b o e => Heap.get?_push_of_some _ e) (Nat.le_refl _) ?_, rfl, q _ (I.hok.fresh (Nat.le_refl _))⟩
    exact ⟨s.toks, t, s.toks + 1, Heap.get?_push_size _ rfl⟩
theorem rng_small : ∀ n : Nat, n ≤ 7 → Builtin.Range.small 0 (n : Int) 1 = true ∧ Builtin.Range.rangeSize 0 (n : Int) 1 = n
  | 0, _ => by decide
  | 1, _ => by decide
  | 2, _ => by decide
  | 3, _ => by decide
  | 4, _ => by decide
  | 5, _ => by decide
  | 6, _ => by decide
  | 7, _ => by decide
  | n + 8, h => by omega
def iComb (ta tb : TE) : TI := fun σ H R => tCons (tCB rRng1 (tCons ta tNil)) (tCons tb tNil) σ H fun vs H2 => ∃ (n k : Nat) (r : Addr), vs = [V.ref r, V.int (k : Int)] ∧ n ≤ 7 ∧ k ≤ n ∧ H2 r = some (.rng 0 (n : Int)) ∧ R (Itk n k) H2
theorem pi_comb {tg a b : PySem.Expr} {ta tb : TE} {p p2 q pos : Pos} (hc : X.calm = true) (hm : X.mg "combinations" = some (.type "itertools.combinations")) (hm2 : X.mg "range" = none) (ha : PE X a ta) (hb : PE X b tb) (hg : Gl X "combinations" := by rfl) (hg2 : Gl X "range" := by rfl)
    (h1 : starEach [a] X.env = (false, eval a X.env) :: starEach [] X.env := by rfl) (h2 : starEach [b] X.env = (false, eval b X.env) :: starEach [] X.env := by rfl)
    (h3 : starEach [.Call (.Name "range" p2) [a] [] q, b] X.env = (false, eval (.Call (.Name "range" p2) [a] [] q) X.env) :: starEach [b] X.env := by rfl)
    (hpl : (backTo q (starEach [] X.env)).any (·.1) = false := by rfl) (hpl2 : (backTo pos (starEach [b] X.env)).any (·.1) = false := by rfl) :
    PI X tg (.Call (.Name "combinations" p) [.Call (.Name "range" p2) [a] [] q, b] [] pos) (iComb ta tb) := by
  have args := pa_cons (pe_callTy (cr_rng1 (X := X)) hg2 hm2 boot_range (p := p2) (pos := q) (pa_cons ha pa_nil h1) (by decide) (by decide) h1 hpl) (pa_cons hb pa_nil h2) h3
  refine ⟨fun pins s σ H R I h => ?_⟩
  refine Call_ (ld_glob I hg hm (callWith_type1 (thn (args.run pos pins s σ H _ I h) fun us s1 ⟨vs, H1, I1, r1, q1⟩ => ?_) h3 hpl2))
  obtain ⟨n, k, r, rfl, hn, hk, hr, q1⟩ := q1
  cases r1 with
  | cons ra r1 =>
    cases ra
    cases r1 with
    | cons rb r1 =>
      cases r1
      obtain ⟨tk, rfl⟩ := rb
      obtain ⟨t, u, v, hrr⟩ := I1.hok r _ hr
      obtain ⟨sm, sz⟩ := rng_small n hn
      refine call_c (I1.ok.hd hc) hrr sm sz (by omega) hk fun h1 h' tk' its pool it k1 k2 le1 le2 hits hp hi => ?_
      have I2 : Inv X pins σ H1 { s1 with heap := h1 } := I1.kept (t' := s1.toks) k1
      have I3 : Inv X pins σ H1 { s1 with heap := h', toks := tk' } := I2.kept (s := { s1 with heap := h1 }) (t' := tk') k2
      refine iter_self (s := { s1 with heap := h', toks := tk' }) hi ?_
      refine ⟨it, [it, pool], _, _, H1, rfl, I3, turn_c (combsOk hn hk) hn, ⟨its, hp, hits, fun _ => ⟨_, hi⟩, fun j e => by omega⟩, fun b hb => ?_, q1⟩
      have le : h1.objs.size ≤ b := by
        have e' : b = it ∨ b = pool := by simpa using hb
        rcases e' with rfl | rfl
        · exact le2
        · exact le1
      exact I2.fpOk le (I2.hok.fresh le)
/-! ### by data -/
def comb2 : D → D → Res (List D)
  | .int n, .int k => if 0 ≤ n ∧ n ≤ 7 ∧ 0 ≤ k ∧ k ≤ n then .ok ((combs n.toNat k.toNat).map fun l => .tup (l.map fun j => .int (j : Nat))) else .st
  | _, _ => .st
theorem comb2_ok {x y : D} {ds : List D} (h : comb2 x y = .ok ds) : ∃ n k : Nat, x = .int n ∧ y = .int k ∧ n ≤ 7 ∧ k ≤ n ∧ ds = (combs n k).map fun l => .tup (l.map fun j => .int (j : Nat)) := by
  unfold comb2 at h
  split at h
  · split at h
    · rename_i n k z
      cases h
      exact ⟨n.toNat, k.toNat, by rw [Int.toNat_of_nonneg z.1], by rw [Int.toNat_of_nonneg z.2.2.1], by omega, by omega, rfl⟩
    · cases h
  · cases h
theorem comb2_ner {x y : D} {e : Exn} (h : comb2 x y = .er e) : False := by
  unfold comb2 at h
  split at h
  · split at h <;> cases h
  · cases h
theorem rep_nats {K : PySem.W.Frag} {mg : Str → Option Value} {F : Hp} : ∀ l : List Nat, RepAll K mg F (l.map fun j => V.int (j : Nat)) (l.map fun j => D.int (j : Nat))
  | [] => .nil
  | _ :: l => .cons (.int _) (rep_nats l)
def eComb (fa fb : DEnv → Res D) : DEnv → Res (List D) := fun ρ => (fa ρ).bind fun x => match x with
  | .int n => (fb ρ).bind fun y => comb2 (.int n) y
  | _ => .st
theorem itd_comb {K : PySem.W.Frag} {mg : Str → Option Value} {F : Hp} {n k : Nat} : ItD K mg (Itk n k) F ((combs n k).map fun l => .tup (l.map fun j => .int (j : Nat))) := fun i Fc H s1 s2 => by
  refine ⟨fun e => by show i = _; rw [e, List.length_map], fun d hd => ?_⟩
  rw [List.getElem?_map] at hd
  cases hl : (combs n k)[i]? with
  | none => rw [hl] at hd; cases hd
  | some l =>
    rw [hl] at hd
    cases hd
    refine ⟨(List.getElem?_eq_some_iff.mp hl).1, fun x H' y => ?_⟩
    obtain ⟨T, l', rfl, nT, hl', rfl⟩ := y
    rw [hl] at hl'
    cases hl'
    exact ⟨upd Fc T (.tup (l.map fun j => V.int (j : Nat))), Ext.new s2 nT, .tup (SqT.of upd_same) (rep_nats l)⟩
/-- combinations(range(a), b) -/
theorem id_comb {We : WeX} {Sa Sb : List Nat} {fa fb : DEnv → Res D} {tg a b : PySem.Expr} {p p2 q pos : Pos} (hc : X.calm = true) (hm : X.mg "combinations" = some (.type "itertools.combinations")) (hm2 : X.mg "range" = none) (ha : PD X We Sa a fa) (hb : PD X We Sb b fb) (hg : Gl X "combinations" := by rfl) (hg2 : Gl X "range" := by rfl)
    (h1 : starEach [a] X.env = (false, eval a X.env) :: starEach [] X.env := by rfl) (h2 : starEach [b] X.env = (false, eval b X.env) :: starEach [] X.env := by rfl)
    (h3 : starEach [.Call (.Name "range" p2) [a] [] q, b] X.env = (false, eval (.Call (.Name "range" p2) [a] [] q) X.env) :: starEach [b] X.env := by rfl)
    (hpl : (backTo q (starEach [] X.env)).any (·.1) = false := by rfl) (hpl2 : (backTo pos (starEach [b] X.env)).any (·.1) = false := by rfl) :
    ID0 X We (Sa ++ Sb) tg (.Call (.Name "combinations" p) [.Call (.Name "range" p2) [a] [] q, b] [] pos) (eComb fa fb) :=
  pi_imp (pi_comb hc hm hm2 ha hb hg hg2 h1 h2 h3 hpl hpl2) fun σ H R ⟨F, ρ, hF, hE, qq⟩ => by
    refine ⟨F, ρ, hF, hE.l, Out.bind qq fun x F1 H1 v ex rx q1 => ?_⟩
    cases x with
    | int n =>
      cases rx
      refine ⟨n, rfl, fun r nr => ⟨F1, ρ, ex.2.1.trans (same_upd nr), hE.r.mono ex.1, Out.bind (Out.mono (R := RI0 X.K X.mg) q1 (Ext.new0 ex.2.1 nr)) fun y F2 H2 u ey ry q2 => ?_⟩⟩
      cases hcm : comb2 (.int n) y with
      | st => rw [hcm] at q2; exact q2.elim
      | er e => exact (comb2_ner hcm).elim
      | ok ds =>
        rw [hcm] at q2
        obtain ⟨n', k, en, rfl, hn, hk, rfl⟩ := comb2_ok hcm
        cases en
        cases ry
        exact ⟨n', k, r, rfl, hn, hk, ey.2.2.1 _ _ upd_same, q2 F2 H2 _ (Ext.refl ey.2.1) itd_comb⟩
    | _ => exact q1.elim
end
end DL
set_option Elab.async false
set_option linter.all false
set_option maxRecDepth 100000
set_option maxHeartbeats 1000000
/-! DL19: what printed try statements ask of the text. -/
namespace DL
open PySem PySem.Spec PyProof.Rows L2
section
variable {K : PySem.W.Frag} {mg : Str → Option Value}
theorem kcls_by {X Y : Addr} {b : Bool} (hd : PySem.W.hasDictIn K Y = true) (ty : PySem.W.typeIn K (.ref Y) = some (.type "type")) (sub : PySem.W.subIn K (.ref X) (.ref Y) = some b) : PySem.W.kitCls K (.ref X) (.ref Y) = some b := by
  show (if ((PySem.W.clsIn K Y).isSome && PySem.W.typeIn K (.ref Y) == some (.type "type")) = true then PySem.W.subIn K (.ref X) (.ref Y) else none) = some b
  rw [if_pos (by rw [isx_has hd, ty]; decide)]
  exact sub
theorem exm_by {X Y : Addr} {b : Bool} (ex : PySem.W.subIn K (.ref Y) (.type "BaseException") = some true) (hd : PySem.W.hasDictIn K Y = true) (ty : PySem.W.typeIn K (.ref Y) = some (.type "type")) (sub : PySem.W.subIn K (.ref X) (.ref Y) = some b) : PySem.W.exmOne K (.ref X) (.ref Y) = some b := by
  unfold PySem.W.exmOne
  rw [if_pos (by rw [ex]; decide)]
  exact kcls_by hd ty sub
theorem kit_by {X Y : Addr} {b : Bool} (hd : PySem.W.hasDictIn K Y = true) (ty : PySem.W.typeIn K (.ref Y) = some (.type "type")) (self : PySem.W.subIn K (.ref Y) (.ref Y) = some true) (sub : PySem.W.subIn K (.ref X) (.ref Y) = some b) : PySem.W.kitOne K (.ref X) (.ref Y) = some b := by
  unfold PySem.W.kitOne
  by_cases e : ((Value.ref X) == (Value.ref Y)) = true
  · rw [if_pos e]
    have e : Value.ref X = Value.ref Y := by simpa using e
    rw [e, self] at sub
    exact sub
  · rw [if_neg e]
    exact kcls_by hd ty sub
/-- which classes, by a list -/
def csL (l : List (Str × Bool)) : Str → Option Bool := fun z => l.lookup z
theorem csL_nil {P : Addr → Bool → Prop} : ∀ z b, csL [] z = some b → ∀ C, mg z = some (.ref C) → P C b := fun _ _ h => by cases h
theorem csL_cons {P : Addr → Bool → Prop} {x : Str} {v : Bool} {A : Addr} {l : List (Str × Bool)} (m : mg x = some (.ref A)) (p : P A v) (r : ∀ z b, csL l z = some b → ∀ C, mg z = some (.ref C) → P C b) : ∀ z b, csL ((x, v) :: l) z = some b → ∀ C, mg z = some (.ref C) → P C b := fun z b h C hC => by
  unfold csL at h
  rw [List.lookup_cons] at h
  by_cases e : (z == x) = true
  · rw [e] at h
    cases h
    have e : z = x := by simpa using e
    subst e
    rw [m] at hC
    cases hC
    exact p
  · rw [Bool.not_eq_true] at e
    rw [e] at h
    exact r z b h C hC
end
end DL
set_option Elab.async false
set_option linter.all false
set_option maxRecDepth 100000
set_option maxHeartbeats 1000000
/-! DL20: list(range(n)), tuple(range(n)). -/
namespace DL
open PySem PySem.Spec PyProof.Rows L2
def rngN : D → Res (List D)
  | .int j => if 0 ≤ j ∧ j ≤ 100000 then .ok (rangeD 0 j.toNat) else .st
  | _ => .st
theorem rngN_ok {d : D} {ds : List D} (h : rngN d = .ok ds) : ∃ n : Nat, d = .int n ∧ n ≤ 100000 ∧ ds = rangeD 0 n := by
  unfold rngN at h
  split at h
  · split at h
    · rename_i z
      cases h
      exact ⟨_, by rw [Int.toNat_of_nonneg z.1], by omega, rfl⟩
    · cases h
  · cases h
theorem rngN_ner {d : D} {e : Exn} (h : rngN d = .er e) : False := by
  unfold rngN at h
  split at h
  · split at h <;> cases h
  · cases h
theorem rep_rgV {K : PySem.W.Frag} {mg : Str → Option Value} {F : Hp} {n : Nat} : RepAll K mg F (rgV 0 n) (rangeD 0 n) := by
  unfold rgV rangeD
  rw [show ((n : Int) - 0).toNat = n by omega]
  generalize List.range n = l
  induction l with
  | nil => exact .nil
  | cons a l ih => exact .cons (.int _) ih
def tupRg (d : D) : Res D := (rngN d).bind fun ds => .ok (.tup ds)
section
variable {X : Cx} {We : WeX} {S : List Nat} {f : DEnv → Res D} {a : PySem.Expr} {p p2 q pos : Pos}
theorem pf_listRg (hc : X.calm = true) (hm : X.mg "list" = none) (hm2 : X.mg "range" = none) (ha : PD X We S a f) (hg : Gl X "list" := by rfl) (hg2 : Gl X "range" := by rfl) (h1 : starEach [a] X.env = (false, eval a X.env) :: starEach [] X.env := by rfl) (hpl : (backTo q (starEach [] X.env)).any (·.1) = false := by rfl)
    (na : starEach [.Call (.Name "range" p2) [a] [] q] X.env = (false, eval (.Call (.Name "range" p2) [a] [] q) X.env) :: starEach [] X.env := by rfl) :
    PF X We S (.Call (.Name "list" p) [.Call (.Name "range" p2) [a] [] q] [] pos) (e1 rngN f) :=
  pe_imp (pe_listRg hc hg hm (prg_1 hg2 hm2 ha h1) na) fun σ H Q ⟨F, ρ, hF, hE, qq⟩ => ⟨F, ρ, hF, hE, Out.bind qq fun x F1 H1 v ex rx q1 => by
    cases hr : rngN x with
    | st => rw [hr] at q1; exact q1.elim
    | er e => exact (rngN_ner hr).elim
    | ok ds =>
      rw [hr] at q1
      obtain ⟨n, rfl, hn, rfl⟩ := rngN_ok hr
      cases rx
      exact ⟨_, rfl, RgOk.of_le (by omega) (by omega) (by omega) (by omega), fun r nr => q1 F1 _ _ (Ext.new0 ex.2.1 nr) ⟨r, _, rfl, nr, ex.2.1.free nr, upd_same, rep_rgV⟩⟩⟩
theorem pd_tupRg (hc : X.calm = true) (hm : X.mg "tuple" = none) (hm2 : X.mg "range" = none) (ha : PD X We S a f) (hg : Gl X "tuple" := by rfl) (hg2 : Gl X "range" := by rfl) (h1 : starEach [a] X.env = (false, eval a X.env) :: starEach [] X.env := by rfl) (hpl : (backTo q (starEach [] X.env)).any (·.1) = false := by rfl)
    (na : starEach [.Call (.Name "range" p2) [a] [] q] X.env = (false, eval (.Call (.Name "range" p2) [a] [] q) X.env) :: starEach [] X.env := by rfl) :
    PD X We S (.Call (.Name "tuple" p) [.Call (.Name "range" p2) [a] [] q] [] pos) (e1 tupRg f) :=
  pe_imp (pe_tupRg hc hg hm (prg_1 hg2 hm2 ha h1) na) fun σ H Q ⟨F, ρ, hF, hE, qq⟩ => ⟨F, ρ, hF, hE, Out.bind qq fun x F1 H1 v ex rx q1 => by
    unfold tupRg at q1
    cases hr : rngN x with
    | st => rw [hr] at q1; exact q1.elim
    | er e => exact (rngN_ner hr).elim
    | ok ds =>
      rw [hr] at q1
      obtain ⟨n, rfl, hn, rfl⟩ := rngN_ok hr
      cases rx
      exact ⟨_, rfl, RgOk.of_le (by omega) (by omega) (by omega) (by omega), fun r nr => q1 (upd F1 r (.tup (rgV 0 n))) _ _ (Ext.new ex.2.1 nr) (.tup (SqT.of upd_same) rep_rgV)⟩⟩
end
end DL
set_option Elab.async false
set_option linter.all false
set_option maxRecDepth 100000
set_option maxHeartbeats 1000000
/-! DL21: list + list, list * int, is True, reversed(range(n)), keyword-only parameters, properties. -/
namespace DL
open PySem PySem.Spec PyProof.Rows L2
/-! ### list + list, list * int -/
section
variable {X : Cx}
def rCatS (K : PySem.W.Frag) : R2 := fun x y H Q => ∃ l b xs zs, x = .ref l ∧ y = .ref b ∧ SqL K H l xs ∧ SqL K H b zs ∧ xs.length + zs.length ≤ sizeLine ∧ ∀ p, H p = none → Q (.ref p) (upd H p (.lst (xs ++ zs)))
theorem op_catS : OpR X (binaryOp .Add) (rCatS X.K) := by
  intro pins s σ H x y v u Q I rx ry h
  obtain ⟨l, b, xs, zs, rfl, rfl, hH, hB, hz, q⟩ := h
  cases rx
  cases ry
  obtain ⟨its, r, pl, z⟩ := I.list hH
  obtain ⟨its2, r2, pl2, z2⟩ := I.list hB
  have hl := r.length
  have hl2 := r2.length
  obtain ⟨⟨cls, dd, data, sl⟩, n, ho, hc, hd, hs⟩ := pl
  obtain ⟨⟨cls2, dd2, data2, sl2⟩, n2, ho2, hc2, hd2, hs2⟩ := pl2
  simp only at hc hd hs hc2 hd2 hs2
  subst hc hd hs hc2 hd2 hs2
  have e : its.toArray ++ its2.toArray = (its ++ its2).toArray := by simp
  refine PySem.concat_meets ⟨_, ho, rfl⟩ ⟨_, ho2, rfl⟩ PySem.noFill_list_add PySem.seq_list_add PySem.F.slot_list_add PySem.F.entry_list_add (PySem.F.args_list_add_2 _ _) (list_addW l b its.toArray its2.toArray n n2 none none sl sl2 (by rw [List.size_toArray, List.size_toArray]; omega)) ⟨ho, ho2, ?_⟩
  rw [e]
  exact ⟨.ref _, _, I.lnew (t' := s.toks) (r.append r2) (by rw [List.length_append]; omega), rfl, q _ I.fresh⟩
end
/-! ### x is True -/
def rIsTr : R2 := fun x y H Q => ∃ b, y = .bl b ∧ (x = .non ∨ (∃ k, x = .bl k) ∨ (∃ i, x = .int i) ∨ (∃ z, x = .str z) ∨ ∃ a, x = .ref a) ∧ Q (.bl (decide (x = .bl b))) H
def rIsNTr : R2 := fun x y H Q => ∃ b, y = .bl b ∧ (x = .non ∨ (∃ k, x = .bl k) ∨ (∃ i, x = .int i) ∨ (∃ z, x = .str z) ∨ ∃ a, x = .ref a) ∧ Q (.bl (!decide (x = .bl b))) H
theorem op_isTr {X : Cx} : OpR X (compareOp .Is) rIsTr := by
  intro pins s σ H x y v u Q I rx ry h
  obtain ⟨b, rfl, hx, q⟩ := h
  cases (show u = Value.bool b from ry)
  rcases hx with rfl | ⟨k, rfl⟩ | ⟨i, rfl⟩ | ⟨z, rfl⟩ | ⟨a, rfl⟩
  · cases rx
    exact wpAny_is_other rfl (fun z => nomatch z) ⟨.bl false, H, I, rfl, by simpa using q⟩
  · cases (show v = Value.bool k from rx)
    by_cases e : k = b
    · subst e
      exact wpAny_is_self rfl ⟨.bl true, H, I, rfl, by simpa using q⟩
    · exact wpAny_is_other rfl (fun z => e (Value.bool.inj z)) ⟨.bl false, H, I, rfl, by simpa [e] using q⟩
  · obtain ⟨t, rfl⟩ := rx
    exact wpAny_is_other rfl (fun z => nomatch z) ⟨.bl false, H, I, rfl, by simpa using q⟩
  · obtain ⟨t, rfl⟩ := rx
    exact wpAny_is_other rfl (fun z => nomatch z) ⟨.bl false, H, I, rfl, by simpa using q⟩
  · cases rx
    exact wpAny_is_other rfl (fun z => nomatch z) ⟨.bl false, H, I, rfl, by simpa using q⟩
theorem op_isNTr {X : Cx} : OpR X (compareOp .IsNot) rIsNTr := by
  intro pins s σ H x y v u Q I rx ry h
  obtain ⟨b, rfl, hx, q⟩ := h
  cases (show u = Value.bool b from ry)
  rcases hx with rfl | ⟨k, rfl⟩ | ⟨i, rfl⟩ | ⟨z, rfl⟩ | ⟨a, rfl⟩
  · cases rx
    exact wpAny_isNot_other rfl (fun z => nomatch z) ⟨.bl true, H, I, rfl, by simpa using q⟩
  · cases (show v = Value.bool k from rx)
    by_cases e : k = b
    · subst e
      exact wpAny_isNot_self rfl ⟨.bl false, H, I, rfl, by simpa using q⟩
    · exact wpAny_isNot_other rfl (fun z => e (Value.bool.inj z)) ⟨.bl true, H, I, rfl, by simpa [e] using q⟩
  · obtain ⟨t, rfl⟩ := rx
    exact wpAny_isNot_other rfl (fun z => nomatch z) ⟨.bl true, H, I, rfl, by simpa using q⟩
  · obtain ⟨t, rfl⟩ := rx
    exact wpAny_isNot_other rfl (fun z => nomatch z) ⟨.bl true, H, I, rfl, by simpa using q⟩
  · cases rx
    exact wpAny_isNot_other rfl (fun z => nomatch z) ⟨.bl true, H, I, rfl, by simpa using q⟩
def D.isBl (b : Bool) : D → Bool
  | .bl k => k == b
  | _ => false
def dIsTr : D → D → Res D
  | x, .bl b => .ok (.bl (x.isBl b))
  | _, _ => .st
def dIsNTr : D → D → Res D
  | x, .bl b => .ok (.bl (!x.isBl b))
  | _, _ => .st
section
variable {K : PySem.W.Frag} {mg : Str → Option Value}
theorem isBl_of {F : Hp} {v : V} {x : D} {b : Bool} (r : Rep K mg F v x) : decide (v = .bl b) = x.isBl b ∧ (v = .non ∨ (∃ k, v = .bl k) ∨ (∃ i, v = .int i) ∨ (∃ z, v = .str z) ∨ ∃ a, v = .ref a) := by
  cases r <;> refine ⟨?_, ?_⟩ <;> first | (simp [D.isBl]; done) | (simp [D.isBl, Bool.beq_eq_decide_eq]; done)
theorem od_isTr : OpD K mg rIsTr dIsTr := fun We F H σ x y v u Q hF rx ry h => by
  cases y <;> try exact h.elim
  cases ry
  exact ⟨_, rfl, (isBl_of (b := true) rx).2, by rw [(isBl_of rx).1]; exact h F H _ (Ext.refl hF) (.bl _)⟩
theorem od_isNTr : OpD K mg rIsNTr dIsNTr := fun We F H σ x y v u Q hF rx ry h => by
  cases y <;> try exact h.elim
  cases ry
  exact ⟨_, rfl, (isBl_of (b := true) rx).2, by rw [(isBl_of rx).1]; exact h F H _ (Ext.refl hF) (.bl _)⟩
end
/-! ### the data of list + list, list * int -/
def dCatL : D → D → Res (List D)
  | .lst xs, .lst ys => if xs.length + ys.length ≤ lim then .ok (xs ++ ys) else .st
  | _, _ => .st
section
variable {K : PySem.W.Frag} {mg : Str → Option Value}
theorem of_catL : OpF K mg (rCatS K) dCatL := fun We F H σ x y v u Q hF rx ry h => by
  cases x <;> try exact h.elim
  cases y <;> try exact h.elim
  rename_i xs ys
  have h : Out K mg We (RF K mg) F H σ Q (if xs.length + ys.length ≤ lim then .ok (xs ++ ys) else .st) := h
  by_cases z : xs.length + ys.length ≤ lim
  · rw [if_pos z] at h
    cases rx with
    | lst a b =>
      cases ry with
      | lst a2 b2 =>
        exact ⟨_, _, _, _, rfl, rfl, SqL.same hF a, SqL.same hF a2, by rw [b.length, b2.length]; exact le_line z, fun p hp => h _ _ _ (Ext.new0 hF hp) ⟨p, _, rfl, hp, hF.free hp, upd_same, b.append b2⟩⟩
  · rw [if_neg z] at h; exact h.elim
end
/-- list * int -/
def repL : List D → D → Res (List D)
  | xs, .int k => if k ≤ 100000 ∧ xs.length * k.toNat ≤ lim ∧ -100000 ≤ k then .ok (List.replicate k.toNat xs).flatten else .st
  | _, _ => .st
def eRep (g : DEnv → Res (List D)) (f : DEnv → Res D) : DEnv → Res (List D) := fun ρ => (g ρ).bind fun xs => (f ρ).bind fun y => repL xs y
theorem rep_rep {K : PySem.W.Frag} {mg : Str → Option Value} {F : Hp} {vs : List V} {xs : List D} (r : RepAll K mg F vs xs) : ∀ n : Nat, RepAll K mg F (List.replicate n vs).flatten (List.replicate n xs).flatten
  | 0 => .nil
  | n + 1 => by
    rw [List.replicate_succ, List.replicate_succ, List.flatten_cons, List.flatten_cons]
    exact r.append (rep_rep r n)
section
variable {X : Cx} {We : WeX} {Sa Sb : List Nat} {a b : PySem.Expr} {g : DEnv → Res (List D)} {f : DEnv → Res D} {pos : Pos}
theorem pf_rep (ha : PF X We Sa a g) (hb : PD X We Sb b f) : PF X We (Sa ++ Sb) (.BinOp a .Mult b pos) (eRep g f) :=
  pe_imp (pe_op op_rep ha hb) fun σ H Q ⟨F, ρ, hF, hE, q⟩ => ⟨F, ρ, hF, hE.l, Out.bind q fun xs F1 H1 v ex rx q1 => by
    obtain ⟨p, vs, rfl, np, fp, hp, r⟩ := rx
    exact ⟨F1, ρ, ex.2.1, hE.r.mono ex.1, Out.bind q1 fun y F2 H2 u ey ry q2 => by
      unfold repL at q2
      cases y <;> try exact q2.elim
      rename_i k
      cases ry
      by_cases z : k ≤ 100000 ∧ xs.length * k.toNat ≤ lim ∧ -100000 ≤ k
      · have q2 : Out X.K X.mg We (RF X.K X.mg) F2 H2 σ Q (if k ≤ 100000 ∧ xs.length * k.toNat ≤ lim ∧ -100000 ≤ k then .ok (List.replicate k.toNat xs).flatten else .st) := q2
        rw [if_pos z] at q2
        exact ⟨p, k, vs, rfl, rfl, ey.2.2.1 _ _ hp, by omega, by omega, by rw [r.length]; exact le_line z.2.1, fun p' hp' => q2 _ _ _ (Ext.new0 ey.2.1 hp') ⟨p', _, rfl, hp', ey.2.1.free hp', upd_same, rep_rep (r.mono ey.1) _⟩⟩
      · have q2 : Out X.K X.mg We (RF X.K X.mg) F2 H2 σ Q (if k ≤ 100000 ∧ xs.length * k.toNat ≤ lim ∧ -100000 ≤ k then .ok (List.replicate k.toNat xs).flatten else .st) := q2
        rw [if_neg z] at q2; exact q2.elim⟩⟩
end
/-! ### reversed(range(n)) -/
section
variable {K : PySem.W.Frag} {mg : Str → Option Value} {F : Hp}
theorem itd_rangeC {n : Nat} : ItD K mg (Itc (0 + (((n : Int) - 0).toNat : Nat) - 1) (-1) ((n : Int) - 0).toNat) F (rangeD 0 n).reverse := fun i Fc H s1 s2 => by
  have e0 : ((n : Int) - 0).toNat = n := by omega
  rw [e0]
  have hl : (rangeD 0 n).length = n := by simp [rangeD]
  refine ⟨fun e => ?_, fun d hd => ?_⟩
  · show n ≤ i
    rw [e, List.length_reverse, hl]
    exact Nat.le_refl _
  · have hi : i < (rangeD 0 n).length := by
      have := (List.getElem?_eq_some_iff.mp hd).1
      simpa using this
    rw [rev_get _ _ hi, hl] at hd
    rw [hl] at hi
    unfold rangeD at hd
    rw [List.getElem?_map, List.getElem?_range (by omega)] at hd
    have hd : some (D.int (0 + ((n - 1 - i : Nat) : Int))) = some d := hd
    cases hd
    refine ⟨hi, fun x H' y => ?_⟩
    obtain ⟨e, e2⟩ := y
    subst e e2
    have e3 : (0 + (n : Int) - 1 + (i : Nat) * (-1)) = 0 + ((n - 1 - i : Nat) : Int) := by omega
    rw [e3]
    exact ⟨Fc, Ext.refl s2, .int _⟩
end
def revN (d : D) : Res (List D) := (rngN d).bind fun ds => .ok ds.reverse
section
variable {X : Cx} {We : WeX} {S : List Nat} {tg a : PySem.Expr} {f : DEnv → Res D} {p p2 pos q : Pos}
theorem id_revRange (hm : X.mg "reversed" = none) (hm2 : X.mg "range" = none) (ha : PD X We S a f) (hg : Gl X "reversed" := by rfl) (hg2 : Gl X "range" := by rfl) (h1 : starEach [a] X.env = (false, eval a X.env) :: starEach [] X.env := by rfl)
    (hs : starEach [.Call (.Name "range" p2) [a] [] q] X.env = (false, eval (.Call (.Name "range" p2) [a] [] q) X.env) :: starEach [] X.env := by rfl) :
    ID0 X We S tg (.Call (.Name "reversed" p) [.Call (.Name "range" p2) [a] [] q] [] pos) (e1 revN f) := by
  refine pi_imp (pi_revR hg hm (prg_1 hg2 hm2 ha h1) hs) fun σ H R ⟨F, ρ, hF, hE, q⟩ => ⟨F, ρ, hF, hE, Out.bind q fun d F1 H1 v ex r q1 => ?_⟩
  unfold revN at q1
  cases hr : rngN d with
  | st => rw [hr] at q1; exact q1.elim
  | er x => exact (rngN_ner hr).elim
  | ok ds =>
    rw [hr] at q1
    obtain ⟨n, rfl, hn, rfl⟩ := rngN_ok hr
    cases r
    exact ⟨_, rfl, by omega, by omega, by omega, by omega, q1 F1 H1 _ (Ext.refl ex.2.1) itd_rangeC⟩
end
/-! ### keywords, defaults -/
abbrev PKD (X : Cx) (We : WeX) (S : List Nat) (kws : List Keyword) (f : DEnv → Res (List D)) : Prop := PK X kws (tG X.K X.mg We (RDs X.K X.mg) S f)
theorem pk_imp {X : Cx} {kws : List Keyword} {t t' : TA} (h : PK X kws t) (i : ∀ σ H Q, t' σ H Q → t σ H Q) : PK X kws t' := ⟨fun pos pins s σ H Q I q => h.run pos pins s σ H Q I (i σ H Q q)⟩
section
variable {X : Cx} {CX : CXT} {We : WeX} {Sa Sb : List Nat} {k j n : Nat} {fa : Addr} {fd : FuncData} {ps ks : List Str} {m : List D → Res D} {x : Str} {p pos kpos : Pos} {e : PySem.Expr} {es : List PySem.Expr} {kws : List Keyword} {f : DEnv → Res D} {g gk : DEnv → Res (List D)} {nm : Option Str}
theorem pkd_nil : PKD X We [] [] eNil := pk_imp pk_nil fun σ H Q ⟨F, ρ, hF, hE, q⟩ => q F H _ (Ext.refl hF) .nil
theorem pkd_cons (ha : PD X We Sa e f) (hr : PKD X We Sb kws g) : PKD X We (Sa ++ Sb) (⟨nm, e, kpos⟩ :: kws) (eCons f g) :=
  pk_imp (pk_cons ha hr) fun σ H Q ⟨F, ρ, hF, hE, q⟩ => ⟨F, ρ, hF, hE.l, Out.bind q fun x F1 H1 v ex rx q1 =>
    ⟨F1, ρ, ex.2.1, hE.r.mono ex.1, Out.bind q1 fun xs F2 H2 vs ey ry q2 => q2 F2 H2 _ (Ext.refl ey.2.1) (.cons (rx.mono ey.1) ry)⟩⟩
def tCallKS (n m : Nat) (sp : Sp) (E : L2.St → XK) (t tk : TA) : TE := fun σ H Q => t σ H fun vs H1 => tk σ H1 fun zs H2 => vs.length = n ∧ zs.length = m ∧ sp (vs ++ zs) H2 Q (E σ)
theorem run_fnKS {sp : Sp} {E : L2.St → XK} {pins : List (Addr × Obj)} {σ : L2.St} {H : Hp} {s : Shared} {Q : VK} {us ws : List Value} {vs zs : List V} (F : FnOk X.prog X.w X.K X.mg X.base CX k fa fd ps sp) (hr : Room k X.A) (hb : KBn X.K fd ps n ks (fun us ws => us ++ ws) (fun vs zs => vs ++ zs)) (hx : PassesAt CX X σ (E σ))
    (I : Inv X pins σ H s) (r : Vals vs us) (rz : Vals zs ws) (l1 : vs.length = n) (l2 : zs.length = ks.length) (h : sp (vs ++ zs) H Q (E σ)) : wpAny (model X.prog X.w) X.A (call (.ref fa) us (ks.zip ws)) (EP X pins σ Q) X.xe s := by
  refine wpAny_call (codeAny_mono (F.run X.A X.stack s H ⟨us, ks.zip ws⟩ (us ++ ws) (vs ++ zs) Q (E σ) hr I.env0 (hb.to s us ws I.kIn (r.length.symm.trans l1) (rz.length.symm.trans l2)) (hb.rel r rz) h) fun r s' hq => ?_)
  cases r with
  | error e => exact hx pins H s e s' I hq
  | ok fl =>
    cases fl with
    | ret u => exact I.after hq
    | next => exact False.elim hq
    | brk => exact False.elim hq
    | cont => exact False.elim hq
theorem pe_callKS {sp : Sp} {E : L2.St → XK} {t tk : TA} (F : FnOk X.prog X.w X.K X.mg X.base CX k fa fd ps sp) (hr : Room k X.A) (hg : Gl X x) (hm : X.mg x = some (.ref fa)) (hk : PySem.W.keepIn X.K (.ref fa) = true) (hb : KBn X.K fd ps n ks (fun us ws => us ++ ws) (fun vs zs => vs ++ zs)) (hx : ∀ σ, PassesAt CX X σ (E σ))
    (ha : PA X (e :: es) t) (hkw : PK X kws tk) (hall : (backToKw pos (keywordEach kws X.env)).all (·.1.isSome) = true) (hks : (backToKw pos (keywordEach kws X.env)).filterMap (·.1) = ks)
    (hdb : (x == ("__debug__" : Str)) = false) (he : starEach (e :: es) X.env = (false, eval e X.env) :: starEach es X.env)
    (hpl : ((backTo pos (starEach (e :: es) X.env)).any (·.1) || (backToKw pos (keywordEach kws X.env)).any (·.1.isNone)) = false) :
    PE X (.Call (.Name x p) (e :: es) kws pos) (tCallKS n ks.length sp E t tk) := by
  refine ⟨fun pins s σ H Q I h => ?_⟩
  refine wpAny_Call_Name_kw (ld_glob I hg hm ?_ hdb)
  refine PySem.W.callWith_KW (h₀ := X.base) I.ok.mod.kin hk hall (thn (ha.run pos pins s σ H _ I h) fun us s1 ⟨vs, H1, I1, r, q⟩ => ?_) hpl he
  refine thn (hkw.run pos pins s1 σ H1 _ I1 q) fun ws s2 ⟨zs, H2, I2, rz, l1, l2, q2⟩ => ⟨I2.kIn, ?_⟩
  rw [hks]
  exact run_fnKS F hr hb (hx σ) I2 r rz l1 l2 q2
theorem res_bb {α β γ : Type} {r : Res α} {f : α → Res β} {g : β → Res γ} : (r.bind f).bind g = r.bind fun x => (f x).bind g := by cases r <;> rfl
/-- arguments and keywords, as many as wanted -/
def eKw (n m : Nat) (g gk : DEnv → Res (List D)) : DEnv → Res (List D) := fun ρ => (g ρ).bind fun xs => (gk ρ).bind fun zs => if xs.length = n ∧ zs.length = m then .ok (xs ++ zs) else .st
/-- arguments and what stands for those that lack -/
def eDf (n : Nat) (dds : List D) (g : DEnv → Res (List D)) : DEnv → Res (List D) := fun ρ => (g ρ).bind fun xs => if xs.length = n then .ok (xs ++ dds) else .st
theorem outF {F1 H1 : Hp} {σ : L2.St} {Q : VK} {ds : List D} {n : Nat} (q1 : Out X.K X.mg We (RF X.K X.mg) F1 H1 σ Q (callF n m ds)) : Out X.K X.mg We (RR X.K X.mg true) F1 H1 σ Q (callN n m ds) := out_asL q1
theorem pd_callK (tk : Takes X We) (hr : Room k X.A) (hjk : j ≤ k) (F : FnD X.prog X.w X.K X.mg X.base j fa fd ps false m) (hm : X.mg x = some (.ref fa)) (hk : PySem.W.keepIn X.K (.ref fa) = true) (hb : KBn X.K fd ps n ks (fun us ws => us ++ ws) (fun vs zs => vs ++ zs))
    (ha : PAD X We Sa (e :: es) g) (hkw : PKD X We Sb kws gk) (hg : Gl X x := by rfl) (hdb : (x == ("__debug__" : Str)) = false := by decide) (hall : (backToKw pos (keywordEach kws X.env)).all (·.1.isSome) = true := by rfl) (hks : (backToKw pos (keywordEach kws X.env)).filterMap (·.1) = ks := by rfl)
    (he : starEach (e :: es) X.env = (false, eval e X.env) :: starEach es X.env := by rfl)
    (hpl : ((backTo pos (starEach (e :: es) X.env)).any (·.1) || (backToKw pos (keywordEach kws X.env)).any (·.1.isNone)) = false := by rfl) :
    PD X We (Sa ++ Sb) (.Call (.Name x p) (e :: es) kws pos) (eL (callN ps.length m) (eKw n ks.length g gk)) :=
  pe_imp (pe_callKS F (hr.mono hjk) hg hm hk hb (fun σ => passAt tk σ) ha hkw hall hks hdb he hpl) fun σ H Q ⟨F, ρ, hF, hE, q⟩ => ⟨F, ρ, hF, hE.l, by
    unfold eL eKw at q
    rw [res_bb] at q
    exact Out.bind q fun xs F1 H1 vs ex r q1 => ⟨F1, ρ, ex.2.1, hE.r.mono ex.1, by
      rw [res_bb] at q1
      exact Out.bind q1 fun zs F2 H2 us ey ry q2 => by
        by_cases hl : xs.length = n ∧ zs.length = ks.length
        · rw [if_pos hl] at q2
          exact ⟨by rw [r.length]; exact hl.1, by rw [ry.length]; exact hl.2, callN_out (fr := false) ey.2.1 ((r.mono ey.1).append ry) q2⟩
        · rw [if_neg hl] at q2; exact q2.elim⟩⟩
theorem pf_callK (tk : Takes X We) (hr : Room k X.A) (hjk : j ≤ k) (F : FnD X.prog X.w X.K X.mg X.base j fa fd ps true m) (hm : X.mg x = some (.ref fa)) (hk : PySem.W.keepIn X.K (.ref fa) = true) (hb : KBn X.K fd ps n ks (fun us ws => us ++ ws) (fun vs zs => vs ++ zs))
    (ha : PAD X We Sa (e :: es) g) (hkw : PKD X We Sb kws gk) (hg : Gl X x := by rfl) (hdb : (x == ("__debug__" : Str)) = false := by decide) (hall : (backToKw pos (keywordEach kws X.env)).all (·.1.isSome) = true := by rfl) (hks : (backToKw pos (keywordEach kws X.env)).filterMap (·.1) = ks := by rfl)
    (he : starEach (e :: es) X.env = (false, eval e X.env) :: starEach es X.env := by rfl)
    (hpl : ((backTo pos (starEach (e :: es) X.env)).any (·.1) || (backToKw pos (keywordEach kws X.env)).any (·.1.isNone)) = false := by rfl) :
    PF X We (Sa ++ Sb) (.Call (.Name x p) (e :: es) kws pos) (eL (callF ps.length m) (eKw n ks.length g gk)) :=
  pe_imp (pe_callKS F (hr.mono hjk) hg hm hk hb (fun σ => passAt tk σ) ha hkw hall hks hdb he hpl) fun σ H Q ⟨F, ρ, hF, hE, q⟩ => ⟨F, ρ, hF, hE.l, by
    unfold eL eKw at q
    rw [res_bb] at q
    exact Out.bind q fun xs F1 H1 vs ex r q1 => ⟨F1, ρ, ex.2.1, hE.r.mono ex.1, by
      rw [res_bb] at q1
      exact Out.bind q1 fun zs F2 H2 us ey ry q2 => by
        by_cases hl : xs.length = n ∧ zs.length = ks.length
        · rw [if_pos hl] at q2
          exact ⟨by rw [r.length]; exact hl.1, by rw [ry.length]; exact hl.2, callN_out (fr := true) ey.2.1 ((r.mono ey.1).append ry) (outF q2)⟩
        · rw [if_neg hl] at q2; exact q2.elim⟩⟩
variable {dvs : List V} {dds : List D}
theorem pd_callDf (tk : Takes X We) (hr : Room k X.A) (hjk : j ≤ k) (F : FnD X.prog X.w X.K X.mg X.base j fa fd ps false m) (hm : X.mg x = some (.ref fa)) (hk : PySem.W.keepIn X.K (.ref fa) = true) (hb : ∃ ds, Vals dvs ds ∧ Binds X.K fd ps ds) (hd : ∀ F, RepAll X.K X.mg F dvs dds)
    (ha : PAD X We Sa (e :: es) g) (hg : Gl X x := by rfl) (hdb : (x == ("__debug__" : Str)) = false := by decide) (he : starEach (e :: es) X.env = (false, eval e X.env) :: starEach es X.env := by rfl) (hpl : (backTo pos (starEach es X.env)).any (·.1) = false := by rfl) :
    PD X We Sa (.Call (.Name x p) (e :: es) [] pos) (eL (callN ps.length m) (eDf n dds g)) :=
  let ⟨_, hv, hb⟩ := hb
  pe_imp (pe_callSD F (hr.mono hjk) hg hm hk hb hv (fun σ => passAt tk σ) ha hdb he hpl) fun σ H Q ⟨F, ρ, hF, hE, q⟩ => ⟨F, ρ, hF, hE, by
    unfold eL eDf at q
    rw [res_bb] at q
    exact Out.bind q fun xs F1 H1 vs ex r q1 => by
      by_cases hl : xs.length = n
      · rw [if_pos hl] at q1
        exact callN_out (fr := false) ex.2.1 (r.append (hd F1)) q1
      · rw [if_neg hl] at q1; exact q1.elim⟩
theorem pf_callDf (tk : Takes X We) (hr : Room k X.A) (hjk : j ≤ k) (F : FnD X.prog X.w X.K X.mg X.base j fa fd ps true m) (hm : X.mg x = some (.ref fa)) (hk : PySem.W.keepIn X.K (.ref fa) = true) (hb : ∃ ds, Vals dvs ds ∧ Binds X.K fd ps ds) (hd : ∀ F, RepAll X.K X.mg F dvs dds)
    (ha : PAD X We Sa (e :: es) g) (hg : Gl X x := by rfl) (hdb : (x == ("__debug__" : Str)) = false := by decide) (he : starEach (e :: es) X.env = (false, eval e X.env) :: starEach es X.env := by rfl) (hpl : (backTo pos (starEach es X.env)).any (·.1) = false := by rfl) :
    PF X We Sa (.Call (.Name x p) (e :: es) [] pos) (eL (callF ps.length m) (eDf n dds g)) :=
  let ⟨_, hv, hb⟩ := hb
  pe_imp (pe_callSD F (hr.mono hjk) hg hm hk hb hv (fun σ => passAt tk σ) ha hdb he hpl) fun σ H Q ⟨F, ρ, hF, hE, q⟩ => ⟨F, ρ, hF, hE, by
    unfold eL eDf at q
    rw [res_bb] at q
    exact Out.bind q fun xs F1 H1 vs ex r q1 => by
      by_cases hl : xs.length = n
      · rw [if_pos hl] at q1
        exact callN_out (fr := true) ex.2.1 (r.append (hd F1)) (outF q1)
      · rw [if_neg hl] at q1; exact q1.elim⟩
end
/-- keyword-only parameters kn with their defaults, behind n others: the call that names them all -/
theorem kbn_of {K : PySem.W.Frag} {x qual : Str} {params : Arguments} {body : List Stmt} {scope : Scope} {kws : List (Str × V)} {f : Addr} {fd : FuncData} {ps ks : List Str} {n : Nat} (F : FunD K x qual params body scope [] kws f fd)
    (h : ∀ (kV doc pm : Value) (an : Option Addr) (cdv ct : Value) (us ws : List Value), us.length = n → ws.length = ks.length → bindArgs (PySem.W.fnOf x qual params body scope .none kV doc pm an cdv ct) ⟨us, ks.zip ws⟩ = pure (ps.zip (us ++ ws))) : KBn K fd ps n ks (fun us ws => us ++ ws) (fun vs zs => vs ++ zs) := by
  obtain ⟨oc, od, dV, kV, doc, pm, an, cdv, ct, osl, rfl, lk, hcd, hD, hK⟩ := F.ex
  rcases hD with ⟨_, rfl⟩ | ⟨e, _⟩
  · exact ⟨fun s us ws X l1 l2 => BindsTo.of_looks fun M => PySem.W.Looks.of_pure (h kV doc pm an cdv ct us ws l1 l2), fun r1 r2 => r1.append r2⟩
  · exact absurd rfl e
theorem fund_mk {K : PySem.W.Frag} {x qual : Str} {st : Stmt} {f D : Addr} {oc doc pm cd ct u : Value} {od an : Option Addr} {osl : Array (Option Value)} {k : Str} {v : V}
    (l : K.lookup f = some ⟨oc, od, .func (PySem.W.fnOf x qual (defArgs st) (defBody st) (defScope st) .none (.ref D) doc pm an cd ct), osl⟩) (c : PySem.W.codeIn K cd qual = true) (kp : PySem.W.keepIn K (.ref f) = true)
    (hn : PySem.W.nsIn K D k = some (some u)) (hv : RelV v u) : FunD K x qual (defArgs st) (defBody st) (defScope st) [] [(k, v)] f (PySem.W.fnOf x qual (defArgs st) (defBody st) (defScope st) .none (.ref D) doc pm an cd ct) :=
  ⟨⟨oc, od, .none, .ref D, doc, pm, an, cd, ct, osl, rfl, l, c, .inl ⟨rfl, rfl⟩, .inr ⟨D, rfl, fun q hq => by
    rw [List.mem_singleton.mp hq]
    exact ⟨u, hn, hv⟩⟩⟩, kp⟩
/-! ### a property -/
/-- o.m, o of the class c, m a property -/
def eProp (c : Str) (mm : List D → Res D) (f : DEnv → Res D) : DEnv → Res D := fun ρ => (f ρ).bind fun x => if isM c "" x = true then (match mm [x] with
  | .ok d => .ok d
  | _ => .st) else .st
section
variable {X : Cx} {We : WeX} {Sa : List Nat} {k j : Nat} {fa C pa : Addr} {fd : FuncData} {ps : List Str} {mm : List D → Res D} {c m : Str} {pos : Pos} {o : PySem.Expr} {f : DEnv → Res D} {fl : List Str}
theorem passN0 {X : Cx} : Passes (L2.CX X.prog X.w) X.nox (fun _ _ _ => False) := fun pins σ H s e s' I h => by
  obtain ⟨_, _, _, _, _, _, _, _, _, _, _, _, z⟩ := h
  exact z.elim
theorem pd_prop (hr : Room k X.A) (hjk : j + 1 ≤ k) (cd : ClD X.K X.mg c C fl) (hp : PropOf X.K C m pa fa) (F : FnD X.prog X.w X.K X.mg X.base j fa fd ["self"] false mm) (hb : Binds X.K fd ["self"] []) (ho : PD X We Sa o f)
    (hab : attributeBase o m X.env (eval o X.env) = eval o X.env := by rfl) : PD X We Sa (.Attribute o m pos) (eProp c mm f) :=
  pe_imp (pe_prop ho cd.cl hp F (hr.mono hjk) hb .nil passN0 hab) fun σ H Q ⟨F, ρ, hF, hE, q⟩ => ⟨F, ρ, hF, hE, Out.bind q fun x F1 H1 v ex rx q1 => by
    obtain ⟨z, q1⟩ := out_if q1
    obtain ⟨a, dx, fv, rfl, ha, hl⟩ := isM_at cd ex.2.1 rx z
    refine ⟨a, dx, fv, rfl, ha, ?_⟩
    cases hm : mm [x] with
    | ok d =>
      rw [hm] at q1
      exact ⟨rfl, F1, [x], ex.2.1, .cons rx .nil, by rw [hm]; exact q1⟩
    | er e => rw [hm] at q1; exact q1.elim
    | st => rw [hm] at q1; exact q1.elim⟩
end
end DL
set_option Elab.async false
set_option linter.all false
set_option maxRecDepth 100000
set_option maxHeartbeats 1000000
/-! DL22: x in o by an own __contains__; [*a, *b]; what is never reached. -/
namespace DL
open PySem PySem.Spec PyProof.Rows L2
section
variable {M : Model} {A : Around} {E : Value → Shared → Prop} {s : Shared} {K : PySem.W.Frag} {C a f : Addr} {ox : Obj} {od : Option Obj} {x : Value} {Q : Bool → Shared → Prop}
theorem contains_own (X : K.In s.heap) (I : PySem.W.InstAt s.heap a ox C od) (hs : PySem.W.findIn K (.ref C) "__contains__" = some (some (.ref f))) (hf : PySem.W.isFn K (.ref f) = true)
    (h : wpAny M A (call (.ref f) [.ref a, x]) (fun r s' => ∃ b, r = .bool b ∧ Q b s') E s) : wpAny M A (contains (.ref a) x) Q E s := by
  unfold contains
  refine wpAny_holding ?_
  rw [stdlibNamesSay?_ref]
  refine wpAny_bind (wpAny_bind (I.type.here ((PySem.W.looks_findIn X hs).here ?_)))
  show wpAny M A (if (some (Value.ref f) == some Value.none) = true then _ else _) Q E s
  rw [if_neg (by simp)]
  refine wpAny_bind ?_
  unfold callSpecialUnlessNone?
  refine wpAny_bind (wpAny_bind (I.type.here ((PySem.W.looks_findIn X hs).here ?_)))
  refine wpAny_holding (wpAny_bind ((PySem.W.bind_fn X _ (beq_iff_eq.mp hf)).here ?_))
  show wpAny M A (if (Value.ref f == Value.none) = true then _ else _) _ E s
  rw [if_neg (by simp)]
  refine wpAny_bind (wpAny_mono h (fun r s' hr => ?_) fun _ _ z => z)
  obtain ⟨b, rfl, q⟩ := hr
  exact wpAny_pure (wpAny_of_eq (a := b) (by first | rfl | kernel_rfl) q)
end
/-- y an instance of the class at C with an own __contains__ -/
def rInO (C : Addr) (sp : Sp) (neg : Bool) : R2 := fun x y H Q => ∃ a dx fs, y = .ref a ∧ H a = some (.ins C dx fs) ∧ sp [.ref a, x] H (fun v H' => ∃ b, v = .bl b ∧ Q (.bl (b != neg)) H') fun _ _ _ => False
section
variable {X : Cx} {C f : Addr} {fd : FuncData} {k : Nat} {sp : Sp} {ps : List Str}
theorem cont_own {pins : List (Addr × Obj)} {s : Shared} {σ : L2.St} {H : Hp} {x : V} {v : Value} {a dx : Addr} {fs : List (Str × V)} {Q : Bool → Shared → Prop} (hs : PySem.W.findIn X.K (.ref C) "__contains__" = some (some (.ref f))) (hf : PySem.W.isFn X.K (.ref f) = true) (F : FnOk X.prog X.w X.K X.mg X.base (L2.CX X.prog X.w) k f fd ps sp) (hr : Room k X.A) (hb : Binds X.K fd ps [])
    {R : VK} (I : Inv X pins σ H s) (rx : RelV x v) (ea : H a = some (.ins C dx fs)) (h : sp [.ref a, x] H R fun _ _ _ => False) (q : ∀ s' z H', Inv X pins σ H' s' → R z H' → ∃ b, z = .bl b ∧ Q b s') :
    wpAny (model X.prog X.w) X.A (contains (.ref a) v) Q X.xe s := by
  obtain ⟨mA, O, _, _, _, _⟩ := ins_get I.hok ea
  obtain ⟨od, J, _⟩ := O.look
  refine contains_own I.kIn J hs hf (wpAny_mono (run_fn (dvs := []) (us := [.ref a, v]) (vs := [.ref a, x]) F hr hb .nil passE0 I (.cons rfl (.cons rx .nil)) h) (fun r s' hr => ?_) fun _ _ z => z)
  obtain ⟨z, H', I', rz, hz⟩ := hr
  obtain ⟨b, rfl, hq⟩ := q s' z H' I' hz
  cases (show r = Value.bool b from rz)
  exact ⟨b, rfl, hq⟩
theorem op_inO (hs : PySem.W.findIn X.K (.ref C) "__contains__" = some (some (.ref f))) (hf : PySem.W.isFn X.K (.ref f) = true) (F : FnOk X.prog X.w X.K X.mg X.base (L2.CX X.prog X.w) k f fd ps sp) (hr : Room k X.A) (hb : Binds X.K fd ps []) : OpR X (compareOp .In) (rInO C sp false) := by
  intro pins s σ H x y v u Q I rx ry h
  obtain ⟨a, dx, fs, rfl, ea, h⟩ := h
  cases (show u = Value.ref a from ry)
  show wpAny _ _ (contains (.ref a) v >>= fun b => pure (Value.bool b)) _ _ _
  refine wpAny_bind (wpAny_mono (cont_own (Q := fun b s' => ∃ H', Inv X pins σ H' s' ∧ Q (.bl (b != false)) H') hs hf F hr hb I rx ea h fun s' z H' I' ⟨b, e, hq⟩ => ⟨b, e, H', I', hq⟩) (fun b s' ⟨H', I', hq⟩ => wpAny_pure ⟨.bl b, H', I', rfl, ?_⟩) fun _ _ z => z)
  have e : (b != false) = b := by cases b <;> rfl
  rw [e] at hq
  exact hq
theorem op_notInO (hs : PySem.W.findIn X.K (.ref C) "__contains__" = some (some (.ref f))) (hf : PySem.W.isFn X.K (.ref f) = true) (F : FnOk X.prog X.w X.K X.mg X.base (L2.CX X.prog X.w) k f fd ps sp) (hr : Room k X.A) (hb : Binds X.K fd ps []) : OpR X (compareOp .NotIn) (rInO C sp true) := by
  intro pins s σ H x y v u Q I rx ry h
  obtain ⟨a, dx, fs, rfl, ea, h⟩ := h
  cases (show u = Value.ref a from ry)
  show wpAny _ _ (contains (.ref a) v >>= fun b => pure (Value.bool (!b))) _ _ _
  refine wpAny_bind (wpAny_mono (cont_own (Q := fun b s' => ∃ H', Inv X pins σ H' s' ∧ Q (.bl (b != true)) H') hs hf F hr hb I rx ea h fun s' z H' I' ⟨b, e, hq⟩ => ⟨b, e, H', I', hq⟩) (fun b s' ⟨H', I', hq⟩ => wpAny_pure ⟨.bl (!b), H', I', rfl, ?_⟩) fun _ _ z => z)
  have e : (b != true) = !b := by cases b <;> rfl
  rw [e] at hq
  exact hq
end
/-- x in y, y of the class c with an own __contains__ -/
def dInO (c : Str) (mm : List D → Res D) (neg : Bool) : D → D → Res D := fun x y => if isM c "" y = true then (match mm [y, x] with
  | .ok (.bl b) => .ok (.bl (b != neg))
  | _ => .st) else .st
section
variable {K : PySem.W.Frag} {mg : Str → Option Value} {c : Str} {C : Addr} {fl : List Str} {mm : List D → Res D} {neg : Bool}
theorem isM_at' {m : Str} {F H : Hp} {v : V} {x : D} (cd : ClD K mg c C fl) (hF : Same F H) (rx : Rep K mg F v x) (h : isM c m x = true) : ∃ a dx fv, v = .ref a ∧ H a = some (.ins C dx fv) ∧ fv.lookup m = none := by
  cases x <;> try (cases h; done)
  rename_i c' ns fs
  have h : (decide (c' = c) && !ns.contains m) = true := h
  rw [Bool.and_eq_true, decide_eq_true_eq, Bool.not_eq_true'] at h
  obtain ⟨rfl, hn⟩ := h
  cases rx with
  | obj g ha n r =>
    rw [cd.gl] at g; cases g
    exact ⟨_, _, _, rfl, hF _ _ ha, lookup_not (by rw [n]; exact hn)⟩
theorem od_inO (cd : ClD K mg c C fl) : OpD K mg (rInO C (spD K mg false 2 mm) neg) (dInO c mm neg) := fun We F H σ x y v u Q hF rx ry h => by
  unfold dInO at h
  obtain ⟨z, h⟩ := out_if h
  obtain ⟨a, dx, fv, rfl, ha, hl⟩ := isM_at' cd hF ry z
  refine ⟨a, dx, fv, rfl, ha, rfl, F, [y, x], hF, .cons ry (.cons rx .nil), ?_⟩
  cases hm : mm [y, x] with
  | ok d =>
    rw [hm] at h
    cases d with
    | bl b =>
      intro F' H' w ex rw
      cases rw
      exact ⟨b, rfl, h F' H' _ ex (.bl _)⟩
    | _ => exact h.elim
  | er e => rw [hm] at h; exact h.elim
  | st => rw [hm] at h; exact h.elim
end
/-! ### what is never reached -/
def eStk {β : Type} : DEnv → Res β := fun _ => .st
theorem pd_stk {X : Cx} {We : WeX} {e : PySem.Expr} : PD X We [] e eStk := ⟨fun pins s σ H Q I ⟨F, ρ, hF, hE, q⟩ => q.elim⟩
theorem pf_stk {X : Cx} {We : WeX} {e : PySem.Expr} : PF X We [] e eStk := ⟨fun pins s σ H Q I ⟨F, ρ, hF, hE, q⟩ => q.elim⟩
/-! ### [*a, *b] -/
def eStar (f : DEnv → Res D) (g : DEnv → Res (List D)) : DEnv → Res (List D) := fun ρ => (f ρ).bind fun x => (match x with
  | .lst xs => Res.ok xs
  | .tup xs => .ok xs
  | _ => .st).bind fun xs => (g ρ).bind fun ys => .ok (xs ++ ys)
section
variable {X : Cx} {We : WeX} {Sa Sb : List Nat} {e : PySem.Expr} {es : List PySem.Expr} {f : DEnv → Res D} {g : DEnv → Res (List D)} {p : Pos}
theorem pad_star (ha : PD X We Sa e f) (hr : PAD X We Sb es g) (hs : starEach (.Starred e p :: es) X.env = (true, eval e X.env) :: starEach es X.env := by rfl) : PAD X We (Sa ++ Sb) (.Starred e p :: es) (eStar f g) :=
  pa_imp (StX.pa_star ha hr hs) fun σ H Q ⟨F, ρ, hF, hE, q⟩ => ⟨F, ρ, hF, hE.l, Out.bind q fun x F1 H1 v ex rx q1 => by
    cases x with
    | lst xs =>
      cases rx with
      | lst a b => exact ⟨_, _, rfl, .inr (SqL.same ex.2.1 a), F1, ρ, ex.2.1, hE.r.mono ex.1, Out.bind q1 fun ys F2 H2 vs ey ry q2 => q2 F2 H2 _ (Ext.refl ey.2.1) ((b.mono ey.1).append ry)⟩
    | tup xs =>
      cases rx with
      | tup a b => exact ⟨_, _, rfl, .inl (SqT.same ex.2.1 a), F1, ρ, ex.2.1, hE.r.mono ex.1, Out.bind q1 fun ys F2 H2 vs ey ry q2 => q2 F2 H2 _ (Ext.refl ey.2.1) ((b.mono ey.1).append ry)⟩
    | _ => exact q1.elim⟩
end
end DL
set_option Elab.async false
set_option linter.all false
set_option maxRecDepth 100000
set_option maxHeartbeats 2000000
/-! DL23: enumerate of a tuple. -/
namespace DL
open PySem PySem.Spec PyProof.Rows L2
open AutoSeq1 (wpAny_loadPart')
theorem meets_enumT (l : Addr) (items : Array Value) (n : Nat) (dct : Option Addr) (sl : Array (Option Value)) :
    Meets (Builtin.«enumerate.__new__» ⟨[.type "enumerate", .ref l], []⟩) (fun _ R s => s.heap.get? l = some { cls := .type "tuple", dict := dct, data := .seq items n, slots := sl } ∧
      R (.ok (.ret (.ref (s.heap.push { cls := .type "tuple_iterator", data := .fields #[.ref l, .int 0 0] }).objs.size)))
        { s with heap := (s.heap.push { cls := .type "tuple_iterator", data := .fields #[.ref l, .int 0 0] }).push { cls := .type "enumerate", data := .fields #[.none, .bool false, .ref s.heap.objs.size, rawInt 0, .none, .none] } }) :=
  .of_wp fun prog w A R s h => by
    obtain ⟨hp, g, d, tk, os⟩ := s; obtain ⟨hl, h⟩ := h
    have hsub := PySem.sub_enumerate
    have hL : IsTup (Shared.heap ⟨hp, g, d, tk, os⟩) l items := ⟨_, hl, rfl, n, rfl⟩
    wp_walk using wpAny_loadPart' hl
    refine wpAny_stack_any fun st => wpAny_pure ?_
    split
    · rename_i c _ _ _ _ _
      cases (c == Value.type "enumerate")
      · wp_walk using wpAny_loadPart' hl, iter_tuple hL
        exact ⟨_, rfl, h⟩
      · wp_walk using wpAny_loadPart' hl, iter_tuple hL
        exact ⟨_, rfl, h⟩
    · wp_walk using wpAny_loadPart' hl, iter_tuple hL
      exact ⟨_, rfl, h⟩
section
variable {prog : Program} {w : World} {A : Around} {E : Value → Shared → Prop} {s : Shared}
theorem call_enumT {l : Addr} {items : Array Value} {Q : Value → Shared → Prop} (hL : IsTup s.heap l items)
    (h : ∀ h', IsEnum h' (s.heap.objs.size + 1) s.heap.objs.size 0 .none → IsTupIter h' s.heap.objs.size l 0 → h'.objs.size = s.heap.objs.size + 2 →
      (∀ b o, s.heap.get? b = some o → h'.get? b = some o) → Q (.ref (s.heap.objs.size + 1)) { s with heap := h' }) :
    wpAny (model prog w) A (call (.type "enumerate") [.ref l]) Q E s := by
  obtain ⟨⟨c, dct, dt, sl⟩, hl, hc, n, hd⟩ := hL
  replace hc : c = .type "tuple" := hc
  replace hd : dt = .seq items n := hd
  subst hc hd
  refine callType_new PySem.F.called_enumerate (by decide) (PySem.F.typeCall_enumerate_1 _) (PySem.F.newCall_enumerate_1 _) (fun obj => PySem.F.args_object_init_2 obj _) PySem.F.entry_enumerate_new
    (meets_enumT l items n dct sl) ⟨hl, ?_⟩
  have hz : (s.heap.push { cls := .type "tuple_iterator", data := .fields #[.ref l, .int 0 0] }).objs.size = s.heap.objs.size + 1 := Heap.size_push ..
  show _ ∧ _
  rw [hz]
  have he : IsEnum ((s.heap.push { cls := .type "tuple_iterator", data := .fields #[.ref l, .int 0 0] }).push
      { cls := .type "enumerate", data := .fields #[.none, .bool false, .ref s.heap.objs.size, rawInt 0, .none, .none] }) (s.heap.objs.size + 1) s.heap.objs.size 0 .none := by
    have := Heap.get?_push_size (s.heap.push { cls := .type "tuple_iterator", data := .fields #[.ref l, .int 0 0] })
      (o := { cls := .type "enumerate", data := .fields #[.none, .bool false, .ref s.heap.objs.size, rawInt 0, .none, .none] }) rfl
    rw [hz] at this; exact this
  refine ⟨⟨_, he, rfl⟩, h _ he ⟨_, Heap.get?_push_of_some _ (Heap.get?_push_size _ rfl), rfl, rfl⟩ (by rw [Heap.size_push, hz]) fun b o x => Heap.get?_push_of_some _ (Heap.get?_push_of_some _ x)⟩
end
/-- the tuple at a, each item in a new pair -/
def IteT (K : PySem.W.Frag) (a : Addr) : It :=
  ⟨fun i H => ∃ (xs : List V) (x : V), SqT K H a xs ∧ xs[i]? = some x, fun i H v H' => ∃ T x, v = .ref T ∧ H T = none ∧ H' = upd H T (.tup [.int (i : Nat), x]) ∧ ∀ xs, SqT K H a xs → xs[i]? = some x, fun i H => ∃ xs : List V, SqT K H a xs ∧ xs.length = i⟩
theorem turn_enumT {P : Program} {w : World} {K : PySem.W.Frag} {elts : List PySem.Expr} {kk : Nat} {tpos : Pos} (a e it : Addr) :
    Turn P w K (.Tuple elts kk tpos) (IteT K a) [e, it] e (fun i h => (∃ old, IsEnum h e it ((i : Nat) : Int) old) ∧ h.IsTupleIter it a i ∧ e ≠ it) where
  mem := by simp
  obj := fun i h st b hb => by
    obtain ⟨⟨old, he⟩, ⟨o, ho, hc, hd⟩, _⟩ := st
    have e' : b = e ∨ b = it := by simpa using hb
    rcases e' with z | z
    · rw [z]; exact ⟨_, he, fun v q => nomatch q⟩
    · rw [z]; exact ⟨o, ho, fun v q => by rw [hd] at q; cases q⟩
  keep := fun i h h' st k => let ⟨⟨old, he⟩, hi, hne⟩ := st; ⟨⟨old, k e (by simp) _ he⟩, hi.at fun o q => k it (by simp) o q, hne⟩
  item := by
    intro X hP hw hK hc i pins s σ H E I hf st hg
    subst hP hw hK
    obtain ⟨⟨old, he⟩, hit, hne⟩ := st
    obtain ⟨xs, x, hq, hx⟩ := hg
    obtain ⟨its, rv, p, hz⟩ := I.tuple hq
    obtain ⟨u, hu, ru⟩ := rv.get hx
    have hel : e < s.heap.objs.size := Heap.lt_size he
    have hil : it < s.heap.objs.size := by obtain ⟨_, q, _⟩ := hit; exact Heap.lt_size q
    have pt : s.heap.IsTuple a its.toArray := p
    have hea : e ≠ a := fun z => by
      obtain ⟨o, ho, hc', _⟩ := p
      rw [← z] at ho
      have e2 := he.symm.trans ho
      cases e2
      exact absurd (Value.type.inj hc') (by decide)
    have hia : a ≠ it := fun z => by
      obtain ⟨o, ho, hc', _⟩ := p
      obtain ⟨o2, ho2, hc2, _⟩ := hit
      rw [z, ho2] at ho
      cases ho
      rw [hc2] at hc'
      exact absurd (Value.type.inj hc') (by decide)
    have hlt : i < its.toArray.size := by
      have := (List.getElem?_eq_some_iff.mp hu).1
      simpa using this
    refine wpAny_pyNext_enum_itemD (Draws.tuple (A := X.A.in1) (I.ok.hd hc) it a hia its.toArray) he ⟨hit, pt⟩ hlt hne (by simp [hne, hea]) fun x0 h' tk hx0 ho hit' hT hsz hk => ?_
    have ex0 : x0 = u := by
      rw [show its.toArray[i]? = its[i]? by simp, hu] at hx0
      cases hx0
      rfl
    subst ex0
    refine ⟨_, rfl, wpAny_letOwnedTupleGo_enum (s := { s with heap := h', toks := tk + 1 }) ho fun h'' he' sb => ?_⟩
    have hT2 : h''.get? s.heap.objs.size = some { cls := .type "tuple", data := .seq #[.int i tk, x0] } := (sb.2 _ (Nat.ne_of_gt hel)).trans hT
    have new : ObjOk X.prog X.w (upd H s.heap.objs.size (.tup [.int (i : Nat), x])) h'' s.heap.objs.size (.tup [.int (i : Nat), x]) :=
      ⟨by show 2 ≤ sizeLine; decide, [.int i tk, x0], .cons ⟨_, rfl⟩ (.cons ru .nil), ⟨_, hT2, rfl, _, rfl⟩⟩
    have I1 : Inv X pins σ (upd H s.heap.objs.size (.tup [.int (i : Nat), x])) { s with heap := h'', toks := tk + 1 } :=
      I.turnedNew (ch := [e, it]) (fun b ob hb q => (sb.2 b (fun z => hb (by simp [z]))).trans (hk b ob (fun z => hb (by simp [z])) (fun z => hb (by simp [z])) q)) hf (Nat.le_refl _) new
    refine ⟨.ref s.heap.objs.size, _, I1, rfl, ⟨_, x, rfl, I.hok.fresh (Nat.le_refl _), rfl, fun ys hy => by rw [I.tuple_inj hy hq]; exact hx⟩, ⟨⟨x0, ?_⟩, hit'.1.at fun o q => (sb.2 it (Ne.symm hne)).trans q, hne⟩, fun b hb => ?_⟩
    · have e1 : ((i + 1 : Nat) : Int) = (i : Int) + 1 := by omega
      rw [e1]; exact he'
    · have hb' : b < s.heap.objs.size := by
        have e' : b = e ∨ b = it := by simpa using hb
        rcases e' with z | z
        · rw [z]; exact hel
        · rw [z]; exact hil
      rw [upd_ne (Nat.ne_of_lt hb')]
      exact (hf b hb).1
  done := by
    intro X hP hw hK hc i pins s σ H E I hf st hg
    subst hP hw hK
    obtain ⟨⟨old, he⟩, hit, hne⟩ := st
    obtain ⟨xs, hq, hx⟩ := hg
    obtain ⟨its, rv, p, hz⟩ := I.tuple hq
    obtain ⟨f0, f1, f2, f3, f4, f5⟩ := hf it (by simp)
    have hl := rv.length
    have pt : s.heap.IsTuple a its.toArray := p
    have hia : a ≠ it := fun z => by
      obtain ⟨o, ho, hc', _⟩ := p
      obtain ⟨o2, ho2, hc2, _⟩ := hit
      rw [z, ho2] at ho
      cases ho
      rw [hc2] at hc'
      exact absurd (Value.type.inj hc') (by decide)
    have ei : i = its.toArray.size := by rw [List.size_toArray, ← hl, hx]
    subst ei
    exact wpAny_pyNext_enum_endD (Draws.tuple (A := X.A.in1) (I.ok.hd hc) it a hia its.toArray) he ⟨hit, pt⟩ fun h' eb => ⟨rfl, I.turned (t' := s.toks) (fun b o hb q => eb b o hb q) f0 f1 f3 f4 f5⟩
  self := fun A i s Q E st h => let ⟨⟨_, he⟩, _⟩ := st; wpAny_pyIter_enum he h
def iEnumA (K : PySem.W.Frag) (ta : TA) : TI := fun σ H R => ta σ H fun vs H1 => ∃ a xs, vs = [.ref a] ∧ ((SqL K H1 a xs ∧ R (Ite K a) H1) ∨ (SqT K H1 a xs ∧ R (IteT K a) H1))
theorem pi_enumA {X : Cx} {e : PySem.Expr} {ta : TA} {p pos tpos : Pos} {elts : List PySem.Expr} {kk : Nat} (hg : Gl X "enumerate") (hm : X.mg "enumerate" = none) (ha : PA X [e] ta) (hs : starEach [e] X.env = [(false, eval e X.env)] := by rfl) :
    PI X (.Tuple elts kk tpos) (.Call (.Name "enumerate" p) [e] [] pos) (iEnumA X.K ta) := by
  refine ⟨fun pins s σ H R I h => ?_⟩
  refine Call_ (ld_blt I hg hm boot_enumerate (PyProof.Rows.callWith_type1 (thn (ha.run pos pins s σ H _ I h) fun us s1 ⟨vs, H1, I1, r1, q1⟩ => ?_) hs rfl))
  obtain ⟨a, xs, ex, q⟩ := q1
  subst ex
  cases r1 with
  | cons r rr =>
    cases rr
    cases r
    have fp : ∀ b, b ∈ [s1.heap.objs.size + 1, s1.heap.objs.size] → s1.heap.objs.size ≤ b := fun b hb => by
      have e' : b = s1.heap.objs.size + 1 ∨ b = s1.heap.objs.size := by simpa using hb
      rcases e' with z | z
      · rw [z]; exact Nat.le_add_right _ _
      · rw [z]; exact Nat.le_refl _
    rcases q with ⟨hq, q⟩ | ⟨hq, q⟩
    · obtain ⟨its, rv, p', hz⟩ := I1.list hq
      refine call_enumerate_list p'.isList fun h' he hit hsz hk => wpAny_pyIter_enum he ?_
      have I2 : Inv X pins σ H1 { s1 with heap := h' } := I1.kept (t' := s1.toks) hk
      exact ⟨s1.heap.objs.size + 1, [s1.heap.objs.size + 1, s1.heap.objs.size], _, _, H1, rfl, I2, turn_enum a (s1.heap.objs.size + 1) s1.heap.objs.size, ⟨⟨.none, he⟩, hit, Nat.succ_ne_self _⟩, fun b hb => I1.fpOk (fp b hb) (I1.hok.fresh (fp b hb)), q⟩
    · obtain ⟨its, rv, p', hz⟩ := I1.tuple hq
      refine call_enumT p' fun h' he hit hsz hk => wpAny_pyIter_enum he ?_
      have I2 : Inv X pins σ H1 { s1 with heap := h' } := I1.kept (t' := s1.toks) hk
      exact ⟨s1.heap.objs.size + 1, [s1.heap.objs.size + 1, s1.heap.objs.size], _, _, H1, rfl, I2, turn_enumT a (s1.heap.objs.size + 1) s1.heap.objs.size, ⟨⟨.none, he⟩, hit, Nat.succ_ne_self _⟩, fun b hb => I1.fpOk (fp b hb) (I1.hok.fresh (fp b hb)), q⟩
def bEnumA : List D → Res (List D)
  | [.lst xs] => .ok (enumD 0 xs)
  | [.tup xs] => .ok (enumD 0 xs)
  | _ => .st
section
variable {K : PySem.W.Frag} {mg : Str → Option Value} {F : Hp}
theorem itd_enumT {a : Addr} {vs : List V} {ds : List D} (h : SqT K F a vs) (r : RepAll K mg F vs ds) : ItD K mg (IteT K a) F (enumD 0 ds) := fun i Fc H s1 s2 => by
  have q := SqT.same (s1.trans s2) h
  refine ⟨fun e => ⟨vs, q, by rw [r.length, e, enumD_length]⟩, fun d hd => ?_⟩
  rw [enumD_get] at hd
  cases hx : ds[i]? with
  | none => rw [hx] at hd; cases hd
  | some x =>
    rw [hx] at hd
    cases hd
    obtain ⟨v, hv, rv⟩ := r.get hx
    refine ⟨⟨vs, v, q, hv⟩, fun y H' z => ?_⟩
    obtain ⟨T, w, rfl, nT, rfl, hw⟩ := z
    have e := (hw vs q).symm.trans hv
    cases e
    refine ⟨upd Fc T (.tup [.int (i : Nat), v]), Ext.new s2 nT, .tup (SqT.of upd_same) ?_⟩
    rw [Nat.zero_add]
    exact .cons (.int _) (.cons ((rv.mono s1).mono (same_upd (s2.free nT))) .nil)
end
section
variable {X : Cx} {We : WeX} {S : List Nat} {e : PySem.Expr} {p pos tpos : Pos} {elts : List PySem.Expr} {kk : Nat} {g : DEnv → Res (List D)}
theorem id_enumA (hm : X.mg "enumerate" = none) (ha : PAD X We S [e] g) (hg : Gl X "enumerate" := by rfl) (hs : starEach [e] X.env = [(false, eval e X.env)] := by rfl) : ID X We S (.Tuple elts kk tpos) (.Call (.Name "enumerate" p) [e] [] pos) (eL bEnumA g) :=
  pi_imp (pi_enumA hg hm ha hs) fun σ H R ⟨F, ρ, hF, hE, q⟩ => ⟨F, ρ, hF, hE, Out.bind q fun ds F1 H1 vs ex r q1 => by
    unfold bEnumA at q1
    split at q1
    · rename_i xs
      obtain ⟨v, rfl, rv⟩ := r.one
      cases rv with
      | lst a b => exact ⟨_, _, rfl, .inl ⟨SqL.same ex.2.1 a, q1 F1 H1 _ (Ext.refl ex.2.1) (itd_enum a b)⟩⟩
    · rename_i xs
      obtain ⟨v, rfl, rv⟩ := r.one
      cases rv with
      | tup a b => exact ⟨_, _, rfl, .inr ⟨SqT.same ex.2.1 a, q1 F1 H1 _ (Ext.refl ex.2.1) (itd_enumT a b)⟩⟩
    · exact q1.elim⟩
end
end DL
set_option Elab.async false
set_option linter.all false
set_option maxRecDepth 100000
set_option maxHeartbeats 2000000
/-! DL24: enumerate(reversed(a list)). -/
namespace DL
open PySem PySem.Spec PyProof.Rows L2
open AutoSeq1 (wpAny_loadPart')
section
variable {prog : Program} {w : World} {A : Around} {E : Value → Shared → Prop} {s : Shared}
theorem nextOf_rev_item {it l : Addr} {i : Nat} {items : Array Value} {x : Value} {Q : Value → Shared → Prop} (hit : s.heap.IsRevIter it l (i : Int)) (hl : s.heap.IsList l items) (hx : items[i]? = some x)
    (hQ : ∀ h', h'.IsRevIter it l ((i : Int) - 1) → Heap.SameBut it s.heap h' → Q x { s with heap := h' }) : wpAny (model prog w) A (Builtin.SmallTypes.nextOf (.ref it)) Q E s := by
  obtain ⟨o, ho, hc, hd⟩ := id hit
  obtain ⟨ol, hol, _, nl, hdl⟩ := hl
  unfold Builtin.SmallTypes.nextOf
  refine wpAny_bind (wpAny_callSpecial?_slot (name := Str.ofString "__next__") hit.typeIs F.slot_lri_next
    (wpAny_call_entry F.slot_lri_next hit.typeIs F.entry_lri_next ?_ (F.args_lri_next_1 _)))
  unfold Builtin.«list_reverseiterator.__next__»
  refine wpAny_bind (wpAny_of_eq (a := (Value.ref it, [])) rfl ?_)
  try dsimp only
  refine wpAny_bind (wpAny_field ho hd (x := rawInt (i : Int)) rfl ?_)
  show wpAny _ _ (if (i : Int) < 0 then _ else _) _ _ s
  rw [if_neg (by omega)]
  show wpAny _ _ (field (.ref it) 0 >>= _) _ _ s
  refine wpAny_bind (wpAny_field ho hd (x := .ref l) rfl ?_)
  show wpAny _ _ (seqItems? (.ref l) >>= _) _ _ s
  refine wpAny_bind (wpAny_seqItems hol hdl ?_)
  simp only [Int.toNat_natCast, hx]
  refine wpAny_bind (wpAny_setField ho hd (by simp) ?_)
  first
  | refine wpAny_pure ⟨x, rfl, wpAny_pure (hQ _ ?_ (Heap.SameBut.update ..))⟩
  | refine wpAny_bind (wpAny_pure (wpAny_pure ⟨x, rfl, wpAny_pure (hQ _ ?_ (Heap.SameBut.update ..))⟩))
  exact ⟨_, Heap.get?_update_self _ ho (Obj.isFreed_of_fields (Obj.data_mapFields hd _)), (Obj.cls_mapFields ..).trans hc, by
    rw [Obj.data_mapFields hd]; simp⟩
theorem nextOf_rev_end {it l : Addr} {Q : Value → Shared → Prop} (hh : A.handled = none) (hit : s.heap.IsRevIter it l (-1))
    (hE : ∀ h' e, Heap.ExtBut it s.heap h' → (∃ o, h'.get? e = some o ∧ o.cls = .type "StopIteration") → E (.ref e) { s with heap := h' }) : wpAny (model prog w) A (Builtin.SmallTypes.nextOf (.ref it)) Q E s := by
  obtain ⟨o, ho, hc, hd⟩ := id hit
  unfold Builtin.SmallTypes.nextOf
  refine wpAny_bind (wpAny_callSpecial?_slot (name := Str.ofString "__next__") hit.typeIs F.slot_lri_next
    (wpAny_call_entry F.slot_lri_next hit.typeIs F.entry_lri_next ?_ (F.args_lri_next_1 _)))
  unfold Builtin.«list_reverseiterator.__next__»
  refine wpAny_bind (wpAny_of_eq (a := (Value.ref it, [])) rfl ?_)
  try dsimp only
  refine wpAny_bind (wpAny_field ho hd (x := rawInt (-1)) rfl ?_)
  show wpAny _ _ (if (-1 : Int) < 0 then _ else _) _ _ s
  rw [if_pos (by decide)]
  refine wpAny_bind (wpAny_rule ?_)
  first
  | show wpAny _ _ (newExc (.type "StopIteration") [] >>= _) _ _ _
  | (refine wpAny_bind ?_; show wpAny _ _ (newExc (.type "StopIteration") [] >>= _) _ _ _)
  refine wpAny_bind ?_
  simp only [newExc, newTuple]
  refine wpAny_bind (wpAny_newObj_type ?_ (by size_fits))
  refine wpAny_bind (m := firstArgMember _ _) (wpAny_of_eq (a := Value.none) (by first | rfl | (simp only [firstArgMember]; rfl)) ?_)
  refine wpAny_newObj_type ?_ (by size_fits)
  simp only [raiseNew]
  refine wpAny_bind (wpAny_handled ?_)
  first | rw [show A.in1.handled = none from hh] | rw [hh]
  refine wpAny_bind (wpAny_pure (wpAny_throw ?_))
  exact hE _ _ (((Heap.ExtBut.refl _ _).push _).push _) ⟨_, Heap.get?_push_size _ rfl, rfl⟩
theorem draws_rev (hh : A.handled = none) (it l : Addr) (hne : l ≠ it) (items : Array Value) :
    Draws prog w A it [it, l] items.size (fun i v => items[items.size - 1 - i]? = some v) (fun i h => i ≤ items.size ∧ h.IsRevIter it l ((items.size : Int) - 1 - (i : Int)) ∧ h.IsList l items) where
  live := fun _ _ st => let ⟨o, ho, _⟩ := st.2.1; ⟨o, ho⟩
  frame := fun _ _ _ st hk => ⟨st.1, st.2.1.at fun o e => hk it (by simp) o e, st.2.2.at fun o e => hk l (by simp) o e⟩
  item := fun i s Q E hi st hQ => by
    have e : (items.size : Int) - 1 - (i : Int) = ((items.size - 1 - i : Nat) : Int) := by omega
    have hit := st.2.1
    rw [e] at hit
    have hx : items[items.size - 1 - i]? = some (items[items.size - 1 - i]'(by omega)) := Array.getElem?_eq_getElem (by omega)
    refine nextOf_rev_item hit st.2.2 hx fun h' hit' hs' => ?_
    have e2 : ((items.size - 1 - i : Nat) : Int) - 1 = (items.size : Int) - 1 - ((i + 1 : Nat) : Int) := by omega
    rw [e2] at hit'
    exact hQ _ h' s.toks hx ⟨hi, hit', st.2.2.extBut hs'.extBut hne⟩ hs'
  done := fun s Q E st hE => by
    have e : (items.size : Int) - 1 - (items.size : Int) = -1 := by omega
    have hit := st.2.1
    rw [e] at hit
    exact nextOf_rev_end hh hit hE
end
theorem meets_enumR (l it : Addr) (i : Int) :
    Meets (Builtin.«enumerate.__new__» ⟨[.type "enumerate", .ref it], []⟩) (fun _ R s => s.heap.IsRevIter it l i ∧
      R (.ok (.ret (.ref s.heap.objs.size))) { s with heap := s.heap.push { cls := .type "enumerate", data := .fields #[.none, .bool false, .ref it, rawInt 0, .none, .none] } }) :=
  .of_wp fun prog w A R s h => by
    obtain ⟨hp, g, d, tk, os⟩ := s; obtain ⟨hl, h⟩ := h
    have hsub := PySem.sub_enumerate
    obtain ⟨⟨c, dct, dt, sl⟩, hl0, hc, hd⟩ := id hl
    replace hc : c = .type "list_reverseiterator" := hc
    subst hc
    have hL : Shared.TypeIs ⟨hp, g, d, tk, os⟩ (.ref it) "list_reverseiterator" := hl.typeIs
    wp_walk using wpAny_loadPart' hl0
    refine wpAny_stack_any fun st => wpAny_pure ?_
    split
    · rename_i c _ _ _ _ _
      cases (c == Value.type "enumerate")
      · wp_walk using wpAny_loadPart' hl0, wpAny_pyIter_revIter hl
        exact ⟨_, rfl, h⟩
      · wp_walk using wpAny_loadPart' hl0, wpAny_pyIter_revIter hl
        exact ⟨_, rfl, h⟩
    · wp_walk using wpAny_loadPart' hl0, wpAny_pyIter_revIter hl
      exact ⟨_, rfl, h⟩
section
variable {prog : Program} {w : World} {A : Around} {E : Value → Shared → Prop} {s : Shared}
theorem call_enumR {l it : Addr} {i : Int} {Q : Value → Shared → Prop} (hL : s.heap.IsRevIter it l i)
    (h : ∀ h', IsEnum h' s.heap.objs.size it 0 .none → h'.objs.size = s.heap.objs.size + 1 →
      (∀ b o, s.heap.get? b = some o → h'.get? b = some o) → Q (.ref s.heap.objs.size) { s with heap := h' }) :
    wpAny (model prog w) A (call (.type "enumerate") [.ref it]) Q E s := by
  refine callType_new PySem.F.called_enumerate (by decide) (PySem.F.typeCall_enumerate_1 _) (PySem.F.newCall_enumerate_1 _) (fun obj => PySem.F.args_object_init_2 obj _) PySem.F.entry_enumerate_new
    (meets_enumR l it i) ⟨hL, ?_⟩
  have he : IsEnum (s.heap.push { cls := .type "enumerate", data := .fields #[.none, .bool false, .ref it, rawInt 0, .none, .none] }) s.heap.objs.size it 0 .none := Heap.get?_push_size _ rfl
  refine ⟨⟨_, he, rfl⟩, h _ he (Heap.size_push ..) fun b o x => Heap.get?_push_of_some _ x⟩
end
/-- the list at a from behind, each item in a new pair -/
def IteR (K : PySem.W.Frag) (a : Addr) (n : Nat) : It :=
  ⟨fun i H => i < n ∧ ∃ (xs : List V) (x : V), SqL K H a xs ∧ xs.length = n ∧ xs[n - 1 - i]? = some x, fun i H v H' => ∃ T x, v = .ref T ∧ H T = none ∧ H' = upd H T (.tup [.int (i : Nat), x]) ∧ ∀ xs, SqL K H a xs → xs[n - 1 - i]? = some x, fun i H => i = n ∧ ∃ xs : List V, SqL K H a xs ∧ xs.length = n⟩
theorem turn_enumR {P : Program} {w : World} {K : PySem.W.Frag} {elts : List PySem.Expr} {kk : Nat} {tpos : Pos} (a e it : Addr) (n : Nat) :
    Turn P w K (.Tuple elts kk tpos) (IteR K a n) [e, it] e (fun i h => (∃ old, IsEnum h e it ((i : Nat) : Int) old) ∧ i ≤ n ∧ h.IsRevIter it a ((n : Int) - 1 - (i : Int)) ∧ e ≠ it) where
  mem := by simp
  obj := fun i h st b hb => by
    obtain ⟨⟨old, he⟩, _, ⟨o, ho, hc, hd⟩, _⟩ := st
    have e' : b = e ∨ b = it := by simpa using hb
    rcases e' with z | z
    · rw [z]; exact ⟨_, he, fun v q => nomatch q⟩
    · rw [z]; exact ⟨o, ho, fun v q => by rw [hd] at q; cases q⟩
  keep := fun i h h' st k => let ⟨⟨old, he⟩, hin, hi, hne⟩ := st; ⟨⟨old, k e (by simp) _ he⟩, hin, hi.at fun o q => k it (by simp) o q, hne⟩
  item := by
    intro X hP hw hK hc i pins s σ H E I hf st hg
    subst hP hw hK
    obtain ⟨⟨old, he⟩, hin, hit, hne⟩ := st
    obtain ⟨hlt0, xs, x, hq, hxl, hx⟩ := hg
    obtain ⟨its, rv, p, hz⟩ := I.list hq
    obtain ⟨u, hu, ru⟩ := rv.get hx
    have hel : e < s.heap.objs.size := Heap.lt_size he
    have hil : it < s.heap.objs.size := by obtain ⟨_, q, _⟩ := hit; exact Heap.lt_size q
    have pt : s.heap.IsList a its.toArray := p.isList
    have hea : e ≠ a := fun z => by
      obtain ⟨o, ho, hc', _⟩ := pt
      rw [← z] at ho
      have e2 := he.symm.trans ho
      cases e2
      exact absurd (Value.type.inj hc') (by decide)
    have hia : a ≠ it := fun z => by
      obtain ⟨o, ho, hc', _⟩ := pt
      obtain ⟨o2, ho2, hc2, _⟩ := hit
      rw [z, ho2] at ho
      cases ho
      rw [hc2] at hc'
      exact absurd (Value.type.inj hc') (by decide)
    have hsz : its.toArray.size = n := by rw [List.size_toArray, ← rv.length, hxl]
    have D := draws_rev (prog := X.prog) (w := X.w) (A := X.A.in1) (I.ok.hd hc) it a hia its.toArray
    have st0 : i ≤ its.toArray.size ∧ s.heap.IsRevIter it a ((its.toArray.size : Int) - 1 - (i : Int)) ∧ s.heap.IsList a its.toArray := ⟨by rw [hsz]; exact hin, by rw [hsz]; exact hit, pt⟩
    refine wpAny_pyNext_enum_itemD D he st0 (by rw [hsz]; exact hlt0) hne (by simp [hne, hea]) fun x0 h' tk hx0 ho hit' hT hsz2 hk => ?_
    rw [hsz] at hit'
    have ex0 : x0 = u := by
      rw [hsz] at hx0
      rw [show its.toArray[n - 1 - i]? = its[n - 1 - i]? by simp, hu] at hx0
      cases hx0
      rfl
    subst ex0
    refine ⟨_, rfl, wpAny_letOwnedTupleGo_enum (s := { s with heap := h', toks := tk + 1 }) ho fun h'' he' sb => ?_⟩
    have hT2 : h''.get? s.heap.objs.size = some { cls := .type "tuple", data := .seq #[.int i tk, x0] } := (sb.2 _ (Nat.ne_of_gt hel)).trans hT
    have new : ObjOk X.prog X.w (upd H s.heap.objs.size (.tup [.int (i : Nat), x])) h'' s.heap.objs.size (.tup [.int (i : Nat), x]) :=
      ⟨by show 2 ≤ sizeLine; decide, [.int i tk, x0], .cons ⟨_, rfl⟩ (.cons ru .nil), ⟨_, hT2, rfl, _, rfl⟩⟩
    have I1 : Inv X pins σ (upd H s.heap.objs.size (.tup [.int (i : Nat), x])) { s with heap := h'', toks := tk + 1 } :=
      I.turnedNew (ch := [e, it]) (fun b ob hb q => (sb.2 b (fun z => hb (by simp [z]))).trans (hk b ob (fun z => hb (by simp [z])) (fun z => hb (by simp [z])) q)) hf (Nat.le_refl _) new
    refine ⟨.ref s.heap.objs.size, _, I1, rfl, ⟨_, x, rfl, I.hok.fresh (Nat.le_refl _), rfl, fun ys hy => by rw [I.list_inj hy hq]; exact hx⟩, ⟨⟨x0, ?_⟩, hlt0, hit'.2.1.at fun o q => (sb.2 it (Ne.symm hne)).trans q, hne⟩, fun b hb => ?_⟩
    · have e1 : ((i + 1 : Nat) : Int) = (i : Int) + 1 := by omega
      rw [e1]; exact he'
    · have hb' : b < s.heap.objs.size := by
        have e' : b = e ∨ b = it := by simpa using hb
        rcases e' with z | z
        · rw [z]; exact hel
        · rw [z]; exact hil
      rw [upd_ne (Nat.ne_of_lt hb')]
      exact (hf b hb).1
  done := by
    intro X hP hw hK hc i pins s σ H E I hf st hg
    subst hP hw hK
    obtain ⟨⟨old, he⟩, hin, hit, hne⟩ := st
    obtain ⟨ei, xs, hq, hx⟩ := hg
    obtain ⟨its, rv, p, hz⟩ := I.list hq
    obtain ⟨f0, f1, f2, f3, f4, f5⟩ := hf it (by simp)
    have pt : s.heap.IsList a its.toArray := p.isList
    have hia : a ≠ it := fun z => by
      obtain ⟨o, ho, hc', _⟩ := pt
      obtain ⟨o2, ho2, hc2, _⟩ := hit
      rw [z, ho2] at ho
      cases ho
      rw [hc2] at hc'
      exact absurd (Value.type.inj hc') (by decide)
    have hsz : its.toArray.size = n := by rw [List.size_toArray, ← rv.length, hx]
    subst ei
    have D := draws_rev (prog := X.prog) (w := X.w) (A := X.A.in1) (I.ok.hd hc) it a hia its.toArray
    have st0 : its.toArray.size ≤ its.toArray.size ∧ s.heap.IsRevIter it a ((its.toArray.size : Int) - 1 - (its.toArray.size : Int)) ∧ s.heap.IsList a its.toArray := ⟨Nat.le_refl _, by rw [hsz]; exact hit, pt⟩
    exact wpAny_pyNext_enum_endD D he st0 fun h' eb => ⟨rfl, I.turned (t' := s.toks) (fun b o hb q => eb b o hb q) f0 f1 f3 f4 f5⟩
  self := fun A i s Q E st h => let ⟨⟨_, he⟩, _⟩ := st; wpAny_pyIter_enum he h
def iEnumR (K : PySem.W.Frag) (ta : TA) : TI := fun σ H R => ta σ H fun vs H1 => ∃ a xs, vs = [.ref a] ∧ SqL K H1 a xs ∧ R (IteR K a xs.length) H1
theorem pi_enumR {X : Cx} {e : PySem.Expr} {ta : TA} {p p2 pos pos2 tpos : Pos} {elts : List PySem.Expr} {kk : Nat} (hg : Gl X "enumerate") (hm : X.mg "enumerate" = none) (hg2 : Gl X "reversed") (hm2 : X.mg "reversed" = none) (ha : PA X [e] ta) (hs : starEach [e] X.env = [(false, eval e X.env)] := by rfl)
    (hs2 : starEach [.Call (.Name "reversed" p2) [e] [] pos2] X.env = (false, eval (.Call (.Name "reversed" p2) [e] [] pos2) X.env) :: starEach [] X.env := by rfl) :
    PI X (.Tuple elts kk tpos) (.Call (.Name "enumerate" p) [.Call (.Name "reversed" p2) [e] [] pos2] [] pos) (iEnumR X.K ta) := by
  refine ⟨fun pins s σ H R I h => ?_⟩
  refine Call_ (ld_blt I hg hm boot_enumerate (PyProof.Rows.callWith_type1 (args_cons (Call_ (ld_blt I hg2 hm2 PyProof.Rows.boot_reversed (PyProof.Rows.callWith_type1 (thn (ha.run pos2 pins s σ H _ I h) fun us s1 ⟨vs, H1, I1, r1, q1⟩ => ?_) hs rfl))) hs2) hs2 rfl))
  obtain ⟨a, xs, ex, hq, q⟩ := q1
  subst ex
  cases r1 with
  | cons r rr =>
    cases rr
    cases r
    obtain ⟨its, rv, p', hz⟩ := I1.list hq
    refine call_reversed_list p'.isList (args_nil ?_)
    have k0 : ∀ b o, s1.heap.get? b = some o → (s1.heap.push (revObj a ((its.toArray.size : Int) - 1))).get? b = some o := fun b o e => Heap.get?_push_of_some _ e
    have I2 : Inv X pins σ H1 { s1 with heap := s1.heap.push (revObj a ((its.toArray.size : Int) - 1)) } := I1.kept (t' := s1.toks) k0
    have hrv : (s1.heap.push (revObj a ((its.toArray.size : Int) - 1))).IsRevIter s1.heap.objs.size a ((its.toArray.size : Int) - 1) := ⟨_, Heap.get?_push_size _ rfl, rfl, rfl⟩
    have hz2 : (s1.heap.push (revObj a ((its.toArray.size : Int) - 1))).objs.size = s1.heap.objs.size + 1 := Heap.size_push ..
    refine call_enumR (s := { s1 with heap := s1.heap.push (revObj a ((its.toArray.size : Int) - 1)) }) hrv fun h' he hsz hk => wpAny_pyIter_enum he ?_
    have I3 : Inv X pins σ H1 { s1 with heap := h' } := I2.kept (t' := s1.toks) hk
    have el : its.toArray.size = xs.length := by rw [List.size_toArray, ← rv.length]
    have fp : ∀ b, b ∈ [(s1.heap.push (revObj a ((its.toArray.size : Int) - 1))).objs.size, s1.heap.objs.size] → s1.heap.objs.size ≤ b := fun b hb => by
      have e' : b = (s1.heap.push (revObj a ((its.toArray.size : Int) - 1))).objs.size ∨ b = s1.heap.objs.size := by simpa using hb
      rcases e' with z | z
      · rw [z, hz2]; exact Nat.le_add_right _ _
      · rw [z]; exact Nat.le_refl _
    refine ⟨(s1.heap.push (revObj a ((its.toArray.size : Int) - 1))).objs.size, [(s1.heap.push (revObj a ((its.toArray.size : Int) - 1))).objs.size, s1.heap.objs.size], _, IteR X.K a xs.length, H1, rfl, I3, turn_enumR a _ s1.heap.objs.size xs.length, ⟨⟨.none, he⟩, Nat.zero_le _, ?_, by rw [hz2]; exact Nat.succ_ne_self _⟩, fun b hb => I1.fpOk (fp b hb) (I1.hok.fresh (fp b hb)), q⟩
    rw [← el]
    have e1 : ((its.toArray.size : Int) - 1 - ((0 : Nat) : Int)) = (its.toArray.size : Int) - 1 := by omega
    rw [e1]
    exact hrv.at fun o q => hk _ o q
def bEnumR : List D → Res (List D)
  | [.lst xs] => .ok (enumD 0 xs.reverse)
  | _ => .st
theorem itd_enumR {K : PySem.W.Frag} {mg : Str → Option Value} {F : Hp} {a : Addr} {vs : List V} {ds : List D} (h : SqL K F a vs) (r : RepAll K mg F vs ds) : ItD K mg (IteR K a vs.length) F (enumD 0 ds.reverse) := fun i Fc H s1 s2 => by
  have q := SqL.same (s1.trans s2) h
  have hl := r.length
  refine ⟨fun e => ⟨by rw [e, enumD_length, List.length_reverse, hl], vs, q, rfl⟩, fun d hd => ?_⟩
  rw [enumD_get] at hd
  cases hx : ds.reverse[i]? with
  | none => rw [hx] at hd; cases hd
  | some x =>
    rw [hx] at hd
    cases hd
    have hi : i < ds.length := by
      have := (List.getElem?_eq_some_iff.mp hx).1
      simpa using this
    rw [List.getElem?_reverse hi] at hx
    obtain ⟨v, hv, rv⟩ := r.get hx
    rw [← hl] at hv
    refine ⟨⟨by omega, vs, v, q, rfl, hv⟩, fun y H' z => ?_⟩
    obtain ⟨T, w, rfl, nT, rfl, hw⟩ := z
    have e := (hw vs q).symm.trans hv
    cases e
    refine ⟨upd Fc T (.tup [.int (i : Nat), v]), Ext.new s2 nT, .tup (SqT.of upd_same) ?_⟩
    rw [Nat.zero_add]
    exact .cons (.int _) (.cons ((rv.mono s1).mono (same_upd (s2.free nT))) .nil)
section
variable {X : Cx} {We : WeX} {S : List Nat} {e : PySem.Expr} {p p2 pos pos2 tpos : Pos} {elts : List PySem.Expr} {kk : Nat} {g : DEnv → Res (List D)}
theorem id_enumR (hm : X.mg "enumerate" = none) (hm2 : X.mg "reversed" = none) (ha : PAD X We S [e] g) (hg : Gl X "enumerate" := by rfl) (hg2 : Gl X "reversed" := by rfl) (hs : starEach [e] X.env = [(false, eval e X.env)] := by rfl)
    (hs2 : starEach [.Call (.Name "reversed" p2) [e] [] pos2] X.env = (false, eval (.Call (.Name "reversed" p2) [e] [] pos2) X.env) :: starEach [] X.env := by rfl) :
    ID X We S (.Tuple elts kk tpos) (.Call (.Name "enumerate" p) [.Call (.Name "reversed" p2) [e] [] pos2] [] pos) (eL bEnumR g) :=
  pi_imp (pi_enumR hg hm hg2 hm2 ha hs hs2) fun σ H R ⟨F, ρ, hF, hE, q⟩ => ⟨F, ρ, hF, hE, Out.bind q fun ds F1 H1 vs ex r q1 => by
    unfold bEnumR at q1
    split at q1
    · rename_i xs
      obtain ⟨v, rfl, rv⟩ := r.one
      cases rv with
      | lst a b => exact ⟨_, _, rfl, SqL.same ex.2.1 a, q1 F1 H1 _ (Ext.refl ex.2.1) (itd_enumR a b)⟩
    · exact q1.elim⟩
end
end DL
set_option Elab.async false
set_option linter.all false
set_option maxRecDepth 100000
set_option maxHeartbeats 1000000
/-! DL25: xs[i] = e, xs a list of the def's own. -/
namespace DL
open PySem PySem.Spec PyProof.Rows L2
def stL (i : Nat) (d j : D) : DEnv → SRes := fun ρ => match ρ[i]?, j with
  | some (.own t xs), .int z => match ixN xs.length z with
    | some k => .nx (ρ.set i (.own t (xs.set k d)))
    | none => .st
  | _, _ => .st
def sStL (k : Bool) (S S2 : List Nat) (i : Nat) (fi fv : DEnv → Res D) : DEnv → SRes := fun ρ => after (fv ρ) ρ fun d => rest k S (fun b => d.nlx b) ρ fun ρ' => match ρ'[i]? with
  | some (.own _ _) => after (fi ρ') ρ' fun j => rest true S2 (fun b => j.nlx b) ρ' fun ρ'' => stL i d j ρ''
  | _ => .st
section
variable {X : Cx} {fr : Bool} {We : WeX} {S S2 : List Nat} {pos pos' np : Pos} {e o : PySem.Expr}
theorem sd_stL (k : Bool) (i : Nat) {x : Str} {fv fi : DEnv → Res D} (hi : PD X We S2 o fi) (he : PD X We S e fv) (hN : X.N[i]? = some x := by rfl) (hv : Vis X.env.scope x := by first | exact Or.inl rfl | exact Or.inr (Or.inl rfl) | exact Or.inr (Or.inr rfl))
    (hd : (x == ("__debug__" : Str)) = false := by decide) (hcd : (x == ("__classdict__" : Str)) = false := by decide)
    (ha : ∀ v, assign (.Subscript (.Name x np) o pos') X.env v = (do
      let ov ← holding [v] (eval (.Name x np) X.env)
      let iv ← holding [v, ov] (eval o X.env)
      standAt pos'
      holding [v, ov, iv] (setItem ov iv v)
      release [v, ov, iv] []) := by intro _; rfl)
    (hs : swapsWithSole [.Subscript (.Name x np) o pos'] e pos.line X.env = pure false := by rfl) (hw : swappedStores [.Subscript (.Name x np) o pos'] e X.env = pure none := by rfl)
    (h1 : (assignEach [.Subscript (.Name x np) o pos'] X.env).map (·.2) = [assign (.Subscript (.Name x np) o pos') X.env] := by rfl) : SD X fr We (.Assign [.Subscript (.Name x np) o pos'] e pos) (sStL k S S2 i fi fv) :=
  ps_imp (ps_asg he (pg_sub (pe_var hN hv hd hcd) hi set_list ha) hs hw h1) fun E σ H ⟨B, F, ρ, e, h⟩ => OutS.evalD e h fun F' H' v d ρ' e' r q => by
    cases h0 : ρ'[i]? with
    | none => rw [h0] at q; exact q.elim
    | some s =>
    rw [h0] at q
    cases s with
    | un => exact q.elim
    | d d => exact q.elim
    | exc x => exact q.elim
    | obo t c ns fs => exact q.elim
    | own t xs =>
    obtain ⟨a, vs, ha, a2, a3, a4, a5, _⟩ := e'.sl i _ h0
    refine ⟨_, ha, ?_⟩
    have q := OutS.base e' q
    refine OutS.evalD (k := true) (g := fun j ρ'' => stL i d j ρ'') e'.base q fun F2 H2 vi j ρ2 e2 r2 q2 => ?_
    unfold stL at q2
    cases h2 : ρ2[i]? with
    | none => rw [h2] at q2; exact q2.elim
    | some s2 =>
    rw [h2] at q2
    cases j with
    | int z =>
      cases s2 with
      | own t2 ys =>
        cases r2
        dsimp only at q2
        cases hz : ixN ys.length z with
        | none => rw [hz] at q2; exact q2.elim
        | some kk =>
          rw [hz] at q2
          obtain ⟨a', us, b1, b2, b3, b4, b5, b6⟩ := e2.sl i _ h2
          rw [ha] at b1; cases b1
          refine ⟨a, us, z, kk, rfl, rfl, b4, by rw [b5.length]; exact hz, ?_⟩
          exact q2 F2 σ _ (e2.mut h2 ha (b5.set (r.mono e2.ff) kk))
      | un => exact q2.elim
      | d d => exact q2.elim
      | exc x => exact q2.elim
      | obo t c ns fs => exact q2.elim
    | _ => cases s2 <;> exact q2.elim
end
end DL
set_option Elab.async false
set_option linter.all false
set_option maxRecDepth 100000
set_option maxHeartbeats 1000000
/-! DG1: a run whose promise holds whatever the sleeping generators would do leaves them alone. -/
namespace DG
open PySem
open Sem (wp)
section
variable (G0 : Array GenState)
/-- entries that sleep -/
def prot (i : Nat) : Bool := match G0[i]? with
  | some (.suspended ..) => true
  | _ => false
/-- the same to look at, but it cannot be woken -/
def poi : GenState → GenState
  | .suspended _ l c p fs cl => .suspended (fun _ => .unsupported "asleep") l c p fs cl
  | x => x
def okF : List Frame → Bool
  | [] => true
  | .ret .. :: r => okF r
  | .gen h _ _ _ _ :: r => !(prot G0 h) && okF r
def okS : GenState → Bool
  | .suspended _ _ _ _ fs _ => okF G0 fs
  | _ => true
def okE : End → Bool
  | .ret _ => true
  | .susp _ _ _ _ _ _ fs => okF G0 fs
def real (i : Nat) (y : GenState) : GenState := if prot G0 i = true then (G0[i]?).getD y else y
def un (gs : Array GenState) : Array GenState := gs.mapIdx (real G0)
def unS (s : Shared) : Shared := { s with gens := un G0 s.gens }
structure W (gs : Array GenState) : Prop where
  size : G0.size ≤ gs.size
  ent : ∀ i y, gs[i]? = some y → (prot G0 i = true → ∃ x, G0[i]? = some x ∧ y = poi x) ∧ (prot G0 i = false → okS G0 y = true)
end
section
variable {G0 : Array GenState}
theorem okF_app : ∀ {a b : List Frame}, okF G0 (a ++ b) = true ↔ okF G0 a = true ∧ okF G0 b = true
  | [], b => by simp [okF]
  | .ret .. :: a, b => by simp only [List.cons_append, okF]; exact okF_app
  | .gen .. :: a, b => by simp only [List.cons_append, okF, Bool.and_eq_true, okF_app, and_assoc]
theorem okF_split : ∀ {fs pre rest : List Frame} {g : Nat} {k : GenResult → Sem PySem.Fin} {c : Code} {p : Pos}, splitAtGen fs = some (pre, (g, k, c, p), rest) → okF G0 fs = true → prot G0 g = false ∧ okF G0 pre = true ∧ okF G0 rest = true
  | [], _, _, _, _, _, _, h, _ => by cases h
  | .ret .. :: fs, pre, rest, g, k, c, p, h, o => by
    simp only [splitAtGen, Option.map_eq_some_iff] at h
    obtain ⟨⟨a, b, r⟩, h1, h2⟩ := h
    cases h2
    have := okF_split h1 (by simpa [okF] using o)
    exact ⟨this.1, by simpa [okF] using this.2.1, this.2.2⟩
  | .gen g' _ _ _ _ :: fs, pre, rest, g, k, c, p, h, o => by
    simp only [splitAtGen] at h
    cases h
    simp only [okF, Bool.and_eq_true, Bool.not_eq_true'] at o
    exact ⟨o.1, rfl, o.2⟩
theorem prot_lt {i : Nat} (h : prot G0 i = true) : i < G0.size := by
  unfold prot at h
  rcases Nat.lt_or_ge i G0.size with z | z
  · exact z
  · rw [Array.getElem?_eq_none z] at h
    cases h
theorem un_size (gs : Array GenState) : (un G0 gs).size = gs.size := Array.size_mapIdx
theorem un_at (gs : Array GenState) (i : Nat) : (un G0 gs)[i]? = (gs[i]?).map (real G0 i) := Array.getElem?_mapIdx
theorem poi_seen (x : GenState) : (poi x).seen = x.seen := by cases x <;> rfl
theorem un_push {gs : Array GenState} (w : W G0 gs) (x : GenState) : un G0 (gs.push x) = (un G0 gs).push x := by
  have np : prot G0 gs.size = false := by
    cases h : prot G0 gs.size with
    | false => rfl
    | true => have := prot_lt h; have := w.size; omega
  apply Array.ext_getElem?
  intro i
  rw [un_at, Array.getElem?_push, Array.getElem?_push, un_size, un_at]
  split
  · rename_i h
    subst h
    simp [real, np]
  · rfl
theorem un_set {gs : Array GenState} {g : Nat} (h : prot G0 g = false) (x : GenState) : un G0 (gs.setIfInBounds g x) = (un G0 gs).setIfInBounds g x := by
  apply Array.ext_getElem?
  intro i
  rw [un_at, Array.getElem?_setIfInBounds, Array.getElem?_setIfInBounds, un_size, un_at]
  by_cases e : g = i
  · subst e
    simp only [if_pos]
    split <;> simp [real, h]
  · rw [if_neg e, if_neg e]
theorem W.push {gs : Array GenState} (w : W G0 gs) {x : GenState} (hx : okS G0 x = true) : W G0 (gs.push x) := by
  refine ⟨by rw [Array.size_push]; have := w.size; omega, fun i y h => ?_⟩
  rw [Array.getElem?_push] at h
  split at h
  · rename_i e
    cases h
    refine ⟨fun q => ?_, fun _ => hx⟩
    have := prot_lt q
    have := w.size
    omega
  · exact w.ent i y h
theorem W.set {gs : Array GenState} (w : W G0 gs) {g : Nat} (hg : prot G0 g = false) {x : GenState} (hx : okS G0 x = true) : W G0 (gs.setIfInBounds g x) := by
  refine ⟨by rw [Array.size_setIfInBounds]; exact w.size, fun i y h => ?_⟩
  rw [Array.getElem?_setIfInBounds] at h
  by_cases e : g = i
  · subst e
    rw [if_pos rfl] at h
    split at h
    · cases h
      exact ⟨fun q => (by rw [hg] at q; cases q), fun _ => hx⟩
    · cases h
  · rw [if_neg e] at h
    exact w.ent i y h
/-- an entry that is not asleep is the same in both -/
theorem W.same {gs : Array GenState} (w : W G0 gs) {g : Nat} {x : GenState} (h : gs[g]? = some x) (ns : ∀ k l c p fs cl, x ≠ .suspended k l c p fs cl) : prot G0 g = false ∧ (un G0 gs)[g]? = some x := by
  have np : prot G0 g = false := by
    cases q : prot G0 g with
    | false => rfl
    | true =>
      obtain ⟨y, hy, e⟩ := (w.ent g x h).1 q
      unfold prot at q
      rw [hy] at q
      cases y <;> cases q
      exact absurd e (ns _ _ _ _ _ _)
  exact ⟨np, by rw [un_at, h]; simp [real, np]⟩
theorem W.seen {gs : Array GenState} (w : W G0 gs) {g : Nat} {x : GenState} (h : gs[g]? = some x) : ∃ y, (un G0 gs)[g]? = some y ∧ y.seen = x.seen := by
  refine ⟨real G0 g x, by rw [un_at, h]; rfl, ?_⟩
  unfold real
  split
  · rename_i q
    obtain ⟨y, hy, e⟩ := (w.ent g x h).1 q
    rw [hy, e, poi_seen]
    rfl
  · rfl
theorem W.asleep {gs : Array GenState} (w : W G0 gs) {g : Nat} {k₀ : Resume → Sem PySem.Fin} {l₀ : List Value} {c₀ : Code} {p₀ : Pos} {fs : List Frame} {cl : Bool} (q : gs[g]? = some (.suspended k₀ l₀ c₀ p₀ fs cl)) :
    (k₀ = fun _ => .unsupported "asleep") ∨ (prot G0 g = false ∧ okF G0 fs = true ∧ (un G0 gs)[g]? = some (.suspended k₀ l₀ c₀ p₀ fs cl)) := by
  cases np : prot G0 g with
  | true =>
    obtain ⟨x, hx, e⟩ := (w.ent g _ q).1 np
    cases x <;> cases e
    exact .inl rfl
  | false => exact .inr ⟨rfl, (w.ent g _ q).2 np, by rw [un_at, q]; simp [real, np]⟩
theorem no_unsup {M : Model} {Γ : Ctx} {p : Pos} {m : String} {fs : List Frame} {s s' : Shared} {e : End} (h : Runs M Γ p (.unsupported m) fs s e s') : False := by
  have nil : ∀ {Γ : Ctx} {e : End} {s' : Shared}, ¬ Runs M Γ p (.unsupported m) [] s e s' := fun h => by cases h
  cases h with
  | segRet h1 _ => exact nil h1
  | segGen h1 _ => exact nil h1
  | segSuspOut _ h1 => exact nil h1
  | segSuspGen _ h1 _ _ => exact nil h1
theorem okE_state {e : End} (h : okE G0 e = true) : okS G0 e.genState = true := by
  cases e with
  | ret _ => rfl
  | susp => exact h
theorem unS_set {s : Shared} {g : Nat} (h : prot G0 g = false) (x : GenState) : unS G0 (s.setGen g x) = (unS G0 s).setGen g x := by
  unfold unS Shared.setGen
  simp only [un_set h]
/-- the same run, with what really sleeps -/
theorem runs_un {M : Model} {Γ : Ctx} {p : Pos} {t : Sem PySem.Fin} {fs : List Frame} {s s' : Shared} {e : End} (h : Runs M Γ p t fs s e s') : okF G0 fs = true → W G0 s.gens →
    Runs M Γ p t fs (unS G0 s) e (unS G0 s') ∧ W G0 s'.gens ∧ okE G0 e = true := by
  induction h with
  | done => exact fun _ w => ⟨.done, w, rfl⟩
  | raise => exact fun _ w => ⟨.raise, w, rfl⟩
  | again q _ ih => exact fun o w => let ⟨a, b⟩ := ih o w; ⟨.again q a, b⟩
  | rule _ ih => exact fun o w => let ⟨a, b⟩ := ih o w; ⟨.rule a, b⟩
  | «at» _ ih => exact fun o w => let ⟨a, b⟩ := ih o w; ⟨.at a, b⟩
  | load q _ ih => exact fun o w => let ⟨a, b⟩ := ih o w; ⟨.load q a, b⟩
  | update q _ ih => exact fun o w => let ⟨a, b⟩ := ih o w; ⟨.update q a, b⟩
  | loadIfAlive _ ih => exact fun o w => let ⟨a, b⟩ := ih o w; ⟨.loadIfAlive a, b⟩
  | point _ ih => exact fun o w => let ⟨a, b⟩ := ih o w; ⟨.point a, b⟩
  | alloc _ ih => exact fun o w => let ⟨a, b⟩ := ih o w; ⟨.alloc a, b⟩
  | fresh _ ih => exact fun o w => let ⟨a, b⟩ := ih o w; ⟨.fresh a, b⟩
  | ask _ ih => exact fun o w => let ⟨a, b⟩ := ih o w; ⟨.ask a, b⟩
  | choose q _ ih => exact fun o w => let ⟨a, b⟩ := ih o w; ⟨.choose q a, b⟩
  | os _ ih => exact fun o w => let ⟨a, b⟩ := ih o w; ⟨.os a, b⟩
  | handled _ ih => exact fun o w => let ⟨a, b⟩ := ih o w; ⟨.handled a, b⟩
  | genState q _ ih =>
    intro o w
    obtain ⟨a, b⟩ := ih o w
    obtain ⟨y, hy, e⟩ := w.seen q
    rw [← e] at a
    exact ⟨.genState hy a, b⟩
  | stack _ ih => exact fun o w => let ⟨a, b⟩ := ih o w; ⟨.stack a, b⟩
  | thread _ ih => exact fun o w => let ⟨a, b⟩ := ih o w; ⟨.thread a, b⟩
  | newGen _ ih =>
    intro o w
    obtain ⟨a, b⟩ := ih o (w.push rfl)
    refine ⟨.newGen ?_, b⟩
    unfold unS at a ⊢
    simp only [un_push w] at a
    rw [show (un G0 _).size = _ from un_size _]
    exact a
  | call _ _ ih1 ih2 =>
    intro o w
    obtain ⟨a1, b1, _⟩ := ih1 rfl w
    obtain ⟨a2, b2⟩ := ih2 o b1
    exact ⟨.call a1 a2, b2⟩
  | callSusp _ ih =>
    intro o w
    obtain ⟨a, b, c⟩ := ih rfl w
    exact ⟨.callSusp a, b, okF_app.mpr ⟨c, rfl⟩⟩
  | yield => exact fun _ w => ⟨.yield, w, rfl⟩
  | resumeFresh q _ hq _ ih1 ih2 =>
    intro o w
    obtain ⟨np, hu⟩ := w.same q (fun _ _ _ _ _ _ z => by cases z)
    obtain ⟨a1, b1, c1⟩ := ih1 rfl (w.set np rfl)
    obtain ⟨a2, b2⟩ := ih2 o (b1.set np (okE_state c1))
    rw [unS_set np] at a1 a2
    exact ⟨.resumeFresh hu a1 hq a2, b2⟩
  | resumeSuspended q h1 hq _ ih1 ih2 =>
    intro o w
    rcases w.asleep q with e | ⟨np, ok, hu⟩
    · rw [e] at h1
      exact (no_unsup h1).elim
    · obtain ⟨a1, b1, c1⟩ := ih1 ok (w.set np rfl)
      obtain ⟨a2, b2⟩ := ih2 o (b1.set np (okE_state c1))
      rw [unS_set np] at a1 a2
      exact ⟨.resumeSuspended hu a1 hq a2, b2⟩
  | resumeJustStarted q hv _ ih =>
    intro o w
    obtain ⟨np, hu⟩ := w.same q (fun _ _ _ _ _ _ z => by cases z)
    obtain ⟨a, b⟩ := ih o w
    exact ⟨.resumeJustStarted hu hv a, b⟩
  | resumeThrowFresh q _ ih =>
    intro o w
    obtain ⟨np, hu⟩ := w.same q (fun _ _ _ _ _ _ z => by cases z)
    obtain ⟨a, b⟩ := ih o (w.set np rfl)
    rw [unS_set np] at a
    exact ⟨.resumeThrowFresh hu a, b⟩
  | resumeRunning q _ ih =>
    intro o w
    obtain ⟨np, hu⟩ := w.same q (fun _ _ _ _ _ _ z => by cases z)
    obtain ⟨a, b⟩ := ih o w
    exact ⟨.resumeRunning hu a, b⟩
  | resumeFinished q _ ih =>
    intro o w
    obtain ⟨np, hu⟩ := w.same q (fun _ _ _ _ _ _ z => by cases z)
    obtain ⟨a, b⟩ := ih o w
    exact ⟨.resumeFinished hu a, b⟩
  | segRet _ _ ih1 ih2 =>
    intro o w
    obtain ⟨a1, b1, _⟩ := ih1 rfl w
    obtain ⟨a2, b2⟩ := ih2 o b1
    exact ⟨.segRet a1 a2, b2⟩
  | segGen _ _ ih1 ih2 =>
    intro o w
    simp only [okF, Bool.and_eq_true, Bool.not_eq_true'] at o
    obtain ⟨a1, b1, _⟩ := ih1 rfl w
    obtain ⟨a2, b2⟩ := ih2 o.2 (b1.set o.1 rfl)
    rw [unS_set o.1] at a2
    exact ⟨.segGen a1 a2, b2⟩
  | segSuspOut hs _ ih =>
    intro o w
    obtain ⟨a, b, c⟩ := ih rfl w
    exact ⟨.segSuspOut hs a, b, okF_app.mpr ⟨c, o⟩⟩
  | segSuspGen hs _ hq _ ih1 ih2 =>
    intro o w
    obtain ⟨np, o1, o2⟩ := okF_split hs o
    obtain ⟨a1, b1, c1⟩ := ih1 rfl w
    obtain ⟨a2, b2⟩ := ih2 o2 (b1.set np (by exact okF_app.mpr ⟨c1, o1⟩))
    rw [unS_set np] at a2
    exact ⟨.segSuspGen hs a1 hq a2, b2⟩
theorem returns_un {M : Model} {Γ : Ctx} {p : Pos} {s s' : Shared} {r : Result} (h : Returns M Γ p s r s') (w : W G0 s.gens) : Returns M Γ p (unS G0 s) r (unS G0 s') ∧ W G0 s'.gens :=
  let ⟨a, b, _⟩ := runs_un h rfl w
  ⟨a, b⟩
theorem wakes_un {M : Model} {Γ : Ctx} {p : Pos} {g : Nat} {r : Resume} {s s' : Shared} {res : GenResult} (h : Wakes M Γ p g r s res s') (w : W G0 s.gens) : Wakes M Γ p g r (unS G0 s) res (unS G0 s') ∧ W G0 s'.gens := by
  have eg : (unS G0 s).gens = un G0 s.gens := rfl
  unfold Wakes at h ⊢
  rw [eg]
  cases q : s.gens[g]? with
  | none => rw [q] at h; exact h.elim
  | some x =>
    rw [q] at h
    cases x with
    | fresh c =>
      obtain ⟨np, hu⟩ := w.same q (fun _ _ _ _ _ _ z => by cases z)
      rw [hu]
      cases r with
      | send v =>
        cases v with
        | none =>
          obtain ⟨e₁, s₁, h1, h2, h3, rfl⟩ := h
          obtain ⟨a1, b1, c1⟩ := runs_un h1 rfl (w.set np rfl)
          rw [unS_set np] at a1
          exact ⟨⟨e₁, unS G0 s₁, a1, h2, h3, unS_set np _⟩, b1.set np (okE_state c1)⟩
        | _ =>
          obtain ⟨h1, rfl⟩ := h
          exact ⟨⟨h1, rfl⟩, w⟩
      | throw x =>
        obtain ⟨h1, rfl⟩ := h
        exact ⟨⟨h1, unS_set np _⟩, w.set np rfl⟩
    | suspended k₀ l₀ c₀ p₀ fs cl =>
      obtain ⟨e₁, s₁, h1, h2, h3, rfl⟩ := h
      rcases w.asleep q with e | ⟨np, ok, hu⟩
      · rw [e] at h1
        exact (no_unsup h1).elim
      · rw [hu]
        obtain ⟨a1, b1, c1⟩ := runs_un h1 ok (w.set np rfl)
        rw [unS_set np] at a1
        exact ⟨⟨e₁, unS G0 s₁, a1, h2, h3, unS_set np _⟩, b1.set np (okE_state c1)⟩
    | running =>
      obtain ⟨np, hu⟩ := w.same q (fun _ _ _ _ _ _ z => by cases z)
      rw [hu]
      obtain ⟨h1, rfl⟩ := h
      exact ⟨⟨h1, rfl⟩, w⟩
    | finished =>
      obtain ⟨np, hu⟩ := w.same q (fun _ _ _ _ _ _ z => by cases z)
      rw [hu]
      obtain ⟨h1, rfl⟩ := h
      exact ⟨⟨h1, rfl⟩, w⟩
/-- what a run ends in, told of what really sleeps -/
def Kp {α : Type} (G0 : Array GenState) (Q : α → Pos → Shared → Prop) : α → Pos → Shared → Prop := fun a p s' => ∃ s₂, s' = unS G0 s₂ ∧ W G0 s₂.gens ∧ Q a p s₂
theorem wp_un {α : Type} (M : Model) (Γ : Ctx) (t : Sem α) : ∀ (Q : α → Pos → Shared → Prop) (E : Value → Pos → Shared → Prop) (p : Pos) (s : Shared), W G0 s.gens → wp M Γ t Q E p s → wp M Γ t (Kp G0 Q) (Kp G0 E) p (unS G0 s) := by
  induction t with
  | pure a => intro Q E p s w h; exact ⟨s, rfl, w, h⟩
  | raise e => intro Q E p s w h; exact ⟨s, rfl, w, h⟩
  | unsupported _ => intro Q E p s _ h; exact h
  | finish _ => intro Q E p s _ h; exact h
  | rule _ k ih => intro Q E p s w h; exact ih () Q E p s w h
  | «at» p' k ih => intro Q E p s w h; exact ih () Q E p' s w h
  | load a _ k ih => intro Q E p s w h; obtain ⟨o, ho, h⟩ := h; exact ⟨o, ho, ih o Q E p s w h⟩
  | update a _ f k ih => intro Q E p s w h; exact ⟨h.1, ih () Q E p { s with heap := s.heap.update a f } w h.2⟩
  | loadIfAlive a k ih => intro Q E p s w h; exact ih _ Q E p s w h
  | point _ k ih => intro Q E p s w h; exact ih () Q E p s w h
  | register _ _ => intro Q E p s _ h; exact h
  | alloc o k ih => intro Q E p s w h; exact ih _ Q E p { s with heap := s.heap.push o } w h
  | fresh k ih => intro Q E p s w h; exact ih _ Q E p { s with toks := s.toks + 1 } w h
  | ask k ih => intro Q E p s w h; exact ih _ Q E p s w h
  | choose src m k ih => intro Q E p s w h; exact ⟨h.1, ih _ Q E p { s with drawn := s.drawn.bump src } w h.2⟩
  | os q _ k ih => intro Q E p s w h; exact ih _ Q E p { s with os := (Os.step s.os q).1 } w h
  | call c hd _ _ k ih => intro Q E p s w h; obtain ⟨r, s', hr, h⟩ := h; obtain ⟨a, b⟩ := returns_un hr w; exact ⟨r, unS G0 s', a, ih r Q E p s' b h⟩
  | handled own k ih => intro Q E p s w h; exact ih _ Q E p s w h
  | genState g k ih =>
    intro Q E p s w h
    obtain ⟨st, hs, h⟩ := h
    obtain ⟨y, hy, e⟩ := w.seen hs
    rw [← e] at h
    exact ⟨y, hy, ih _ Q E p s w h⟩
  | newGen c k ih =>
    intro Q E p s w h
    have := ih _ Q E p _ (w.push (x := .fresh c) rfl) h
    unfold unS at this
    simp only [un_push w] at this
    rw [← un_size (G0 := G0) s.gens] at this
    exact this
  | resume g r _ k ih =>
    intro Q E p s w h
    obtain ⟨res, s', hw, h⟩ := h
    obtain ⟨a, b⟩ := wakes_un hw w
    exact ⟨res, unS G0 s', a, ih res Q E p s' b h⟩
  | yield _ _ _ k ih => intro Q E p s _ h; exact h
  | stack k ih => intro Q E p s w h; exact ih _ Q E p s w h
  | fork _ _ => intro Q E p s _ h; exact h
  | thread k ih => intro Q E p s w h; exact ih _ Q E p s w h
  | await _ _ => intro Q E p s _ h; exact h
end
/-- the state with its sleepers unwakeable -/
def poiS (s : Shared) : Shared := { s with gens := s.gens.map poi }
theorem poi_bare (x : GenState) : (poi x).bare = x.bare := by cases x <;> rfl
theorem poiS_W (s : Shared) : W s.gens (poiS s).gens := by
  refine ⟨by show s.gens.size ≤ (s.gens.map poi).size; rw [Array.size_map]; exact Nat.le_refl _, fun i y h => ?_⟩
  have h : (s.gens.map poi)[i]? = some y := h
  rw [Array.getElem?_map] at h
  cases hx : s.gens[i]? with
  | none => rw [hx] at h; cases h
  | some x =>
    rw [hx] at h
    cases h
    refine ⟨fun _ => ⟨x, rfl, rfl⟩, fun np => ?_⟩
    unfold prot at np
    rw [hx] at np
    cases x <;> first | rfl | cases np
theorem unS_poiS (s : Shared) : unS s.gens (poiS s) = s := by
  have : un s.gens (s.gens.map poi) = s.gens := by
    apply Array.ext_getElem?
    intro i
    rw [un_at, Array.getElem?_map]
    cases hx : s.gens[i]? with
    | none => rfl
    | some x =>
      show some (real s.gens i (poi x)) = some x
      unfold real prot
      rw [hx]
      cases x <;> rfl
  unfold unS poiS
  rw [this]
theorem wpAny_un {α : Type} {M : Model} {A : Around} {s : Shared} {t : Sem α} {Q : α → Shared → Prop} {E : Value → Shared → Prop} (h : wpAny M A t Q E (poiS s)) :
    wpAny M A t (fun a s' => ∃ s₂, s' = unS s.gens s₂ ∧ W s.gens s₂.gens ∧ Q a s₂) (fun e s' => ∃ s₂, s' = unS s.gens s₂ ∧ W s.gens s₂.gens ∧ E e s₂) s := fun Γ p hΓ => by
  have := wp_un M Γ t _ _ p (poiS s) (poiS_W s) (h Γ p hΓ)
  rw [unS_poiS] at this
  exact this
theorem codeAny_un {M : Model} {A : Around} {s : Shared} {c : Code} {R : Result → Shared → Prop} (h : codeAny M A c R (poiS s)) :
    codeAny M A c (fun r s' => ∃ s₂, s' = unS s.gens s₂ ∧ W s.gens s₂.gens ∧ R r s₂) s := fun Γ p hc hb => by
  obtain ⟨r, s', h1, h2⟩ := h Γ p hc hb
  obtain ⟨a, b⟩ := returns_un h1 (poiS_W s)
  rw [unS_poiS] at a
  exact ⟨r, _, a, s', rfl, b, h2⟩
/-- a sleeper sleeps on as it was -/
theorem W.kept {G0 gs : Array GenState} (w : W G0 gs) {g : Nat} {k : Resume → Sem PySem.Fin} {l : List Value} {c : Code} {p : Pos} {fs : List Frame} {cl : Bool} (h : G0[g]? = some (.suspended k l c p fs cl)) : (un G0 gs)[g]? = some (.suspended k l c p fs cl) := by
  have hp : prot G0 g = true := by unfold prot; rw [h]
  have hl := prot_lt hp
  have := w.size
  rw [un_at, Array.getElem?_eq_getElem (by omega)]
  show some (real G0 g _) = _
  unfold real
  rw [if_pos hp, h]
  rfl
theorem un_bare {G0 gs : Array GenState} (h0 : PyProof.Rows.AllBare G0) (h : PyProof.Rows.AllBare gs) : PyProof.Rows.AllBare (un G0 gs) := fun y hy => by
  obtain ⟨i, hi⟩ := Array.mem_iff_getElem?.mp hy
  rw [un_at] at hi
  cases hx : gs[i]? with
  | none => rw [hx] at hi; cases hi
  | some x =>
    rw [hx] at hi
    cases hi
    unfold real
    split
    · rename_i hp
      have := prot_lt hp
      rw [Array.getElem?_eq_getElem this]
      exact h0 _ (Array.getElem_mem this)
    · exact h _ (Array.mem_of_getElem? hx)
theorem poi_allbare {s : Shared} (h : PyProof.Rows.AllBare s.gens) : PyProof.Rows.AllBare (poiS s).gens := fun y hy => by
  have hy : y ∈ s.gens.map poi := hy
  obtain ⟨x, hx, rfl⟩ := Array.mem_map.mp hy
  rw [poi_bare]
  exact h x hx
end DG
set_option Elab.async false
set_option linter.all false
set_option maxRecDepth 100000
set_option maxHeartbeats 1000000
/-! DG2: a generator def's body, woken over ever new bases. -/
namespace DG
open PySem PySem.Spec PyProof.Rows L2 GenW
/-- what is wanted behind a statement of a generator: the heap map at the last wake, what is out so far -/
structure GEnds2 where
  nx : Hp → List V → L2.St → Hp → Prop
  rt : Hp → List V → VK
  bk : Hp → List V → L2.St → Hp → Prop := fun _ _ _ _ => False
  ct : Hp → List V → L2.St → Hp → Prop := fun _ _ _ _ => False
abbrev TGn2 := GEnds2 → Hp → List V → L2.St → Hp → Prop
def GEnds2.at (D : GEnds2) (B : Hp) (ys : List V) : Ends := { nx := D.nx B ys, rt := D.rt B ys, bk := D.bk B ys, ct := D.ct B ys }
/-- a frame's contexts: one for each base; what may be handed out; how many items at most -/
structure Fm where
  X0 : Cx
  xeF : Shared × Hp → Value → Shared → Prop
  ok : Shared → Shared × Hp → Prop
  out : Hp → List V → V → Hp → Prop
  cap : Nat
/-- the frame's context over the base b -/
def Fm.at (F : Fm) (b : Shared × Hp) : Cx := { F.X0 with s_0 := b.1, H_0 := b.2, xe := F.xeF b }
/-- handed out; woken over any base over which the frame stands as it was, the heap grown -/
def GY2 (F : Fm) : Protocol := fun n s₀ v s kap =>
  ∃ b ys x ip σ H, F.ok s₀ b ∧ n + 1 + ys.length = F.cap ∧ RelV x v ∧ Inv (F.at b) ip σ H s ∧ F.out b.2 ys x H ∧
    ∀ b' s', F.ok s' b' → Inv (F.at b') ip σ b'.2 s' → (∀ a u, H a = some u → b'.2 a = some u) → kap (.send .none) s' ∧ kap (.send (.bool true)) s'
structure GC2 (F : Fm) (A : Around) (c : Code) (fs : List Frame) (gd : Bool → Bool) : Prop where
  over : A.over c fs = F.X0.A
  split : splitAtGen fs = none
  guard : fs.any Frame.guarded = false
  gd : gd false = false
structure GK2 (F : Fm) (ip : List (Addr × Obj)) (A : Around) (R : GenEnd) (c : Code) (fs : List Frame) (K : Flow → Sem PySem.Fin) (J : Value → Sem PySem.Fin) (D : GEnds2) : Prop where
  ok : ∀ (b : Shared × Hp) (n : Nat) (ys : List V) (s₀ s : Shared) (f : Flow), F.ok s₀ b → n + ys.length = F.cap → SP (F.at b) ip (D.at b.2 ys) f s → Seg (model F.X0.prog F.X0.w) A R (GY2 F) n s₀ c (K f) fs s
  exc : ∀ (b : Shared × Hp) (n : Nat) (s₀ : Shared) (e : Value) (s : Shared), F.ok s₀ b → F.xeF b e s → Seg (model F.X0.prog F.X0.w) A R (GY2 F) n s₀ c (J e) fs s
structure GS2 (F : Fm) (st : Stmt) (t : TGn2) : Prop where
  run : ∀ (A : Around) (ip : List (Addr × Obj)) (R : GenEnd) (b : Shared × Hp) (n : Nat) (ys : List V) (s₀ : Shared) (c : Code) (fs : List Frame) (K : Flow → Sem PySem.Fin) (J : Value → Sem PySem.Fin) (gd : Bool → Bool) (lv : List Value → List Value) (s : Shared) (σ : L2.St) (H : Hp) (D : GEnds2),
    F.ok s₀ b → GC2 F A c fs gd → n + ys.length = F.cap → GK2 F ip A R c fs K J D → Inv (F.at b) ip σ H s → t D b.2 ys σ H →
    Seg (model F.X0.prog F.X0.w) A R (GY2 F) n s₀ c ((exec st F.X0.env).wrap K J gd lv) fs s
structure GSs2 (F : Fm) (st : List Stmt) (t : TGn2) : Prop where
  run : ∀ (A : Around) (ip : List (Addr × Obj)) (R : GenEnd) (b : Shared × Hp) (n : Nat) (ys : List V) (s₀ : Shared) (c : Code) (fs : List Frame) (K : Flow → Sem PySem.Fin) (J : Value → Sem PySem.Fin) (gd : Bool → Bool) (lv : List Value → List Value) (s : Shared) (σ : L2.St) (H : Hp) (D : GEnds2),
    F.ok s₀ b → GC2 F A c fs gd → n + ys.length = F.cap → GK2 F ip A R c fs K J D → Inv (F.at b) ip σ H s → t D b.2 ys σ H →
    Seg (model F.X0.prog F.X0.w) A R (GY2 F) n s₀ c ((execs st F.X0.env).wrap K J gd lv) fs s
section
variable {F : Fm} {st : Stmt} {rest : List Stmt}
/-- a statement that hands out nothing -/
def tPlain2 (t : TS) : TGn2 := fun D B ys σ H => t (D.at B ys) σ H
theorem gs2_ps {t : TS} (h : ∀ s₀ b, F.ok s₀ b → PS (F.at b) st t) : GS2 F st (tPlain2 t) := by
  refine ⟨fun A ip R b n ys s₀ c fs K J gd lv s σ H D hb g hn k I ht => ?_⟩
  refine seg_wrap ?_
  rw [g.over]
  exact wpAny_mono ((h s₀ b hb).run ip s σ H (D.at b.2 ys) I ht) (fun f s' hs => k.ok b n ys s₀ s' f hb hn hs) fun x s' hx => k.exc b n s₀ x s' hb hx
def tG02 : TGn2 := fun D B ys σ H => D.nx B ys σ H
theorem gss2_nil : GSs2 F [] tG02 := by
  refine ⟨fun A ip R b n ys s₀ c fs K J gd lv s σ H D hb g hn k I ht => ?_⟩
  exact seg_execs_nil (k.ok b n ys s₀ s .next hb hn ⟨σ, H, I, ht⟩)
def tGThen2 (t u : TGn2) : TGn2 := fun D B ys σ H => t { D with nx := fun B' ys' σ' H' => u D B' ys' σ' H' } B ys σ H
theorem gss2_cons {t u : TGn2} (a : GS2 F st t) (r : GSs2 F rest u) : GSs2 F (st :: rest) (tGThen2 t u) := by
  refine ⟨fun A ip R b n ys s₀ c fs K J gd lv s σ H D hb g hn k I ht => ?_⟩
  refine seg_execs_cons ?_
  refine a.run A ip R b n ys s₀ c fs _ J gd lv s σ H { D with nx := fun B' ys' σ' H' => u D B' ys' σ' H' } hb g hn ⟨fun b' n' ys' s₀' s' f hb' hn' hs => ?_, k.exc⟩ I ht
  cases f with
  | next =>
    obtain ⟨σ', H', I', q⟩ := hs
    exact r.run A ip R b' n' ys' s₀' c fs K J gd lv s' σ' H' D hb' g hn' k I' q
  | brk => exact k.ok b' n' ys' s₀' s' .brk hb' hn' hs
  | cont => exact k.ok b' n' ys' s₀' s' .cont hb' hn' hs
  | ret u => exact k.ok b' n' ys' s₀' s' (.ret u) hb' hn' hs
/-! ### yield -/
def tGYield2 (F : Fm) (te : TE) : TGn2 := fun D B ys σ H => ys.length < F.cap ∧ te σ H fun x H1 => F.out B ys x H1 ∧ ∀ H', (∀ a u, H1 a = some u → H' a = some u) → D.nx H' (ys ++ [x]) σ H'
theorem gs2_yield {e : Expr} {yp pos : Pos} {te : TE} (he : ∀ s₀ b, F.ok s₀ b → PE (F.at b) e te) (hco : F.X0.env.scope.isCoroutine = false) (hi : interactive F.X0.env = false) : GS2 F (.Expr (.Yield (some e) yp) pos) (tGYield2 F te) := by
  refine ⟨fun A ip R b n ys s₀ c fs K J gd lv s σ H D hb g hn k I ht => ?_⟩
  obtain ⟨hlt, ht⟩ := ht
  obtain ⟨n, rfl⟩ : ∃ m, n = m + 1 := ⟨n - 1, by omega⟩
  refine seg_Expr_Yield g.split g.gd g.guard ?_ hco hi
  rw [g.over]
  refine wpAny_mono ((he s₀ b hb).run ip s σ H _ I ht) (fun v s' hv => ?_) fun x s' hx => k.exc b _ s₀ x s' hb hx
  obtain ⟨x, H1, I1, rv, q0, q⟩ := hv
  intro kap hk
  refine ⟨b, ys, x, ip, σ, H1, hb, hn, rv, I1, q0, fun b' s'' hb' I' hx => ?_⟩
  have go : Seg (model F.X0.prog F.X0.w) A R (GY2 F) n s'' c (K .next) fs s'' := ?_
  exact ⟨hk .none s'' go, hk (.bool true) s'' go⟩
  refine k.ok b' n (ys ++ [x]) s'' s'' .next hb' ?_ ⟨σ, b'.2, I', q b'.2 hx⟩
  rw [List.length_append, List.length_singleton]; omega
end
end DG
set_option Elab.async false
set_option linter.all false
set_option maxRecDepth 100000
set_option maxHeartbeats 1000000
/-! DG3: for in a generator def. -/
namespace PySem
section
variable {prog : Program} {w : World} {A : Around} {R : GenEnd} {Y : Protocol} {n : Nat} {s₀ : Shared} {c : Code} {fs : List Frame} {s : Shared} {env : Env} {K : Flow → Sem Fin} {H : Value → Sem Fin} {gd : Bool → Bool} {lv : List Value → List Value}
/-- what a loop's code does with an exception -/
def loopX (env : Env) (e : Value) : Sem Fin := (do noteFrame e env; theTreesLotGoes e : Sem Unit).wrap (fun _ => .raise e) .raise id id
theorem forTurn_eq (target : Expr) (it : Value) (body orelse : List Stmt) (env : Env) : forTurn target it body orelse env = ((do standAt target.pos; (pyNext it).onRaise (fun _ => standAt { target.pos with line := 0 })) >>= fun r => match r with
    | none => again (.block orelse env)
    | some v => (do letOwnedTupleGo target it v; assign target env v) >>= fun _ => (execs body env >>= fun f => match f with
      | .next | .cont => again (.forLoop target it body orelse env)
      | .brk => pure (.done .next)
      | .ret v => pure (.done (.ret v)))) := by
  unfold forTurn
  simp only [bind_assoc]
  congr 1
theorem seg_forLoop {target : Expr} {it : Value} {body orelse : List Stmt}
    (h : wpAny (model prog w) (A.over (.forLoop target it body orelse env) fs) (do standAt target.pos; (pyNext it).onRaise (fun _ => standAt { target.pos with line := 0 }) : Sem (Option Value)) (fun r s' => match r with
        | none => Seg (model prog w) A R Y n s₀ (.forLoop target it body orelse env) (.pure (.again (.block orelse env))) fs s'
        | some v => wpAny (model prog w) (A.over (.forLoop target it body orelse env) fs) (do letOwnedTupleGo target it v; assign target env v : Sem Unit) (fun _ s2 =>
            Seg (model prog w) A R Y n s₀ (.forLoop target it body orelse env) ((execs body env).wrap (fun f => match f with
              | .next | .cont => .pure (.again (.forLoop target it body orelse env))
              | .brk => .pure (.done .next)
              | .ret v => .pure (.done (.ret v))) (loopX env) id id) fs s2)
            (fun x s2 => Seg (model prog w) A R Y n s₀ (.forLoop target it body orelse env) (loopX env x) fs s2) s')
      (fun x s' => Seg (model prog w) A R Y n s₀ (.forLoop target it body orelse env) (loopX env x) fs s') s) :
    Seg (model prog w) A R Y n s₀ (.forLoop target it body orelse env) ((model prog w).den (.forLoop target it body orelse env)) fs s := by
  show Seg _ A R Y n s₀ _ ((forTurn target it body orelse env).onRaise (fun x => do noteFrame x env; theTreesLotGoes x)) fs s
  have ex : ∀ x s', Seg (model prog w) A R Y n s₀ (.forLoop target it body orelse env) (loopX env x) fs s' → Seg (model prog w) A R Y n s₀ (.forLoop target it body orelse env) ((do noteFrame x env; theTreesLotGoes x : Sem Unit).bind fun _ => .raise x) fs s' := fun x s' hx => by
    rw [Sem.bind_eq_wrap]; exact hx
  rw [forTurn_eq, Sem.onRaise_eq_wrap, Sem.bind_eq_wrap', Sem.wrap_wrap]
  refine seg_wrap (wpAny_mono h (fun r s' hr => ?_) fun x s' hx => ex x s' hx)
  cases r with
  | none => exact hr
  | some v =>
    show Seg _ A R Y n s₀ _ (Sem.wrap _ _ _ _ (_ >>= _)) fs s'
    rw [Sem.bind_eq_wrap', Sem.wrap_wrap]
    refine seg_wrap (wpAny_mono hr (fun _ s2 h2 => ?_) fun x s2 hx => ex x s2 hx)
    show Seg _ A R Y n s₀ _ (Sem.wrap _ _ _ _ (_ >>= _)) fs s2
    rw [Sem.bind_eq_wrap', Sem.wrap_wrap]
    rw [Sem.wrap_congr (execs body env) _ _ (K' := fun f => match f with
          | .next | .cont => .pure (.again (.forLoop target it body orelse env))
          | .brk => .pure (.done .next)
          | .ret v => .pure (.done (.ret v))) (H' := loopX env)
      (fun f => by cases f <;> rfl)
      (fun e => by show (do noteFrame e env; theTreesLotGoes e : Sem Unit).bind (fun _ => .raise e) = _; rw [Sem.bind_eq_wrap]; rfl)]
    exact h2
/-- the statement itself -/
theorem seg_For {target iter : Expr} {body orelse : List Stmt} {pos : Pos}
    (h : wpAny (model prog w) (A.over c fs) (eval iter env) (fun x s1 => wpAny (model prog w) (A.over c fs) (pyIter x) (fun it s2 => ∀ p, Seg (model prog w) A R Y n s₀ (.forLoop target it body orelse env) ((model prog w).den (.forLoop target it body orelse env))
      (.ret (fun r => ((match r with | .ok f => (.pure f : Sem Flow) | .error e => .raise e).onRaise (L2.cameBack env)).wrap K H gd lv) none (gd false) (lv []) c p [] :: fs) s2)
      (fun x s2 => Seg (model prog w) A R Y n s₀ c (H x) fs s2) s1) (fun x s1 => Seg (model prog w) A R Y n s₀ c (H x) fs s1) s)
    (hs : ∀ x, foldedSetIterable iter env x = pure x) :
    Seg (model prog w) A R Y n s₀ c ((exec (.For target iter body orelse pos) env).wrap K H gd lv) fs s := by
  have e : exec (.For target iter body orelse pos) env = ((do standAt pos; let x ← foldedSetIterable iter env (← eval iter env); standAt iter.pos; holding [x] (pyIter x)) >>= fun it => runOwn (.forLoop target it body orelse env) env) := by
    rw [exec_For]
    simp only [bind_assoc]
  rw [e, Sem.bind_eq_wrap', Sem.wrap_wrap]
  refine seg_wrap ?_
  refine wpAny_bind (wpAny_standAt (wpAny_bind (wpAny_mono h (fun x s1 h1 => wpAny_bind (wpAny_of_eq (hs x) (wpAny_bind (wpAny_standAt (wpAny_holding (wpAny_mono h1 (fun it s2 h2 => ?_) fun _ _ q => q)))))) fun _ _ q => q)))
  exact seg_call h2
end
end PySem
set_option Elab.async false
set_option linter.all false
set_option maxRecDepth 100000
set_option maxHeartbeats 1000000
/-! DG4: for in a generator def, by its turns. -/
namespace DG
open PySem PySem.Spec PyProof.Rows L2 GenW
section
variable {F : Fm}
theorem gc2_loop {A : Around} {c c' : Code} {fs : List Frame} {gd : Bool → Bool} {k : Result → Sem PySem.Fin} {l kp : List Value} {p : Pos} (g : GC2 F A c fs gd) (hw : c'.weight = 0) (hu : c'.cUnits = 0) :
    GC2 F A c' (.ret k none (gd false) l c p kp :: fs) id where
  over := (over_loop hw hu).trans g.over
  split := by
    show (splitAtGen fs).map _ = none
    rw [g.split]; rfl
  guard := by
    show (gd false || fs.any Frame.guarded) = false
    rw [g.gd, g.guard]; rfl
  gd := rfl
theorem seg_cameBack2 {ip : List (Addr × Obj)} {A : Around} {R : GenEnd} {c : Code} {fs : List Frame} {K : Flow → Sem PySem.Fin} {J : Value → Sem PySem.Fin} {gd : Bool → Bool} {lv : List Value → List Value} {D : GEnds2} {n : Nat} {s₀ s : Shared} {e : Value} {b : Shared × Hp}
    (g : GC2 F A c fs gd) (k : GK2 F ip A R c fs K J D) (hb : F.ok s₀ b) (h : cameBackBy (model F.X0.prog F.X0.w) F.X0.A F.X0.env (F.xeF b) e s) :
    Seg (model F.X0.prog F.X0.w) A R (GY2 F) n s₀ c (((Sem.raise e : Sem Flow).onRaise (cameBack F.X0.env)).wrap K J gd lv) fs s := by
  show Seg _ _ _ _ _ _ _ (((cameBack F.X0.env e).bind fun _ => (Sem.raise e : Sem Flow)).wrap K J gd lv) _ _
  rw [Sem.bind_eq_wrap, Sem.wrap_wrap]
  refine seg_wrap ?_
  rw [g.over]
  exact wpAny_mono h (fun _ s' hx => k.exc b n s₀ e s' hb hx) fun x s' hx => k.exc b n s₀ x s' hb hx
def tGFor (wi : TI) (g : TG) (tb : TGn2) : TGn2 := fun D B ys σ H => wi σ H fun J H1 => ∃ W : Nat → Nat → Hp → List V → L2.St → Hp → Prop, (∃ m, W 0 m B ys σ H1) ∧ ∀ i m B ys σ H, W i m B ys σ H →
  (J.stop i H ∧ D.nx B ys σ H) ∨ (J.go i H ∧ ∃ N : Hp → List V → L2.St → Hp → Prop, (∀ B' ys' σ' H', N B' ys' σ' H' → ∃ m', m' < m ∧ W (i + 1) m' B' ys' σ' H') ∧ ∀ x H', J.yld i H x H' → g x σ H' fun σ2 H2 => tb { D with nx := N, ct := N, bk := D.nx } B ys σ2 H2)
theorem gs2_for {tg iter : Expr} {body : List Stmt} {wi : TI} {g : TG} {tb : TGn2} {pos : Pos} (hsz : ∀ s₀ s₁ b b', F.ok s₀ b → F.ok s₁ b' → b.1.heap.objs.size = b'.1.heap.objs.size)
    (hp : ∀ s₀ b, F.ok s₀ b → PassesOwn (model F.X0.prog F.X0.w) F.X0.A F.X0.env (F.xeF b)) (hc : F.X0.calm = true) (hi : ∀ s₀ b, F.ok s₀ b → PI (F.at b) tg iter wi) (hg : ∀ s₀ b, F.ok s₀ b → PG (F.at b) tg g) (hbd : GSs2 F body tb)
    (hs : ∀ x, foldedSetIterable iter F.X0.env x = pure x) : GS2 F (.For tg iter body [] pos) (tGFor wi g tb) := by
  refine ⟨fun A ip R b n ys s₀ c fs K J gd lv s σ H D hb0 gc hn k I ht => ?_⟩
  refine seg_For ?_ hs
  rw [gc.over]
  refine wpAny_mono ((hi s₀ b hb0).run ip s σ H _ I ht) (fun v s1 h1 => wpAny_mono h1 (fun itv s2 h2 => ?_) fun x s' hx => k.exc b n s₀ x s' hb0 hx) fun x s' hx => k.exc b n s₀ x s' hb0 hx
  intro p
  obtain ⟨it, fp, tn, J', H2, e, I2, T, st2, f2, W, ⟨m0, w0⟩, turn⟩ := h2
  subst e
  have T : Turn F.X0.prog F.X0.w F.X0.K tg J' fp it tn := T
  have gl := fun (kk : Result → Sem PySem.Fin) => gc2_loop (k := kk) (c' := .forLoop tg (.ref it) body [] F.X0.env) (l := lv []) (kp := []) (p := p) gc rfl rfl
  have stat : ∀ {s₁ : Shared} {b' : Shared × Hp} {H' : Hp}, F.ok s₁ b' → (∀ a ∈ fp, H' a = none) → ∀ a ∈ fp, FpOk (F.at b') ip H' a := fun {s₁ b' H'} hb' hn' a ha => by
    obtain ⟨_, y1, y2, y3, y4, y5⟩ := f2 a ha
    refine ⟨hn' a ha, y1, y2, ?_, y4, y5⟩
    rcases y3 with y3 | y3
    · exact .inl y3
    · refine .inr ?_
      have y3 : b.1.heap.objs.size ≤ a := y3
      show b'.1.heap.objs.size ≤ a
      rw [← hsz s₀ s₁ b b' hb0 hb']
      exact y3
  have loop : ∀ (m n : Nat) (ys : List V) (s₀ : Shared) (b : Shared × Hp) (s : Shared) (i : Nat) (σ : L2.St) (H : Hp), F.ok s₀ b → n + ys.length = F.cap → W i m b.2 ys σ H → Inv (F.at b) ip σ H s → tn i s.heap → (∀ a ∈ fp, H a = none) →
      Seg (model F.X0.prog F.X0.w) A R (GY2 F) n s₀ (.forLoop tg (.ref it) body [] F.X0.env) ((model F.X0.prog F.X0.w).den (.forLoop tg (.ref it) body [] F.X0.env))
        (.ret (fun r => ((match r with | .ok f => (.pure f : Sem Flow) | .error e => .raise e).onRaise (cameBack F.X0.env)).wrap K J gd lv) none (gd false) (lv []) c p [] :: fs) s := by
    intro m
    induction m using Nat.strongRecOn with
    | ind m ih =>
      intro n ys s₀ b s i σ H hb0 hn w I st fr
      have ee : ∀ (b : Shared × Hp) (n : Nat) (s₀ : Shared) (x : Value) (s' : Shared), F.ok s₀ b → F.xeF b x s' → Seg (model F.X0.prog F.X0.w) A R (GY2 F) n s₀ (.forLoop tg (.ref it) body [] F.X0.env) (loopX F.X0.env x)
          (.ret (fun r => ((match r with | .ok f => (.pure f : Sem Flow) | .error e => .raise e).onRaise (cameBack F.X0.env)).wrap K J gd lv) none (gd false) (lv []) c p [] :: fs) s' := fun b n s₀ x s' hb0 hx => by
        unfold loopX
        refine seg_wrap ?_
        rw [(gl _).over]
        refine wpAny_bind (wpAny_mono (hp s₀ b hb0 x s' hx) (fun _ s'' hcb => wpAny_theTreesLotGoes ?_) fun y s'' hcb => ?_)
        · exact seg_leaf (.error x) (seg_cameBack2 gc k hb0 hcb)
        · exact seg_leaf (.error y) (seg_cameBack2 gc k hb0 hcb)
      refine seg_forLoop ?_
      rw [(gl _).over]
      refine wpAny_bind (wpAny_standAt (wpAny_onRaise ?_))
      rcases turn i m b.2 ys σ H w with ⟨stop, qn⟩ | ⟨go, N, hN, step⟩
      · refine wpAny_mono (T.done (F.at b) rfl rfl rfl hc i ip s σ H (F.xeF b) I (stat hb0 fr) st stop) (fun r s4 ⟨hr, I4⟩ => ?_) fun x s' hx => wpAny_standAt (ee b n s₀ x s' hb0 hx)
        subst hr
        refine seg_again rfl ?_
        exact seg_leaf (.ok .next) (k.ok b n ys s₀ s4 .next hb0 hn ⟨σ, H, I4, qn⟩)
      · refine wpAny_mono (T.item (F.at b) rfl rfl rfl hc i ip s σ H (F.xeF b) I (stat hb0 fr) st go) (fun r s4 ⟨u, hr, h4⟩ => ?_) fun x s' hx => wpAny_standAt (ee b n s₀ x s' hb0 hx)
        subst hr
        refine wpAny_bind (wpAny_mono h4 (fun _ s5 ⟨x, H5, I5, r5, y5, st5, fr5⟩ => ?_) fun x s' hx => ee b n s₀ x s' hb0 hx)
        have I5' := I5.pinned (stat hb0 fr5) (T.obj _ _ st5)
        refine wpAny_mono ((hg s₀ b hb0).run _ s5 σ H5 x u _ I5' r5 (step x H5 y5)) (fun _ s6 ⟨σ6, H6, I6, q6⟩ => ?_) fun x s' hx => ee b n s₀ x s' hb0 hx
        refine hbd.run A (ip ++ pinsAt fp s5.heap) R b n ys s₀ _ _ _ _ id id s6 σ6 H6 { D with nx := N, ct := N, bk := D.nx } hb0 (gl _) hn ⟨fun b' n' ys' s₀' s7 f hb' hn' hs' => ?_, fun b' n' s₀' x s3 hb' hx => ee b' n' s₀' x s3 hb' hx⟩ I6 q6
        have again : ∀ {σ7 : L2.St} {H7 : Hp}, Inv (F.at b') (ip ++ pinsAt fp s5.heap) σ7 H7 s7 → N b'.2 ys' σ7 H7 → Seg (model F.X0.prog F.X0.w) A R (GY2 F) n' s₀' (.forLoop tg (.ref it) body [] F.X0.env) (.pure (.again (.forLoop tg (.ref it) body [] F.X0.env)))
          (.ret (fun r => ((match r with | .ok f => (.pure f : Sem Flow) | .error e => .raise e).onRaise (cameBack F.X0.env)).wrap K J gd lv) none (gd false) (lv []) c p [] :: fs) s7 := fun {σ7 H7} I7 n7 => by
          obtain ⟨m', hm, w7⟩ := hN b'.2 ys' σ7 H7 n7
          refine seg_again rfl (ih m' hm n' ys' s₀' b' s7 (i + 1) σ7 H7 hb' hn' w7 I7.unpinned (T.keep _ _ _ st5 fun a ha o e => (I7.pin (a, o) (List.mem_append_right _ (List.mem_append_right _ (mem_pinsAt ha e)))).1) fun a ha => ?_)
          obtain ⟨o, e, d⟩ := T.obj _ _ st5 a ha
          exact (I7.pin (a, o) (List.mem_append_right _ (List.mem_append_right _ (mem_pinsAt ha e)))).2.1
        cases f with
        | next => obtain ⟨σ7, H7, I7, n7⟩ := hs'; exact again I7 n7
        | cont => obtain ⟨σ7, H7, I7, n7⟩ := hs'; exact again I7 n7
        | brk => obtain ⟨σ7, H7, I7, q7⟩ := hs'; exact seg_leaf (.ok .next) (k.ok b' n' ys' s₀' s7 .next hb' hn' ⟨σ7, H7, I7.unpinned, q7⟩)
        | ret v => obtain ⟨x7, σ7, H7, I7, r7, q7⟩ := hs'; exact seg_leaf (.ok (.ret v)) (k.ok b' n' ys' s₀' s7 (.ret v) hb' hn' ⟨x7, σ7, H7, I7.unpinned, r7, q7⟩)
  exact loop m0 n ys s₀ b s2 0 σ H2 hb0 hn w0 I2 st2 fun a ha => (f2 a ha).1
end
end DG
set_option Elab.async false
set_option linter.all false
set_option maxRecDepth 100000
set_option maxHeartbeats 1000000
/-! DG5: bases cut to an older size; the frame at a wake; the consumer behind a segment. -/
namespace DG
open PySem PySem.Spec PyProof.Rows L2 GenW
/-- the heap's first n addresses -/
def cutH (n : Nat) (h : Heap) : Heap := { h with objs := h.objs.extract 0 n }
def cutS (n : Nat) (s : Shared) : Shared := { s with heap := cutH n s.heap }
theorem cut_size {n : Nat} {h : Heap} (hn : n ≤ h.objs.size) : (cutH n h).objs.size = n := by
  show (h.objs.extract 0 n).size = n
  rw [Array.size_extract, Nat.min_eq_left hn, Nat.sub_zero]
theorem cut_get {n : Nat} {h : Heap} {b : Addr} (hb : b < n) : (cutH n h).get? b = h.get? b := by
  unfold Heap.get? cutH
  have e : (h.objs.extract 0 n)[b]? = h.objs[b]? := by
    have hb : (b : Nat) < n := hb
    rcases Nat.lt_or_ge b h.objs.size with z | z
    · rw [Array.getElem?_eq_getElem (by rw [Array.size_extract]; exact Nat.lt_of_lt_of_le (Nat.lt_min.mpr ⟨hb, z⟩) (Nat.le_of_eq (Nat.sub_zero _).symm)), Array.getElem_extract, Array.getElem?_eq_getElem z]
      simp only [Nat.zero_add]
    · rw [Array.getElem?_eq_none z, Array.getElem?_eq_none]
      rw [Array.size_extract]
      exact Nat.le_trans (Nat.sub_le _ _) (Nat.le_trans (Nat.min_le_right _ _) z)
  simp only [e]
theorem cut_of {n : Nat} {h : Heap} {b : Addr} {o : Obj} (hn : n ≤ h.objs.size) (e : (cutH n h).get? b = some o) : b < n ∧ h.get? b = some o := by
  have lt : b < n := by
    have := Heap.lt_size e
    rw [cut_size hn] at this
    exact this
  exact ⟨lt, by rw [← cut_get lt]; exact e⟩
theorem cut_frames {base h0 h : Heap} {n : Nat} (h0n : h0.objs.size = n) : ∀ {l : List Env}, h0.FunFrames base l → h.FunFrames base l → (cutH n h).FunFrames base l
  | [], _, _ => trivial
  | env :: l, a, b => by
    obtain ⟨ak, ⟨L, o, af, ab, ao, ad⟩, ar⟩ := a
    obtain ⟨bk, ⟨L2, o2, bf, bb, bo, bd⟩, br⟩ := b
    rw [af] at bf
    cases bf
    have lt : L < n := by rw [← h0n]; exact Heap.lt_size ao
    exact ⟨ak, ⟨L, o2, af, ab, by rw [cut_get lt]; exact bo, bd⟩, cut_frames h0n ar br⟩
/-- the frame stands over a new base -/
theorem inv_wake {F : Fm} {b : Shared × Hp} {ip : List (Addr × Obj)} {σ : L2.St} {H1 H' : Hp} {s1 s' : Shared} {n : Nat} (hn : b.1.heap.objs.size = n) (hn' : n ≤ s'.heap.objs.size) (I : Inv (F.at b) ip σ H1 s1)
    (hfn : ∀ x, F.X0.fn x = true) (hcl : ∀ x c, F.X0.env.cells.lookup x = some c → (∀ o, s1.heap.get? c = some o → s'.heap.get? c = some o) ∧ H' c = none) (e0 : ∃ A', Env0 F.X0.prog F.X0.w F.X0.K F.X0.mg F.X0.base A' F.X0.outer s' H')
    (hL : ∀ o, s1.heap.get? F.X0.env.locals = some o → s'.heap.get? F.X0.env.locals = some o) (hLn : H' F.X0.env.locals = none)
    (hp : ∀ p ∈ F.X0.pn ++ ip, s'.heap.get? p.1 = some p.2 ∧ H' p.1 = none) : Inv (F.at (cutS n s', H')) ip σ H' s' := by
  obtain ⟨A', e0⟩ := e0
  have k := I.ok
  have fz : ∀ x ∈ F.X0.fs, H' x = none := e0.frf
  have cs : (cutS n s').heap.objs.size = n := cut_size hn'
  have bn : F.X0.base.objs.size ≤ n := by have := k.bsz; have : F.X0.base.objs.size ≤ b.1.heap.objs.size := this; omega
  refine ⟨⟨k.mod, k.kind, k.glob, k.blt, ?_, k.inj, k.has, fun x c hf q => ?_, k.hd, k.frames, k.stk, k.exf, fun x o q => ?_, ?_, k.noex, k.exfs, ?_, fz⟩, rfl, e0.bare, ⟨fun x o q _ _ _ => ?_, fun x o q _ _ _ => ⟨o.slots, ?_⟩, fun x o q z _ => z, fun x o q _ => ⟨o, ?_⟩, fun x xs q => q, fun x o u q => q, fun x ps q => ⟨#[], by rw [Array.append_empty]; exact q⟩⟩, ?_, fun x c q => ?_, hLn, fun x c q => ?_, fun p hp' => ?_, e0.hok, I.len⟩
  · show (cutS n s').heap.objs.size ≤ F.X0.env.locals
    have : b.1.heap.objs.size ≤ F.X0.env.locals := k.above
    omega
  · have : b.1.heap.objs.size ≤ c := k.cab x c hf q
    show (cutS n s').heap.objs.size ≤ c
    rw [cs, ← hn]; exact this
  · have lt := Heap.lt_size q
    obtain ⟨q1, q2⟩ := e0.bs x o q
    have lt : x < F.X0.base.objs.size := lt
    exact ⟨by show (cutH n s'.heap).get? x = some o; rw [cut_get (Nat.lt_of_lt_of_le lt bn)]; exact q1, q2⟩
  · show F.X0.base.objs.size ≤ (cutS n s').heap.objs.size
    omega
  · exact cut_frames (n := n) hn k.funs e0.funs
  · exact (cut_of hn' q).2
  · exact (cut_of hn' q).2
  · exact (cut_of hn' q).2
  · obtain ⟨m, hm, hv⟩ := I.loc
    refine ⟨m, hm.at' hL, fun i x v q1 q2 q3 => ?_⟩
    obtain ⟨u, ru, lk⟩ := hv i x v q1 q2 q3
    refine ⟨u, ru, ?_⟩
    rcases lk with lk | ⟨hk, c, q, o, ho, hd⟩
    · exact .inl lk
    · exact .inr ⟨hk, c, q, o, (hcl x c q).1 o ho, hd⟩
  · obtain ⟨v, o, ho, hd⟩ := I.cell x c q
    exact ⟨v, o, (hcl x c q).1 o ho, hd⟩
  · exact (hcl x c q).2
  · obtain ⟨_, _, p3, p4, p5⟩ := I.pin p hp'
    obtain ⟨q1, q2⟩ := hp p hp'
    exact ⟨q1, q2, p3, p4, p5⟩
/-- the consumer behind a segment: old objects by the frame's base, the rest by what the heap map tells -/
theorem inv_seg {X : Cx} {F : Fm} {pins ip : List (Addr × Obj)} {σ σg : L2.St} {H H1 : Hp} {s s1 : Shared} {n : Nat} (I : Inv X pins σ H s) (hn : n ≤ s.heap.objs.size) (Ig : Inv (F.at (cutS n s, H)) ip σg H1 s1)
    (hpr : F.X0.prog = X.prog) (hw : F.X0.w = X.w) (ho : F.X0.outer = X.stack) (hex : F.X0.ex = [])
    (h0 : X.s_0.heap.objs.size ≤ n) (hL : X.env.locals < n) (hc : ∀ x c, X.env.cells.lookup x = some c → c < n) (hpn : ∀ p ∈ X.pn ++ pins, p.1 < n) : Inv X pins σ H1 s1 := by
  have u := Ig.base
  have eo : s1.os = s.os := Ig.os
  have ex0 : (F.at (cutS n s, H)).ex = [] := hex
  have fs0 : (F.at (cutS n s, H)).fs = frs X.stack := by show frs F.X0.outer = _; rw [ho]
  have inch : ∀ a, a ∉ (List.range' n (s.heap.objs.size - n)) → a < s.heap.objs.size → a < n := fun a h1 h2 => by
    rcases Nat.lt_or_ge a n with z | z
    · exact z
    · exact absurd (List.mem_range'.mpr ⟨a - n, by omega, by omega⟩) h1
  refine I.call' (ch := List.range' n (s.heap.objs.size - n)) eo ?_ (by have := Ig.hok; rw [← hpr, ← hw]; exact this) Ig.bare fun a ha => ?_
  · rw [← fs0]
    have cg : ∀ a o, s.heap.get? a = some o → a ∉ (List.range' n (s.heap.objs.size - n)) → (cutS n s).heap.get? a = some o := fun a o e hx => by
      show (cutH n s.heap).get? a = some o
      rw [cut_get (inch a hx (Heap.lt_size e))]
      exact e
    refine ⟨fun a o e hH hf hx => u.keep a o (cg a o e hx) hH hf (by rw [ex0]; simp), fun a o e hH hf hx => u.slot a o (cg a o e hx) hH hf (by rw [ex0]; simp), fun a o e hH hx => u.free a o (cg a o e hx) hH (by rw [ex0]; simp), fun a o e hx => u.there a o (cg a o e hx) (by rw [ex0]; simp), u.tups, u.frzs, u.tbls⟩
  · obtain ⟨i, hi, rfl⟩ := List.mem_range'.mp ha
    rw [Nat.one_mul]
    have big : ∀ y : Addr, y < n → y ≠ n + i := fun y hy => Nat.ne_of_lt (Nat.lt_of_lt_of_le hy (Nat.le_add_right n i))
    exact ⟨.inr (Nat.le_trans h0 (Nat.le_add_right n i)), (big _ hL).symm, fun x c q => big c (hc x c q), fun p hp => big _ (hpn p hp)⟩
/-- a waiting generator's cells, tracked by the consumer -/
def addC (C : Addr → Prop) [DecidablePred C] (h : Heap) (H : Hp) : Hp := fun p => if C p then some (.ext fun h' => ∀ o, h.get? p = some o → h'.get? p = some o) else H p
def dropC (C : Addr → Prop) [DecidablePred C] (H : Hp) : Hp := fun p => if C p then none else H p
section
variable {C : Addr → Prop} [DecidablePred C] {X : Cx} {pins : List (Addr × Obj)} {σ : L2.St} {H : Hp} {s : Shared} {h : Heap} {p : Addr}
theorem addC_y (c : C p) : addC C h H p = some (.ext fun h' => ∀ o, h.get? p = some o → h'.get? p = some o) := if_pos c
theorem addC_n (c : ¬ C p) : addC C h H p = H p := if_neg c
theorem dropC_y (c : C p) : dropC C H p = none := if_pos c
theorem dropC_n (c : ¬ C p) : dropC C H p = H p := if_neg c
theorem inv_add (I : Inv X pins σ H s) (hC : ∀ c, C c → (∃ v, s.heap.IsCell c v) ∧ H c = none ∧ c ≠ X.env.locals ∧ (∀ x c', X.env.cells.lookup x = some c' → c' ≠ c) ∧ X.s_0.heap.objs.size ≤ c) : Inv X pins σ (addC C s.heap H) s := by
  have old : ∀ {b o}, X.s_0.heap.get? b = some o → ¬ C b := fun {b o} e c => absurd (Nat.lt_of_lt_of_le (Heap.lt_size e) (hC b c).2.2.2.2) (Nat.lt_irrefl _)
  have no : ∀ {b u}, H b = some u → ¬ C b := fun {b u} e c => by rw [(hC b c).2.1] at e; cases e
  have u := I.base
  refine ⟨I.ok, I.os, I.bare, ⟨u.keep, u.slot, fun b o e n x => ?_, u.there, fun b xs e => ?_, fun b o w e => ?_, fun b ps e => ?_⟩, I.loc, I.cell, ?_, fun x c q => ?_, fun q hq => ?_, fun b w e => ?_, I.len⟩
  · rw [addC_n (old e)]; exact u.free b o e n x
  · have := u.tups b xs e; rw [addC_n (no this)]; exact this
  · have := u.frzs b o w e; rw [addC_n (no this)]; exact this
  · obtain ⟨m, this⟩ := u.tbls b ps e; exact ⟨m, by rw [addC_n (no this)]; exact this⟩
  · rw [addC_n fun c => (hC _ c).2.2.1 rfl]; exact I.free
  · rw [addC_n fun z => (hC _ z).2.2.2.1 x c q rfl]; exact I.freeC x c q
  · obtain ⟨p1, p2, p3, p4, p5⟩ := I.pin q hq
    refine ⟨p1, ?_, p3, p4, p5⟩
    rw [addC_n fun z => ?_]
    · exact p2
    · obtain ⟨v, o, ho, hd⟩ := (hC _ z).1
      rw [p1] at ho
      cases ho
      exact p5 _ hd
  · by_cases c : C b
    · rw [addC_y c] at e
      cases e
      obtain ⟨v, o, ho, hd⟩ := (hC _ c).1
      exact ⟨fun _ q => q, ⟨o, ho⟩, fun h1 h2 k1 k2 o q => k2 o (k1 o q)⟩
    · rw [addC_n c] at e
      exact (I.hok b w e).stay (fun _ _ _ q => q) (fun d q => by rw [addC_n (no q)]; exact q) fun d xs q => by rw [addC_n (no q)]; exact q
theorem inv_drop (I : Inv X pins σ H s) (hC : ∀ c, C c → ∃ φ, H c = some (.ext φ)) : Inv X pins σ (dropC C H) s := by
  have sub : ∀ {b : Addr}, H b = none → dropC C H b = none := fun {b} e => by
    unfold dropC
    split
    · rfl
    · exact e
  have no : ∀ {b u}, H b = some u → (∀ φ, u ≠ .ext φ) → ¬ C b := fun {b u} e n c => by
    obtain ⟨φ, q⟩ := hC b c
    rw [e] at q
    cases q
    exact n φ rfl
  have u := I.base
  refine ⟨I.ok, I.os, I.bare, ⟨u.keep, u.slot, fun b o e n x => sub (u.free b o e n x), u.there, fun b xs e => ?_, fun b o w e => ?_, fun b ps e => ?_⟩, I.loc, I.cell, sub I.free, fun x c q => sub (I.freeC x c q), fun q hq => ?_, fun b w e => ?_, I.len⟩
  · have := u.tups b xs e; rw [dropC_n (no this fun φ z => by cases z)]; exact this
  · have := u.frzs b o w e; rw [dropC_n (no this fun φ z => by cases z)]; exact this
  · obtain ⟨m, this⟩ := u.tbls b ps e; exact ⟨m, by rw [dropC_n (no this fun φ z => by cases z)]; exact this⟩
  · obtain ⟨p1, p2, p3, p4, p5⟩ := I.pin q hq
    exact ⟨p1, sub p2, p3, p4, p5⟩
  · by_cases c : C b
    · rw [dropC_y c] at e; cases e
    · rw [dropC_n c] at e
      exact (I.hok b w e).stay (fun _ _ _ q => q) (fun d q => by rw [dropC_n (no q fun φ z => by cases z)]; exact q) fun d xs q => by rw [dropC_n (no q fun φ z => by cases z)]; exact q
end
/-- H2 tracks cells from n on beside what H1 tracks -/
def MoreX (n : Nat) (H1 H2 : Hp) : Prop := ∀ p : Addr, H2 p = H1 p ∨ (n ≤ p ∧ H1 p = none ∧ ∃ φ, H2 p = some (.ext φ))
theorem MoreX.same {n : Nat} {H1 H2 : Hp} (m : MoreX n H1 H2) : Same H1 H2 := fun p o q => by
  rcases m p with e | ⟨_, e, _⟩
  · rw [e]; exact q
  · rw [q] at e; cases e
end DG
set_option Elab.async false
set_option linter.all false
set_option maxRecDepth 100000
set_option maxHeartbeats 1000000
/-! DG6: a generator's first run; waking it for a consumer. -/
namespace DG
open PySem PySem.Spec PyProof.Rows L2 GenW
/-- the end of a generator's run; in the form that pyNext asks for -/
def GF2 (F : Fm) (Q : Hp → List V → Hp → Prop) : Nat → Shared → Shared → Prop := fun n s₀ s => ∃ b ys σ H, F.ok s₀ b ∧ n + ys.length = F.cap ∧ Inv (F.at b) [] σ H s ∧ Q b.2 ys H
def GR2 (F : Fm) (Q : Hp → List V → Hp → Prop) (Er : Value → Shared → Prop) : GenEnd := fun n s₀ r s => ((r = .ok (.ret .none) ∨ r = .ok .next) ∧ GF2 F Q n s₀ s) ∨ ∃ e, r = .error e ∧ Er e s
theorem seg_first {F : Fm} {A : Around} {body : List Stmt} {t : TGn2} {Q : Hp → List V → Hp → Prop} {Er : Value → Shared → Prop} {b : Shared × Hp} {s : Shared} {σ : L2.St} {H : Hp} (hA : A.deeper F.X0.env = F.X0.A) (hb : GSs2 F body t)
    (hx : ∀ s₀ b e s', F.ok s₀ b → F.xeF b e s' → wpAny (model F.X0.prog F.X0.w) F.X0.A (leaving F.X0.env e) (fun _ s'' => Er e s'') (fun _ _ => False) s') (ok : F.ok s b) (I : Inv (F.at b) [] σ H s)
    (ht : t { nx := fun B ys _ H' => Q B ys H', rt := fun B ys v H' => v = .non ∧ Q B ys H' } b.2 [] σ H) :
    Seg (model F.X0.prog F.X0.w) A (GR2 F Q Er) (GY2 F) F.cap s (.func body F.X0.env) ((model F.X0.prog F.X0.w).den (.func body F.X0.env)) [] s := by
  refine seg_func ?_
  refine hb.run A [] _ b F.cap [] s _ [] _ _ id id s σ H _ ok ⟨over_func.trans hA, rfl, rfl, rfl⟩ (Nat.add_zero _) ⟨fun b n ys s₀ s' fl hb' hn hs => ?_, fun b n s₀ e s' hb' hxe => ?_⟩ I ht
  · cases fl with
    | next =>
      obtain ⟨σ', H', hI, hQ⟩ := hs
      exact seg_end (.ok (.ret .none)) (.inl ⟨.inl rfl, b, ys, σ', H', hb', hn, hI, hQ⟩)
    | brk => obtain ⟨_, _, _, q⟩ := hs; exact False.elim q
    | cont => obtain ⟨_, _, _, q⟩ := hs; exact False.elim q
    | ret u =>
      obtain ⟨v, σ', H', hI, rv, ev, hQ⟩ := hs
      subst ev
      have eu : u = Value.none := rv
      subst eu
      exact seg_end (.ok (.ret .none)) (.inl ⟨.inl rfl, b, ys, σ', H', hb', hn, hI, hQ⟩)
  · refine seg_wrap ?_
    rw [over_func, hA]
    refine wpAny_mono (hx s₀ b e s' hb' hxe) (fun _ s'' q => ?_) fun _ s'' q => q.elim
    exact seg_end (.error e) (.inr ⟨e, rfl, q⟩)
/-- a generator that waits: woken over any base over which its frame stands -/
def Waits (F : Fm) (Q : Hp → List V → Hp → Prop) (Er : Value → Shared → Prop) (A : Around) (gs : GenState) (m : Nat) (ip : List (Addr × Obj)) (σ : L2.St) (H : Hp) : Prop :=
  ∀ b' s', F.ok s' b' → Inv (F.at b') ip σ b'.2 s' → (∀ a u, H a = some u → b'.2 a = some u) → gs.Goes (model F.X0.prog F.X0.w) A (GR2 F Q Er) (GY2 F) m (.send .none) s'
/-- one turn of next: the end, or an item and a generator that waits anew -/
theorem next_waits {F : Fm} {Q : Hp → List V → Hp → Prop} {Er : Value → Shared → Prop} {A : Around} {E : Value → Shared → Prop} {R : Option Value → Shared → Prop} {s : Shared} {a : Addr} {g m : Nat} {gs : GenState} {ip : List (Addr × Obj)} {σ : L2.St} {H : Hp} {b' : Shared × Hp}
    (hm : 0 < m) (hh : A.handled = none) (hl : s.heap.NoLimit) (hroom : A.depth < recursionLimit) (hg : s.heap.IsGen a g) (hgs : s.gens[g]? = some gs) (hw : Waits F Q Er A.in1 gs m ip σ H)
    (ok : F.ok (s.setGen g .running) b') (I : Inv (F.at b') ip σ b'.2 (s.setGen g .running)) (hx : ∀ a u, H a = some u → b'.2 a = some u)
    (hY : ∀ m' v s₁ gs' b ys x ip' σ' H1, m = m' + 1 → gs'.bare = true → F.ok (s.setGen g .running) b → m' + 1 + ys.length = F.cap → RelV x v → Inv (F.at b) ip' σ' H1 s₁ → F.out b.2 ys x H1 → Waits F Q Er A.in1 gs' m' ip' σ' H1 → (∀ b' s', F.ok s' b' → Inv (F.at b') ip' σ' b'.2 s' → (∀ a u, H1 a = some u → b'.2 a = some u) → gs'.Goes (model F.X0.prog F.X0.w) A.in1 (GR2 F Q Er) (GY2 F) m' (.send (.bool true)) s') → R (some v) (s₁.setGen g gs'))
    (hP : ∀ s₁, GF2 F Q m (s.setGen g .running) s₁ → ∀ h', (∀ b o, s₁.heap.get? b = some o → h'.get? b = some o) → R none { s₁.setGen g .finished with heap := h' })
    (hE : ∀ e s₁, Er e s₁ → s₁.heap.IsGen a g ∧ NotStop (model F.X0.prog F.X0.w) e s₁.heap ∧ E e (s₁.setGen g .finished)) :
    wpAny (model F.X0.prog F.X0.w) A (pyNext (.ref a)) R E s := by
  refine next_genG (F := GF2 F Q) (Er := Er) (Y := GY2 F) (n := m) hh hl hroom hg hgs (hw b' _ ok I hx) (fun v s₁ gs' hb hy => ?_) hP hE
  obtain ⟨b, ys, x, ip', σ', H1, ok1, hn, rv, I1, ho, hk⟩ := hy
  cases m with
  | zero => exact absurd hm (Nat.lt_irrefl 0)
  | succ m' => exact hY m' v s₁ gs' b ys x ip' σ' H1 rfl hb ok1 hn rv I1 ho (fun b2 s2 ok2 I2 hx2 => (hk b2 s2 ok2 I2 hx2).1) fun b2 s2 ok2 I2 hx2 => (hk b2 s2 ok2 I2 hx2).2
end DG
set_option Elab.async false
set_option linter.all false
set_option maxRecDepth 100000
set_option maxHeartbeats 1000000
/-! DG7: the consumer's turn of next. -/
namespace DG
open PySem PySem.Spec PyProof.Rows L2 GenW
/-- the invariant does not look at the table of generators, but for cleanups -/
theorem inv_gens {X : Cx} {pins : List (Addr × Obj)} {σ : L2.St} {H : Hp} {s : Shared} (I : Inv X pins σ H s) (G : Array GenState) (hG : AllBare G) : Inv X pins σ H { s with gens := G } :=
  ⟨I.ok, I.os, hG, I.base, I.loc, I.cell, I.free, I.freeC, I.pin, I.hok, I.len⟩
/-- the consumer's context and the generator's -/
structure Two (X : Cx) (F : Fm) (n : Nat) (pins : List (Addr × Obj)) : Prop where
  pr : F.X0.prog = X.prog
  w : F.X0.w = X.w
  K : F.X0.K = X.K
  mg : F.X0.mg = X.mg
  base : F.X0.base = X.base
  outer : F.X0.outer = X.stack
  ex : F.X0.ex = []
  h0 : X.s_0.heap.objs.size ≤ n
  loc : X.env.locals < n
  cel : ∀ x c, X.env.cells.lookup x = some c → c < n
  pin : ∀ p ∈ X.pn ++ pins, p.1 < n
  fnT : ∀ x, F.X0.fn x = true
theorem turn_next {X : Cx} {F : Fm} {n : Nat} {pins : List (Addr × Obj)} (S : Two X F n pins) {CI : Shared → L2.St → Hp → Prop} (hok : ∀ s b, F.ok s b ↔ b.1 = cutS n s ∧ n ≤ s.heap.objs.size ∧ ∃ σ, Inv X pins σ b.2 s ∧ CI s σ b.2)
    {Q : Hp → List V → Hp → Prop} {Er : Value → Shared → Prop} {A : Around} {E : Value → Shared → Prop} {R : Option Value → Shared → Prop} {s s0 : Shared} {a : Addr} {g m : Nat} {gs : GenState} {ip : List (Addr × Obj)} {σ σg : L2.St} {H H0 : Hp} {b0 : Shared × Hp} {nso : Obj}
    (mono : ∀ s σ B s₁ ys x H1, CI s σ B → F.out B ys x H1 → CI s₁ σ H1) (hm : 0 < m) (hh : A.handled = none) (hl : s.heap.NoLimit) (hroom : A.depth < recursionLimit) (hg : s.heap.IsGen a g) (hgs : s.gens[g]? = some gs) (hw : Waits F Q Er A.in1 gs m ip σg H0)
    (hb0 : b0.1.heap.objs.size = n) (hn : n ≤ s.heap.objs.size) (I0 : Inv (F.at b0) ip σg H0 s0) (hns : s0.heap.get? F.X0.env.locals = some nso)
    (I : Inv X (pins ++ (F.X0.env.locals, nso) :: (F.X0.pn ++ ip)) σ H s) (ci : CI (s.setGen g .running) σ H) (hcl : ∀ x c, F.X0.env.cells.lookup x = some c → (∀ o, s0.heap.get? c = some o → s.heap.get? c = some o) ∧ H c = none) (hx : ∀ a u, H0 a = some u → H a = some u)
    (hY : ∀ m' v s₁ gs' B ys x ip' σ' H1 σ2 b, m = m' + 1 → gs'.bare = true → CI (s.setGen g .running) σ2 B → m' + 1 + ys.length = F.cap → RelV x v → b.1.heap.objs.size = n → Inv (F.at b) ip' σ' H1 s₁ → n ≤ s₁.heap.objs.size → F.out B ys x H1 → Waits F Q Er A.in1 gs' m' ip' σ' H1 → Inv X pins σ2 H1 (s₁.setGen g gs') → (∃ k l c p fs cl, gs' = .suspended k l c p fs cl) → R (some v) (s₁.setGen g gs'))
    (hP : ∀ s₁ B ys σ2 H1 h', m + ys.length = F.cap → CI (s.setGen g .running) σ2 B → Inv X pins σ2 H1 s₁ → Q B ys H1 → (∀ b o, s₁.heap.get? b = some o → h'.get? b = some o) → R none { s₁.setGen g .finished with heap := h' })
    (hE : ∀ e s₁, Er e s₁ → s₁.heap.IsGen a g ∧ NotStop (model F.X0.prog F.X0.w) e s₁.heap ∧ E e (s₁.setGen g .finished)) :
    wpAny (model F.X0.prog F.X0.w) A (pyNext (.ref a)) R E s := by
  have br : AllBare (s.setGen g .running).gens := allBare_setGen I.bare rfl
  have Ir : Inv X (pins ++ (F.X0.env.locals, nso) :: (F.X0.pn ++ ip)) σ H (s.setGen g .running) := inv_gens I _ br
  have Ip : Inv X pins σ H (s.setGen g .running) := Ir.unpinned
  have pinned : ∀ p ∈ (F.X0.env.locals, nso) :: (F.X0.pn ++ ip), s.heap.get? p.1 = some p.2 ∧ H p.1 = none := fun p hp => by
    have := I.pin p (List.mem_append_right _ (List.mem_append_right _ hp))
    exact ⟨this.1, this.2.1⟩
  have e0 := Ir.env0
  rw [← S.pr, ← S.w, ← S.K, ← S.mg, ← S.base, ← S.outer] at e0
  have Iw : Inv (F.at (cutS n (s.setGen g .running), H)) ip σg H (s.setGen g .running) := inv_wake hb0 hn I0 S.fnT hcl ⟨_, e0⟩
    (fun o e => by rw [hns] at e; cases e; exact (pinned _ List.mem_cons_self).1) (pinned _ List.mem_cons_self).2 fun p hp => pinned p (List.mem_cons_of_mem _ hp)
  have back : ∀ (b : Shared × Hp) (ip' : List (Addr × Obj)) (σ' : L2.St) (H1 : Hp) (s₁ : Shared), F.ok (s.setGen g .running) b → Inv (F.at b) ip' σ' H1 s₁ → ∃ σ2, CI (s.setGen g .running) σ2 b.2 ∧ Inv X pins σ2 H1 s₁ ∧ b.1.heap.objs.size = n := fun b ip' σ' H1 s₁ ok J => by
    obtain ⟨e, _, σ2, J2, c2⟩ := (hok _ b).mp ok
    obtain ⟨b1, B⟩ := b
    cases e
    exact ⟨σ2, c2, inv_seg J2 hn J S.pr S.w S.outer S.ex S.h0 S.loc S.cel S.pin, cut_size hn⟩
  refine next_waits (b' := (cutS n (s.setGen g .running), H)) hm hh hl hroom hg hgs hw ((hok _ _).mpr ⟨rfl, hn, σ, Ip, ci⟩) Iw hx ?_ ?_ hE
  · intro m' v s₁ gs' b ys x ip' σ' H1 e hb ok hn' rv J ho hwt hk2
    obtain ⟨σ2, c2, J2, hz⟩ := back b ip' σ' H1 s₁ ok J
    have ns : n ≤ s₁.heap.objs.size := by
      have := J.sz
      have : b.1.heap.objs.size ≤ s₁.heap.objs.size := this
      omega
    refine hY m' v s₁ gs' b.2 ys x ip' σ' H1 σ2 b e hb c2 hn' rv hz J ns ho hwt (inv_gens J2 _ (allBare_setGen J2.bare hb)) ?_
    have e1 := J2.env0
    rw [← S.pr, ← S.w, ← S.K, ← S.mg, ← S.base, ← S.outer] at e1
    have Jw : Inv (F.at (cutS n s₁, H1)) ip' σ' H1 s₁ := inv_wake hz ns J S.fnT (fun x c q => ⟨fun _ e => e, J.freeC x c q⟩) ⟨_, e1⟩ (fun o q => q) J.free fun p hp => ⟨(J.pin p hp).1, (J.pin p hp).2.1⟩
    have go := hk2 (cutS n s₁, H1) s₁ ((hok _ _).mpr ⟨rfl, ns, σ2, J2, mono _ _ _ s₁ ys x H1 c2 ho⟩) Jw fun _ _ q => q
    cases gs' with
    | fresh c => exact absurd go.1 (by intro z; cases z)
    | suspended k l c p fs cl => exact ⟨k, l, c, p, fs, cl, rfl⟩
    | running => exact go.elim
    | finished => exact go.elim
  · intro s₁ ⟨b, ys, σ', H1, ok, hc, J, q⟩ h' hk
    obtain ⟨σ2, c2, J2, _⟩ := back b [] σ' H1 s₁ ok J
    exact hP s₁ b.2 ys σ2 H1 h' hc c2 J2 q hk
end DG
set_option Elab.async false
set_option linter.all false
set_option maxRecDepth 100000
set_option maxHeartbeats 1000000
/-! DG8: what keeps a waiting generator's entry. -/
namespace DG
open PySem PySem.Spec PyProof.Rows L2 GenW
/-- a run of ours leaves the entry of a waiting generator as it is -/
theorem keep_gen {α : Type} {X : Cx} {pins : List (Addr × Obj)} {σ : L2.St} {H : Hp} {s : Shared} {t : Sem α} {Q : α → Shared → Prop} {E : Value → Shared → Prop} {g : Nat} {gs : GenState} (hg : s.gens[g]? = some gs) (hs : ∃ k l c p fs cl, gs = .suspended k l c p fs cl)
    (I : Inv X pins σ H s) (h : ∀ s', Inv X pins σ H s' → wpAny (model X.prog X.w) X.A t Q E s') :
    wpAny (model X.prog X.w) X.A t (fun a s' => ∃ s₂, Q a s₂ ∧ s'.gens[g]? = some gs ∧ ∀ {Y : Cx} {pl : List (Addr × Obj)} {σ' : L2.St} {H' : Hp}, Inv Y pl σ' H' s₂ → Inv Y pl σ' H' s') (fun e s' => ∃ s₂, E e s₂ ∧ ∃ G, s' = { s₂ with gens := G }) s := by
  have hI : Inv X pins σ H (poiS s) := inv_gens I _ (poi_allbare I.bare)
  refine wpAny_mono (wpAny_un (h _ hI)) (fun a s' ⟨s₂, e, w, q⟩ => ?_) fun x s' ⟨s₂, e, w, q⟩ => ⟨s₂, q, _, e⟩
  subst e
  obtain ⟨k, l, c, p, fs, cl, rfl⟩ := hs
  exact ⟨s₂, q, w.kept hg, fun J => inv_gens J _ (un_bare I.bare J.bare)⟩
/-- the pins that keep the generator's frame while it waits -/
theorem pin_frame {X : Cx} {F : Fm} {n : Nat} {pins ip : List (Addr × Obj)} {σ σg : L2.St} {H1 : Hp} {s₁ : Shared} {b : Shared × Hp} (S : Two X F n pins) (hz : b.1.heap.objs.size = n) (J : Inv (F.at b) ip σg H1 s₁) (I : Inv X pins σ H1 s₁)
    (hfr : X.env.locals ∈ frs X.stack) (hsub : ∀ x ∈ X.fs, x ∈ frs X.stack) (hLf : F.X0.env.locals ∉ X.fs) :
    ∃ nso, s₁.heap.get? F.X0.env.locals = some nso ∧ Inv X (pins ++ (F.X0.env.locals, nso) :: (F.X0.pn ++ ip)) σ H1 s₁ := by
  obtain ⟨m, ⟨o, es, ep, ho, hd, _⟩, _⟩ := J.loc
  have ho : s₁.heap.get? F.X0.env.locals = some o := ho
  refine ⟨o, ho, I.pins_of fun p hp => ?_⟩
  rcases List.mem_append.mp hp with hp | hp
  · exact I.pin p (List.mem_append_right _ hp)
  · rcases List.mem_cons.mp hp with hp | hp
    · subst hp
      have ab : b.1.heap.objs.size ≤ F.X0.env.locals := J.ok.above
      have hl := S.loc
      refine ⟨ho, J.free, fun z => ?_, hLf, fun v q => by rw [hd] at q; cases q⟩
      have z : F.X0.env.locals = X.env.locals := z
      rw [z] at ab
      rw [hz] at ab
      exact absurd (Nat.lt_of_lt_of_le hl ab) (Nat.lt_irrefl _)
    · obtain ⟨p1, p2, p3, p4, p5⟩ := J.pin p hp
      have p4 : p.1 ∉ frs F.X0.outer := p4
      rw [S.outer] at p4
      exact ⟨p1, p2, fun z => p4 (by rw [z]; exact hfr), fun z => p4 (hsub _ z), p5⟩
end DG
set_option Elab.async false
set_option linter.all false
set_option maxRecDepth 100000
set_option maxHeartbeats 1000000
/-! DG9: for over a generator, in the consumer's frame. -/
namespace DG
open PySem PySem.Spec PyProof.Rows L2 GenW
/-- the consumer ahead of a turn -/
def Ahead (X : Cx) (F : Fm) (n : Nat) (pins : List (Addr × Obj)) (Q : Hp → List V → Hp → Prop) (Er : Value → Shared → Prop) (CI : L2.St → Hp → Prop) (P : Nat → Prop) (g : Nat) (m : Nat) (s : Shared) : Prop :=
  ∃ gs ip σg H0 s0 b0 nso σ H, s.gens[g]? = some gs ∧ Waits F Q Er X.A.in1 gs m ip σg H0 ∧ b0.1.heap.objs.size = n ∧ n ≤ s.heap.objs.size ∧ Inv (F.at b0) ip σg H0 s0 ∧ s0.heap.get? F.X0.env.locals = some nso ∧
    Inv X (pins ++ (F.X0.env.locals, nso) :: (F.X0.pn ++ ip)) σ H s ∧ CI σ H ∧ (∀ a u, H0 a = some u → H a = some u) ∧ 0 < m ∧ P (F.cap - m) ∧ ∀ x c, F.X0.env.cells.lookup x = some c → (∀ o, s0.heap.get? c = some o → s.heap.get? c = some o) ∧ H c = none
theorem loop_gen {X : Cx} {F : Fm} {n : Nat} {pins : List (Addr × Obj)} (S : Two X F n pins) {CI : L2.St → Hp → Prop} {P : Nat → Prop} (hok : ∀ s b, F.ok s b ↔ b.1 = cutS n s ∧ n ≤ s.heap.objs.size ∧ ∃ σ, Inv X pins σ b.2 s ∧ CI σ b.2)
    {Q : Hp → List V → Hp → Prop} {Er : Value → Shared → Prop} {a : Addr} {g : Nat} {tg : Expr} {body : List Stmt} {gt : TG} {tb : TS} {D : Ends}
    (hfr : X.env.locals ∈ frs X.stack) (hsub : ∀ x ∈ X.fs, x ∈ frs X.stack) (hLf : F.X0.env.locals ∉ X.fs) (hh : X.A.handled = none) (hroom : X.A.depth < recursionLimit) (hgen : ∀ h : Heap, (∀ p ∈ F.X0.pn, h.get? p.1 = some p.2) → h.IsGen a g)
    (hlet : ∀ v, letOwnedTupleGo tg (.ref a) v = pure ()) (hp : PassesOwn (model X.prog X.w) X.A X.env X.xe) (hg : PG X tg gt) (hb : PSs X body tb) (hEr : ∀ e s, ¬ Er e s) (hno : ∀ e s, ¬ X.xe e s)
    (mono : ∀ σ B ys x H1, CI σ B → F.out B ys x H1 → CI σ H1) (hcap : ∀ B ys x H1, F.out B ys x H1 → ys.length + 1 < F.cap)
    (item : ∀ σ B ys x H1 H2, P ys.length → CI σ B → F.out B ys x H1 → MoreX n H1 H2 → gt x σ H2 fun σ2 H3 => tb { D with nx := fun σ' H' => (∀ H'', MoreX n H'' H' → CI σ' H'') ∧ (∀ a u, H2 a = some u → H' a = some u) ∧ P (ys.length + 1), ct := fun σ' H' => (∀ H'', MoreX n H'' H' → CI σ' H'') ∧ (∀ a u, H2 a = some u → H' a = some u) ∧ P (ys.length + 1), bk := D.nx } σ2 H3)
    (done : ∀ σ B ys H1, P ys.length → CI σ B → Q B ys H1 → D.nx σ H1) (m : Nat) (s : Shared) (h : Ahead X F n pins Q Er CI P g m s) :
    codeAny (model X.prog X.w) X.A (.forLoop tg (.ref a) body [] X.env) (fun r s' => match r with | .ok f => SP X pins D f s' | .error e => cameBackBy (model X.prog X.w) X.A X.env X.xe e s') s := by
  refine codeAny_forLoop_any (Ahead X F n pins Q Er CI P g) ?_ m h
  rintro m s ⟨gs, ip, σg, H0, s0, b0, nso, σ, H, hgs, hw, hb0, hn, I0, hns, I, ci, hx, hm, hP0, hcl⟩
  have isg : s.heap.IsGen a g := hgen _ fun p hp => (I.pin p (List.mem_append_right _ (List.mem_append_right _ (List.mem_cons_of_mem _ (List.mem_append_left _ hp))))).1
  have key := turn_next (A := X.A) (E := X.xe) (R := fun r s₁ => match r with
      | none => ∃ σ2 H1, Inv X pins σ2 H1 s₁ ∧ D.nx σ2 H1
      | some v => ∃ m' gs' ip' σ' H1 σ2 b s2 x B ys, m = m' + 1 ∧ (g < s₁.gens.size → s₁.gens[g]? = some gs') ∧ (∃ k l c p fs cl, gs' = .suspended k l c p fs cl) ∧ Waits F Q Er X.A.in1 gs' m' ip' σ' H1 ∧ b.1.heap.objs.size = n ∧ n ≤ s₁.heap.objs.size ∧ Inv (F.at b) ip' σ' H1 s2 ∧ (∃ G, s₁ = { s2 with gens := G }) ∧ Inv X pins σ2 H1 s₁ ∧ RelV x v ∧ CI σ2 B ∧ F.out B ys x H1 ∧ 0 < m' ∧ ys.length = F.cap - m ∧ ys.length + 1 = F.cap - m')
    S (CI := fun _ => CI) hok (fun _ σ B s₁ ys x H1 c o => mono σ B ys x H1 c o) hm hh I.nolimit hroom isg hgs hw hb0 hn I0 hns I ci hcl hx ?_ ?_ fun e s₁ he => (hEr e s₁ he).elim
  · rw [S.pr, S.w] at key
    have hgl : g + 1 ≤ s.gens.size := (Array.getElem?_eq_some_iff.mp hgs).1
    refine wpAny_passesOwn hp (wpAny_gsz hgl (wpAny_mono key (fun r s₁ hr hsz => ?_) fun _ _ z _ => z))
    cases r with
    | none =>
      obtain ⟨σ2, H1, J, q⟩ := hr
      exact wpAny_execs_nil ⟨σ2, H1, J, q⟩
    | some v =>
      obtain ⟨m', gs', ip', σ', H1, σ2, b, s2, x, B, ys, em, hg', hsus, hw', hz, hn', J, hj, J2, rv, c2, ho, hm', hi1, hi2⟩ := hr
      obtain ⟨G, rfl⟩ := hj
      have hg' := hg' hsz
      have J4 : Inv (F.at b) ip' σ' H1 { s2 with gens := G } := inv_gens J G J2.bare
      obtain ⟨nso', e1, J3⟩ := pin_frame S hz J4 J2 hfr hsub hLf
      let C : Addr → Prop := fun c => ∃ x, F.X0.env.cells.lookup x = some c
      haveI : DecidablePred C := fun _ => Classical.propDecidable _
      have cge : ∀ c, C c → n ≤ c := fun c ⟨x, q⟩ => by
        have : b.1.heap.objs.size ≤ c := J.ok.cab x c (S.fnT x) q
        rw [hz] at this; exact this
      have hC : ∀ c, C c → (∃ v, ({ s2 with gens := G } : Shared).heap.IsCell c v) ∧ H1 c = none ∧ c ≠ X.env.locals ∧ (∀ x c', X.env.cells.lookup x = some c' → c' ≠ c) ∧ X.s_0.heap.objs.size ≤ c := fun c hc => by
        have ge := cge c hc
        obtain ⟨x, q⟩ := hc
        exact ⟨J.cell x c q, J.freeC x c q, Nat.ne_of_gt (Nat.lt_of_lt_of_le S.loc ge), fun y c' q' => Nat.ne_of_lt (Nat.lt_of_lt_of_le (S.cel y c' q') ge), Nat.le_trans S.h0 ge⟩
      have mx : MoreX n H1 (addC C s2.heap H1) := fun p => by
        by_cases hp : C p
        · exact .inr ⟨cge p hp, (hC p hp).2.1, _, addC_y hp⟩
        · exact .inl (addC_n hp)
      have J3 := inv_add J3 hC
      have J3 : Inv X (pins ++ (F.X0.env.locals, nso') :: (F.X0.pn ++ ip')) σ2 (addC C s2.heap H1) { s2 with gens := G } := J3
      show wpAny _ _ (letOwnedTupleGo tg (.ref a) v) _ _ _
      rw [hlet]
      refine wpAny_pure ?_
      refine wpAny_passesOwn hp (wpAny_mono (keep_gen hg' hsus J3 fun s' I' => hg.run _ s' σ2 _ x v _ I' rv (item σ2 B ys x H1 _ (by rw [hi1]; exact hP0) c2 ho mx)) (fun _ s6 ⟨s6', ⟨σ6, H6, I6, q6⟩, g6, tr⟩ => ?_) fun e _ ⟨_, q, _⟩ => (hno _ _ q).elim)
      refine wpAny_passesOwn hp (wpAny_mono (keep_gen g6 hsus (tr I6) fun s' I' => hb.run _ s' σ6 H6 _ I' q6) (fun f s7 ⟨s7', q7, g7, tr7⟩ => ?_) fun e _ ⟨_, q, _⟩ => (hno _ _ q).elim)
      have again : ∀ {σ7 : L2.St} {H7 : Hp}, Inv X (pins ++ (F.X0.env.locals, nso') :: (F.X0.pn ++ ip')) σ7 H7 s7' → (∀ H'', MoreX n H'' H7 → CI σ7 H'') → (∀ a u, addC C s2.heap H1 a = some u → H7 a = some u) → P (ys.length + 1) → ∃ k, k < m ∧ Ahead X F n pins Q Er CI P g k s7 := fun {σ7 H7} I7 c7 x7 p7 => by
        have I7 := tr7 I7
        have sz : n ≤ s7.heap.objs.size := by
          have lt := Heap.lt_size (I7.pin _ (List.mem_append_right _ (List.mem_append_right _ List.mem_cons_self))).1
          have ab : b.1.heap.objs.size ≤ F.X0.env.locals := J.ok.above
          rw [hz] at ab
          exact Nat.le_of_lt (Nat.lt_of_le_of_lt ab lt)
        have ext : ∀ c, C c → H7 c = some (.ext fun h' => ∀ o, s2.heap.get? c = some o → h'.get? c = some o) := fun c hc => x7 c _ (addC_y hc)
        refine ⟨m', by omega, gs', ip', σ', H1, _, b, nso', σ7, dropC C H7, g7, hw', hz, sz, J4, e1, inv_drop I7 (fun c hc => ⟨_, ext c hc⟩), c7 _ fun p => ?_, fun p u q => ?_, hm', by rw [← hi2]; exact p7, fun x c q => ⟨fun o e => ?_, dropC_y ⟨x, q⟩⟩⟩
        · by_cases hp : C p
          · exact .inr ⟨cge p hp, dropC_y hp, _, ext p hp⟩
          · exact .inl (dropC_n hp).symm
        · have np : ¬ C p := fun hp => by rw [(hC p hp).2.1] at q; cases q
          rw [dropC_n np]
          exact x7 p u (by rw [addC_n np]; exact q)
        · have ok := I7.hok c _ (ext c ⟨x, q⟩)
          exact ok.1 o e
      cases f with
      | next => obtain ⟨σ7, H7, I7, c7, x7, p7⟩ := q7; exact again I7 c7 x7 p7
      | cont => obtain ⟨σ7, H7, I7, c7, x7, p7⟩ := q7; exact again I7 c7 x7 p7
      | brk => obtain ⟨σ7, H7, I7, q7⟩ := q7; exact ⟨σ7, H7, (tr7 I7).unpinned, q7⟩
      | ret v => obtain ⟨x7, σ7, H7, I7, r7, q7⟩ := q7; exact ⟨x7, σ7, H7, (tr7 I7).unpinned, r7, q7⟩
  · intro m' v s₁ gs' B ys x ip' σ' H1 σ2 b em hb c2 hcp rv hz J ns ho hwt J2 hsus
    refine ⟨m', gs', ip', σ', H1, σ2, b, s₁, x, B, ys, em, ?_, hsus, hwt, hz, ns, J, ⟨_, rfl⟩, J2, rv, c2, ho, ?_, ?_, ?_⟩
    · intro q
      exact setGen_at (by rw [setGen_size] at q; exact q)
    · have := hcap B ys x H1 ho
      omega
    · omega
    · omega
  · intro s₁ B ys σ2 H1 h' hc c2 J2 q hk
    refine ⟨σ2, H1, ?_, done σ2 B ys H1 (by rw [show ys.length = F.cap - m by omega]; exact hP0) c2 q⟩
    exact J2.call' (s' := { s₁.setGen g .finished with heap := h' }) (ch := []) rfl (Un.kept hk) (J2.hok.kept hk) (allBare_setGen J2.bare rfl) fun b z => by simp at z
end DG
set_option Elab.async false
set_option linter.all false
set_option maxRecDepth 100000
set_option maxHeartbeats 1000000
/-! DG10: a fresh generator waits; the for statement. -/
namespace DG
open PySem PySem.Spec PyProof.Rows L2 GenW
theorem waits_first {F : Fm} {A : Around} {body : List Stmt} {t : TGn2} {Q : Hp → List V → Hp → Prop} {Er : Value → Shared → Prop} {σg : L2.St} {H0 : Hp} (hA : A.deeper F.X0.env = F.X0.A) (hb : GSs2 F body t)
    (hx : ∀ s₀ b e s', F.ok s₀ b → F.xeF b e s' → wpAny (model F.X0.prog F.X0.w) F.X0.A (leaving F.X0.env e) (fun _ s'' => Er e s'') (fun _ _ => False) s')
    (ht : ∀ H', (∀ a u, H0 a = some u → H' a = some u) → t { nx := fun B ys _ H' => Q B ys H', rt := fun B ys v H' => v = .non ∧ Q B ys H' } H' [] σg H') : Waits F Q Er A (.fresh (.func body F.X0.env)) F.cap [] σg H0 :=
  fun b' s' ok I hx' => ⟨rfl, seg_first hA hb hx ok I (ht _ hx')⟩
/-- what the expression under the for must give: a generator that waits, and what its items bring about -/
def GenFor (X : Cx) (pins : List (Addr × Obj)) (gt : TG) (tb : TS) (D : Ends) (u : Value) (s1 : Shared) : Prop :=
  ∃ (F : Fm) (n : Nat) (Q : Hp → List V → Hp → Prop) (Er : Value → Shared → Prop) (CI : L2.St → Hp → Prop) (P : Nat → Prop) (a : Addr) (g m : Nat), u = .ref a ∧ Two X F n pins ∧ (∀ s b, F.ok s b ↔ b.1 = cutS n s ∧ n ≤ s.heap.objs.size ∧ ∃ σ, Inv X pins σ b.2 s ∧ CI σ b.2) ∧
    F.X0.env.locals ∉ X.fs ∧ (∀ h : Heap, (∀ p ∈ F.X0.pn, h.get? p.1 = some p.2) → h.IsGen a g) ∧ s1.heap.IsGen a g ∧ (∀ e s, ¬ Er e s) ∧ (∀ σ B ys x H1, CI σ B → F.out B ys x H1 → CI σ H1) ∧ (∀ B ys x H1, F.out B ys x H1 → ys.length + 1 < F.cap) ∧
    (∀ σ B ys x H1 H2, P ys.length → CI σ B → F.out B ys x H1 → MoreX n H1 H2 → gt x σ H2 fun σ2 H3 => tb { D with nx := fun σ' H' => (∀ H'', MoreX n H'' H' → CI σ' H'') ∧ (∀ a u, H2 a = some u → H' a = some u) ∧ P (ys.length + 1), ct := fun σ' H' => (∀ H'', MoreX n H'' H' → CI σ' H'') ∧ (∀ a u, H2 a = some u → H' a = some u) ∧ P (ys.length + 1), bk := D.nx } σ2 H3) ∧
    (∀ σ B ys H1, P ys.length → CI σ B → Q B ys H1 → D.nx σ H1) ∧ Ahead X F n pins Q Er CI P g m s1
theorem ps_forG {X : Cx} {x : Str} {p0 pos : Pos} {iter : Expr} {body : List Stmt} {gt : TG} {tb t : TS} (hfr : X.env.locals ∈ frs X.stack) (hsub : ∀ x ∈ X.fs, x ∈ frs X.stack) (hh : X.A.handled = none) (hroom : X.A.depth < recursionLimit)
    (hp : PassesOwn (model X.prog X.w) X.A X.env X.xe) (hg : PG X (.Name x p0) gt) (hb : PSs X body tb) (hno : ∀ e s, ¬ X.xe e s)
    (he : ∀ pins s σ H D, Inv X pins σ H s → t D σ H → wpAny (model X.prog X.w) X.A (eval iter X.env) (GenFor X pins gt tb D) X.xe s)
    (hs : ∀ x, foldedSetIterable iter X.env x = pure x) : PS X (.For (.Name x p0) iter body [] pos) t := by
  refine ⟨fun pins s σ H D I h => ?_⟩
  refine wpAny_For (wpAny_mono (he pins s σ H D I h) (fun u s1 hu => ?_) fun _ _ z => z) hs
  obtain ⟨F, n, Q, Er, CI, P, a, g, m, rfl, S, hok, hLf, hgen, isg, hEr, mono, hcap, item, done, ah⟩ := hu
  refine wpAny_pyIter_gen isg ?_
  exact loop_gen S hok hfr hsub hLf hh hroom hgen (fun v => rfl) hp hg hb hEr hno mono hcap item done m s1 ah
end DG
set_option Elab.async false
set_option linter.all false
set_option maxRecDepth 100000
set_option maxHeartbeats 1000000
/-! DG11: generator defs with for, for a consumer that walks them: the data layer's forms. -/
namespace DL
open PySem PySem.Spec PyProof.Rows L2 DG
section
/-- what stands still for the consumer: all that was made behind its entry, and its own -/
def fzB (B : Bs) (H : Hp) : Hp := fun p => match B.H p with
  | some _ => B.F p
  | none => H p
variable {K : PySem.W.Frag} {mg : Str → Option Value} {ex : EXP} {B : Bs} {F H H' : Hp} {σ : L2.St} {ρ : DEnv} {p : Addr}
theorem fzB_o {o : HO} (h : B.H p = some o) : fzB B H p = B.F p := by unfold fzB; rw [h]
theorem fzB_n (h : B.H p = none) : fzB B H p = H p := by unfold fzB; rw [h]
theorem fzB_le (f0 : Same B.F B.H) (h : Same B.H H) : Same (fzB B H) H := fun p o q => by
  cases z : B.H p with
  | none => rw [fzB_n z] at q; exact q
  | some u => rw [fzB_o z] at q; exact h _ _ (f0 _ _ q)
theorem fzB_mono (h : Same H H') : Same (fzB B H) (fzB B H') := fun p o q => by
  cases z : B.H p with
  | none => rw [fzB_n z] at q ⊢; exact h _ _ q
  | some u => rw [fzB_o z] at q ⊢; exact q
theorem fzB_ext (f0 : Same B.F B.H) (h : Same B.H H) (hh : Same H H') : Ext (fzB B H) H (fzB B H') H' := by
  refine ⟨fzB_mono hh, fzB_le f0 (h.trans hh), hh, fun p o q => ?_⟩
  cases z : B.H p with
  | none => rw [fzB_n z, fzB_n z, q]; exact hh _ _ q
  | some u => rw [fzB_o z, fzB_o z]
theorem fzB_of (E : EnvS K mg ex B F σ H ρ) : Same F (fzB B H) := fun p o q => by
  cases z : B.H p with
  | none => rw [fzB_n z]; exact E.fh _ _ q
  | some u => rw [fzB_o z, ← E.ag p u z]; exact q
/-- a generator's base at a wake -/
def wkB (B : Bs) (W : Hp) : Bs := ⟨fzB B W, W, B.τ⟩
theorem fzB_gen {W : Hp} (hW : Same B.H W) (E : EnvS K mg ex (wkB B W) F σ H ρ) : Same F (fzB B H) := fun p o q => by
  cases z : B.H p with
  | none => rw [fzB_n z]; exact E.fh _ _ q
  | some u =>
    have z2 := hW _ _ z
    have e := E.ag p u z2
    rw [q] at e
    have e : some o = fzB B W p := e
    rw [fzB_o z] at e ⊢
    exact e.symm
def demA (ρ : DEnv) : DEnv := ρ.map (demS true)
theorem demA_dem {S : List Nat} : demA (dem S ρ) = demA ρ := by
  apply List.ext_getElem?
  intro i
  unfold demA
  rw [List.getElem?_map, dem_get, List.getElem?_map]
  cases ρ[i]? with
  | none => rfl
  | some s =>
    show some (demS true (demS (S.contains i) s)) = some (demS true s)
    cases S.contains i <;> cases s <;> rfl
/-- a generator sleeps: all that it has stands still from now on -/
theorem EnvS.sleep {W : Hp} (hW : Same B.H W) (f0 : Same B.F B.H) (E : EnvS K mg none (wkB B W) F σ H ρ) (hh : Same H H') : EnvS K mg none (wkB B H') (fzB B H') σ H' (demA ρ) := by
  have sF : Same F (fzB B H') := (fzB_gen hW E).trans (fzB_mono hh)
  have hH : Same B.H H' := (hW.trans E.hh).trans hh
  have new : ∀ {a : Addr} {u : HO}, W a = none → H a = some u → fzB B H' a = some u := fun {a u} n q => by
    rw [fzB_n (hW.free n)]; exact hh _ _ q
  refine ⟨fzB_le f0 hH, Same.refl _, fzB_le f0 hH, Same.refl _, fun _ _ _ => rfl, ?_, fun i s hs => ?_, fun i j a s t h1 h2 o1 o2 => ?_⟩
  · unfold demA; rw [List.length_map]; exact E.len
  · unfold demA at hs
    rw [List.getElem?_map] at hs
    cases h0 : ρ[i]? with
    | none => rw [h0] at hs; cases hs
    | some s0 =>
      rw [h0] at hs
      have hs : demS true s0 = s := Option.some.inj hs
      have z := E.sl i s0 h0
      cases s0 with
      | un => subst hs; trivial
      | d d => subst hs; obtain ⟨v, a, b⟩ := z; exact ⟨v, a, b.mono sF⟩
      | exc x => subst hs; exact z.mono sF
      | own t xs =>
        subst hs
        obtain ⟨a, vs, a1, a2, a3, a4, a5, a6⟩ := z
        exact ⟨_, a1, .lst (SqL.of (new a3 a4)) (a5.mono sF)⟩
      | obo t c ns fs =>
        subst hs
        obtain ⟨a, C, dx, fv, a1, a2, a3, m, a4, n, a5, a6⟩ := z
        exact ⟨_, a1, .obj (dx := dx) m (new a3 a4) n (a5.mono sF)⟩
  · unfold demA at h1
    rw [List.getElem?_map] at h1
    cases h0 : ρ[i]? with
    | none => rw [h0] at h1; cases h1
    | some s0 =>
      rw [h0] at h1
      have hs : demS true s0 = s := Option.some.inj h1
      subst hs
      cases s0 <;> cases o1
end

/-- what a generator's statement comes to, woken again and again: W the heap map at the last wake, k items so far -/
def OutG2 (K : PySem.W.Frag) (mg : Str → Option Value) (B : Bs) (D : GEnds2) (Fb : Hp) (k : Nat) : SRes → Prop
  | .nx ρ => ∀ W F σ H ys, Same B.H W → Same Fb F → EnvS K mg none (wkB B W) F σ H ρ → ys.length = k → D.nx W ys σ H
  | .bk ρ => ∀ W F σ H ys, Same B.H W → Same Fb F → EnvS K mg none (wkB B W) F σ H ρ → ys.length = k → D.bk W ys σ H
  | .ct ρ => ∀ W F σ H ys, Same B.H W → Same Fb F → EnvS K mg none (wkB B W) F σ H ρ → ys.length = k → D.ct W ys σ H
  | .rt d => ∀ W F v H ys, Same B.H W → Same Fb F → Ext (fzB B W) W F H → Rep K mg F v d → ys.length = k → D.rt W ys v H
  | .er _ _ => False
  | .st => False
/-- its: all items that the generator hands out -/
def tGD2 (K : PySem.W.Frag) (mg : Str → Option Value) (B : Bs) (its : List D) (g : DEnv → GRes) : TGn2 := fun D W ys σ H => ∃ F ρ acc tl, Same B.F B.H ∧ Same B.H W ∧ EnvS K mg none (wkB B W) F σ H ρ ∧ acc.length = ys.length ∧ its = acc ++ ((g ρ).1 ++ tl) ∧ OutG2 K mg B D F (acc ++ (g ρ).1).length (g ρ).2
def outD (K : PySem.W.Frag) (mg : Str → Option Value) (B : Bs) (its : List D) : Hp → List V → V → Hp → Prop := fun W ys x H => Same B.H W ∧ Same W H ∧ ∃ d, its[ys.length]? = some d ∧ Rep K mg (fzB B H) x d
theorem OutG2.mono {K : PySem.W.Frag} {mg : Str → Option Value} {B : Bs} {D : GEnds2} {F F' : Hp} {k : Nat} {z : SRes} (h : OutG2 K mg B D F k z) (e : Same F F') : OutG2 K mg B D F' k z := by
  cases z with
  | nx ρ => exact fun W F σ H ys a b => h W F σ H ys a (e.trans b)
  | bk ρ => exact fun W F σ H ys a b => h W F σ H ys a (e.trans b)
  | ct ρ => exact fun W F σ H ys a b => h W F σ H ys a (e.trans b)
  | rt d => exact fun W F v H ys a b => h W F v H ys a (e.trans b)
  | er _ _ => exact h
  | st => exact h
theorem gs2_imp {F : Fm} {st : Stmt} {t t' : TGn2} (h : GS2 F st t) (i : ∀ D B ys σ H, t' D B ys σ H → t D B ys σ H) : GS2 F st t' :=
  ⟨fun A ip R b n ys s₀ c fs K J gd lv s σ H D hb g hn k I ht => h.run A ip R b n ys s₀ c fs K J gd lv s σ H D hb g hn k I (i _ _ _ _ _ ht)⟩
theorem gss2_imp {F : Fm} {st : List Stmt} {t t' : TGn2} (h : GSs2 F st t) (i : ∀ D B ys σ H, t' D B ys σ H → t D B ys σ H) : GSs2 F st t' :=
  ⟨fun A ip R b n ys s₀ c fs K J gd lv s σ H D hb g hn k I ht => h.run A ip R b n ys s₀ c fs K J gd lv s σ H D hb g hn k I (i _ _ _ _ _ ht)⟩
/-- the frame, as the data layer wants it: the consumer's base, all items -/
structure FmD (F : Fm) (B : Bs) (its : List D) : Prop where
  out : F.out = outD F.X0.K F.X0.mg B its
  cap : F.cap = its.length + 2
  sz : ∀ s₀ s₁ b b', F.ok s₀ b → F.ok s₁ b' → b.1.heap.objs.size = b'.1.heap.objs.size
abbrev W0 : WeX := We0 none
abbrev GSD2 (F : Fm) (B : Bs) (its : List D) (st : Stmt) (g : DEnv → GRes) : Prop := GS2 F st (tGD2 F.X0.K F.X0.mg B its g)
abbrev GSDs2 (F : Fm) (B : Bs) (its : List D) (st : List Stmt) (g : DEnv → GRes) : Prop := GSs2 F st (tGD2 F.X0.K F.X0.mg B its g)
section
variable {F : Fm} {B : Bs} {its : List D} {st : Stmt} {rest' : List Stmt} {g : DEnv → GRes} {S : List Nat} {pos yp : Pos} {e : PySem.Expr}
theorem gsd2_pl {f : DEnv → SRes} (h : ∀ s₀ b, F.ok s₀ b → SD (F.at b) false W0 st f) : GSD2 F B its st (gPl f) :=
  gs2_imp (gs2_ps (t := tS F.X0.K F.X0.mg false W0 f) h) fun D W ys σ H ⟨Fr, ρ, acc, tl, f0, hW, e, hl, hi, q⟩ => by
    have q : OutG2 F.X0.K F.X0.mg B D Fr (acc ++ []).length (f ρ) := q
    rw [List.append_nil, hl] at q
    refine ⟨(wkB B W).b2 Fr, Fr, ρ, e.base, ?_⟩
    cases hf : f ρ with
    | nx ρ' => rw [hf] at q; exact fun F2 σ2 H2 z => q W F2 σ2 H2 ys hW z.ff (e.unbase z) rfl
    | bk ρ' => rw [hf] at q; exact fun F2 σ2 H2 z => q W F2 σ2 H2 ys hW z.ff (e.unbase z) rfl
    | ct ρ' => rw [hf] at q; exact fun F2 σ2 H2 z => q W F2 σ2 H2 ys hW z.ff (e.unbase z) rfl
    | rt d =>
      rw [hf] at q
      exact fun F2 H2 v ex r => q W F2 v H2 ys hW ex.1 ⟨e.ff.trans ex.1, ex.2.1, fun p o z => ex.2.2.1 _ _ (base2_H e.ag e.f0 z), fun p o z => (ex.2.2.2 p o (base2_H e.ag e.f0 z)).trans (e.ag p o z)⟩ r rfl
    | er x ρ' => rw [hf] at q; exact q.elim
    | st => rw [hf] at q; exact q.elim
theorem gsd2_nil : GSDs2 F B its [] gNil := gss2_imp gss2_nil fun D W ys σ H ⟨Fr, ρ, acc, tl, f0, hW, e, hl, hi, q⟩ => by
  have q : OutG2 F.X0.K F.X0.mg B D Fr (acc ++ []).length (.nx ρ) := q
  rw [List.append_nil, hl] at q
  exact q W Fr σ H ys hW (Same.refl _) e rfl
theorem gsd2_cons {f : DEnv → GRes} (h1 : GSD2 F B its st f) (h2 : GSDs2 F B its rest' g) : GSDs2 F B its (st :: rest') (gSeq f g) :=
  gss2_imp (gss2_cons h1 h2) fun D W ys σ H ⟨Fr, ρ, acc, tl, f0, hW, e, hl, hi, q⟩ => by
    unfold gSeq at q hi
    cases hf : f ρ with
    | mk a z =>
      rw [hf] at q hi
      cases z with
      | nx ρ' =>
        refine ⟨Fr, ρ, acc, (g ρ').1 ++ tl, f0, hW, e, hl, ?_, ?_⟩
        · rw [hf]
          have hi : its = acc ++ (a ++ (g ρ').1 ++ tl) := hi
          rw [hi, List.append_assoc]
        · rw [hf]
          intro W' F' σ' H' ys' hW' sF e' hl'
          refine ⟨F', ρ', acc ++ a, tl, f0, hW', e', hl'.symm, ?_, ?_⟩
          · have hi : its = acc ++ (a ++ (g ρ').1 ++ tl) := hi
            rw [hi, List.append_assoc, List.append_assoc]
          · have q : OutG2 F.X0.K F.X0.mg B D Fr (acc ++ (a ++ (g ρ').1)).length (g ρ').2 := q
            rw [List.append_assoc]
            exact q.mono sF
      | bk ρ' => exact ⟨Fr, ρ, acc, tl, f0, hW, e, hl, by rw [hf]; exact hi, by rw [hf]; exact q⟩
      | ct ρ' => exact ⟨Fr, ρ, acc, tl, f0, hW, e, hl, by rw [hf]; exact hi, by rw [hf]; exact q⟩
      | rt d => exact ⟨Fr, ρ, acc, tl, f0, hW, e, hl, by rw [hf]; exact hi, by rw [hf]; exact q⟩
      | er x ρ' => exact ⟨Fr, ρ, acc, tl, f0, hW, e, hl, by rw [hf]; exact hi, by rw [hf]; exact q⟩
      | st => exact ⟨Fr, ρ, acc, tl, f0, hW, e, hl, by rw [hf]; exact hi, by rw [hf]; exact q⟩
def gYd2 (f : DEnv → Res D) : DEnv → GRes := fun ρ => match f ρ with
  | .ok d => ([d], .nx (demA ρ))
  | .er x => ([], .er x ρ)
  | .st => ([], .st)
theorem gsd2_yield (Z : FmD F B its) {fe : DEnv → Res D} (he : ∀ s₀ b, F.ok s₀ b → PD (F.at b) W0 S e fe) (hco : F.X0.env.scope.isCoroutine = false := by rfl) (hi : interactive F.X0.env = false := by rfl) : GSD2 F B its (.Expr (.Yield (some e) yp) pos) (gYd2 fe) := by
  refine gs2_imp (gs2_yield (te := tG F.X0.K F.X0.mg W0 (RD F.X0.K F.X0.mg) S fe) he hco hi) fun D W ys σ H ⟨Fr, ρ, acc, tl, f0, hW, e, hl, hi, q⟩ => ?_
  obtain ⟨Fp, h1, h2, h3, h4⟩ := e.fz S
  unfold gYd2 at q hi
  have hlen : ys.length < F.cap := by
    rw [Z.cap, hi, List.length_append, hl]; omega
  refine ⟨hlen, Fp, ρ, h1, h2, ?_⟩
  cases hf : fe ρ with
  | st => rw [hf] at q; exact q.elim
  | er x => rw [hf] at q; exact q.elim
  | ok d =>
    rw [hf] at q hi
    intro F' H' v ex rv
    have e3 := h3 F' H' ex
    refine ⟨?_, fun H'' hs => ?_⟩
    · rw [Z.out]
      refine ⟨hW, e3.hh, d, ?_, rv.mono (fzB_gen hW e3)⟩
      have hi : its = acc ++ ([d] ++ tl) := hi
      rw [hi, ← hl, List.getElem?_append_right (Nat.le_refl _), Nat.sub_self]
      rfl
    · have e4 := EnvS.sleep hW f0 e3 hs
      rw [demA_dem] at e4
      have hHW : Same B.H H'' := (hW.trans e3.hh).trans hs
      refine q H'' (fzB B H'') σ H'' (ys ++ [v]) hHW ?_ e4 ?_
      · exact (fzB_gen hW e).trans (fzB_mono (ex.2.2.1.trans hs))
      · rw [List.length_append, List.length_append, hl]; rfl
/-- for in a generator def -/
def gForL (sl : List Nat) (g : D → Option (List D)) (fb : DEnv → GRes) : List D → DEnv → GRes
  | [], ρ => ([], .nx ρ)
  | d :: ds, ρ => match g d with
    | none => ([], .st)
    | some vs => match fb (setAll ρ sl (vs.map Slot.d)) with
      | (a, .nx ρ') => (a ++ (gForL sl g fb ds ρ').1, (gForL sl g fb ds ρ').2)
      | (a, .ct ρ') => (a ++ (gForL sl g fb ds ρ').1, (gForL sl g fb ds ρ').2)
      | (a, .bk ρ') => (a, .nx ρ')
      | r => r
def gFor (S sl : List Nat) (fi : DEnv → Res (List D)) (g : D → Option (List D)) (fb : DEnv → GRes) : DEnv → GRes := fun ρ => match fi ρ with
  | .ok ds => gForL sl g fb ds (dem S ρ)
  | .er x => ([], .er x ρ)
  | .st => ([], .st)
theorem gsd2_for {sl : List Nat} {tg iter : PySem.Expr} {fi : DEnv → Res (List D)} {gg : D → Option (List D)} {body : List Stmt} {fb : DEnv → GRes} (Z : FmD F B its) (hp : ∀ s₀ b, F.ok s₀ b → PassesOwn (model F.X0.prog F.X0.w) F.X0.A F.X0.env (F.xeF b)) (hc : F.X0.calm = true)
    (hi : ∀ s₀ b, F.ok s₀ b → ID (F.at b) W0 S tg iter fi) (hg : ∀ s₀ b, F.ok s₀ b → GD (F.at b) tg sl gg) (hgl : ∀ d ds, gg d = some ds → ds.length = sl.length) (hb : GSDs2 F B its body fb)
    (hs : ∀ x, foldedSetIterable iter F.X0.env x = pure x := by intro _; rfl) : GSD2 F B its (.For tg iter body [] pos) (gFor S sl fi gg fb) := by
  refine gs2_imp (gs2_for (wi := tG F.X0.K F.X0.mg W0 (RI F.X0.K F.X0.mg) S fi) (g := tT F.X0.K F.X0.mg sl gg) Z.sz hp hc hi (fun s₀ b h => (hg s₀ b h).1) hb hs) fun D W ys σ H ⟨Fr, ρ, acc, tl, f0, hW, e, hl, hit, q⟩ => ?_
  obtain ⟨Fp, h1, h2, h3, h4⟩ := e.base.fz S
  refine ⟨Fp, ρ, h1, h2, ?_⟩
  unfold gFor at q hit
  cases hf : fi ρ with
  | st => rw [hf] at q; exact q.elim
  | er x => rw [hf] at q; exact q.elim
  | ok ds =>
    rw [hf] at q hit
    intro F' H' J ex rj
    have rj : ItD F.X0.K F.X0.mg J F' ds := rj
    have e3 := e.unbase (h3 F' H' ex)
    have q := q.mono (show Same Fr F' from (h3 F' H' ex).ff)
    have q : OutG2 F.X0.K F.X0.mg B D F' (acc ++ (gForL sl gg fb ds (dem S ρ)).1).length (gForL sl gg fb ds (dem S ρ)).2 := q
    have hit : its = acc ++ ((gForL sl gg fb ds (dem S ρ)).1 ++ tl) := hit
    refine ⟨fun i m W ys σ H => m = ds.length - i ∧ i ≤ ds.length ∧ ∃ Fc ρ acc, Same B.H W ∧ Same F' Fc ∧ EnvS F.X0.K F.X0.mg none (wkB B W) Fc σ H ρ ∧ acc.length = ys.length ∧ its = acc ++ ((gForL sl gg fb (ds.drop i) ρ).1 ++ tl) ∧ OutG2 F.X0.K F.X0.mg B D Fc (acc ++ (gForL sl gg fb (ds.drop i) ρ).1).length (gForL sl gg fb (ds.drop i) ρ).2,
      ⟨ds.length, by simp, Nat.zero_le _, F', dem S ρ, acc, hW, Same.refl _, e3, hl, hit, q⟩, ?_⟩
    clear q hit e3 h1 h2 h3 h4 e hl hW hf
    rintro i m W ys σ H ⟨rfl, hi', Fc, ρ, acc, hW, sF, e, hl, hit, q⟩
    obtain ⟨j1, j2⟩ := rj i Fc H sF e.fh
    by_cases hlt : i < ds.length
    · right
      have hd : ds[i]? = some ds[i] := List.getElem?_eq_getElem hlt
      obtain ⟨go, yl⟩ := j2 _ hd
      refine ⟨go, fun W ys σ' H' => ∃ Fc ρ acc, Same B.H W ∧ Same F' Fc ∧ EnvS F.X0.K F.X0.mg none (wkB B W) Fc σ' H' ρ ∧ acc.length = ys.length ∧ its = acc ++ ((gForL sl gg fb (ds.drop (i + 1)) ρ).1 ++ tl) ∧ OutG2 F.X0.K F.X0.mg B D Fc (acc ++ (gForL sl gg fb (ds.drop (i + 1)) ρ).1).length (gForL sl gg fb (ds.drop (i + 1)) ρ).2,
        fun W' ys' σ' H' n => ⟨ds.length - (i + 1), by omega, rfl, hlt, n⟩, fun x H' y => ?_⟩
      obtain ⟨F2, ex2, rx⟩ := yl x H' y
      rw [List.drop_eq_getElem_cons hlt] at q hit
      unfold gForL at q hit
      have e' := e.grow ex2
      cases hgd : gg ds[i] with
      | none => rw [hgd] at q; exact q.elim
      | some vs =>
        rw [hgd] at q hit
        refine ⟨F2, ds[i], vs, e'.fh, rx, hgd, hgl _ _ hgd, fun us ru => ?_⟩
        have e2 := EnvS.setAll sl us vs e' ru
        have sF2 : Same Fc F2 := ex2.1
        dsimp only at q hit
        cases hfb : fb (setAll ρ sl (vs.map Slot.d)) with
        | mk a z =>
          rw [hfb] at q hit
          have more : ∀ ρ' : DEnv, its = acc ++ (a ++ (gForL sl gg fb (ds.drop (i + 1)) ρ').1 ++ tl) → OutG2 F.X0.K F.X0.mg B D Fc (acc ++ (a ++ (gForL sl gg fb (ds.drop (i + 1)) ρ').1)).length (gForL sl gg fb (ds.drop (i + 1)) ρ').2 →
              ∀ (W : Hp) (F3 : Hp) (σ : L2.St) (H : Hp) (ys : List V), Same B.H W → Same F2 F3 → EnvS F.X0.K F.X0.mg none (wkB B W) F3 σ H ρ' → ys.length = (acc ++ a).length →
              ∃ Fc ρ acc, Same B.H W ∧ Same F' Fc ∧ EnvS F.X0.K F.X0.mg none (wkB B W) Fc σ H ρ ∧ acc.length = ys.length ∧ its = acc ++ ((gForL sl gg fb (ds.drop (i + 1)) ρ).1 ++ tl) ∧ OutG2 F.X0.K F.X0.mg B D Fc (acc ++ (gForL sl gg fb (ds.drop (i + 1)) ρ).1).length (gForL sl gg fb (ds.drop (i + 1)) ρ).2 := fun ρ' hit q W F3 σ H ys hW s3 e3 hl3 => by
            refine ⟨F3, ρ', acc ++ a, hW, (sF.trans sF2).trans s3, e3, hl3.symm, ?_, ?_⟩
            · rw [hit, List.append_assoc, List.append_assoc]
            · rw [List.append_assoc]; exact q.mono (sF2.trans s3)
          cases z with
          | nx ρ' =>
            refine ⟨F2, _, acc, (gForL sl gg fb (ds.drop (i + 1)) ρ').1 ++ tl, f0, hW, e2, hl, ?_, ?_⟩
            · rw [hfb]
              have hit : its = acc ++ (a ++ (gForL sl gg fb (ds.drop (i + 1)) ρ').1 ++ tl) := hit
              rw [hit, List.append_assoc]
            · rw [hfb]
              exact fun W F3 σ H ys hW s3 e3 hl3 => more ρ' hit q W F3 σ H ys hW s3 e3 hl3
          | ct ρ' =>
            refine ⟨F2, _, acc, (gForL sl gg fb (ds.drop (i + 1)) ρ').1 ++ tl, f0, hW, e2, hl, ?_, ?_⟩
            · rw [hfb]
              have hit : its = acc ++ (a ++ (gForL sl gg fb (ds.drop (i + 1)) ρ').1 ++ tl) := hit
              rw [hit, List.append_assoc]
            · rw [hfb]
              exact fun W F3 σ H ys hW s3 e3 hl3 => more ρ' hit q W F3 σ H ys hW s3 e3 hl3
          | bk ρ' => exact ⟨F2, _, acc, tl, f0, hW, e2, hl, by rw [hfb]; exact hit, by rw [hfb]; exact q.mono sF2⟩
          | rt d => exact ⟨F2, _, acc, tl, f0, hW, e2, hl, by rw [hfb]; exact hit, by rw [hfb]; exact q.mono sF2⟩
          | er x ρ' => exact q.elim
          | st => exact q.elim
    · left
      have ei : i = ds.length := by omega
      refine ⟨j1 ei, ?_⟩
      rw [List.drop_eq_nil_of_le (by omega)] at q
      have q : OutG2 F.X0.K F.X0.mg B D Fc (acc ++ []).length (.nx ρ) := q
      rw [List.append_nil, hl] at q
      exact q W Fc σ H ys hW (Same.refl _) e rfl
end
end DL
set_option Elab.async false
set_option linter.all false
set_option maxRecDepth 100000
set_option maxHeartbeats 1000000
/-! DG12: for over a call of a generator def: the data layer's statement. -/
namespace DL
open PySem PySem.Spec PyProof.Rows L2 DG GenW
/-- nothing may leave the code -/
abbrev qX (X : Cx) : Cx := { X with xe := fun _ _ => False }
theorem inv_xe {X : Cx} {pins : List (Addr × Obj)} {σ : L2.St} {H : Hp} {s : Shared} {xe : Value → Shared → Prop} (I : Inv X pins σ H s) : Inv { X with xe := xe } pins σ H s :=
  ⟨⟨I.ok.mod, I.ok.kind, I.ok.glob, I.ok.blt, I.ok.above, I.ok.inj, I.ok.has, I.ok.cab, I.ok.hd, I.ok.frames, I.ok.stk, I.ok.exf, I.ok.bs, I.ok.bsz, I.ok.noex, I.ok.exfs, I.ok.funs, I.ok.frf⟩, I.os, I.bare, I.base, I.loc, I.cell, I.free, I.freeC, I.pin, I.hok, I.len⟩
theorem inv_xe' {X : Cx} {pins : List (Addr × Obj)} {σ : L2.St} {H : Hp} {s : Shared} {xe : Value → Shared → Prop} (I : Inv { X with xe := xe } pins σ H s) : Inv X pins σ H s :=
  ⟨⟨I.ok.mod, I.ok.kind, I.ok.glob, I.ok.blt, I.ok.above, I.ok.inj, I.ok.has, I.ok.cab, I.ok.hd, I.ok.frames, I.ok.stk, I.ok.exf, I.ok.bs, I.ok.bsz, I.ok.noex, I.ok.exfs, I.ok.funs, I.ok.frf⟩, I.os, I.bare, I.base, I.loc, I.cell, I.free, I.freeC, I.pin, I.hok, I.len⟩
/-- a statement that raises nothing -/
def quiet (f : DEnv → SRes) : DEnv → SRes := fun ρ => match f ρ with
  | .er _ _ => .st
  | r => r
theorem sd_quiet {X : Cx} {fr : Bool} {We : WeX} {st : Stmt} {f : DEnv → SRes} (h : SD (qX X) fr (We0 We.ex) st f) : SD X fr We st (quiet f) := by
  refine ⟨fun pins s σ H D I ⟨B, F, ρ, e, q⟩ => ?_⟩
  refine wpAny_mono (h.run pins s σ H D (inv_xe I) ⟨B, F, ρ, e, ?_⟩) (fun f s' hs => ?_) fun _ _ z => z.elim
  · unfold quiet at q
    cases hf : f ρ with
    | nx ρ' => rw [hf] at q; exact q
    | bk ρ' => rw [hf] at q; exact q
    | ct ρ' => rw [hf] at q; exact q
    | rt d => rw [hf] at q; exact q
    | er x ρ' => rw [hf] at q; exact q.elim
    | st => rw [hf] at q; exact q.elim
  · cases f with
    | next => obtain ⟨σ', H', J, q⟩ := hs; exact ⟨σ', H', inv_xe' J, q⟩
    | brk => obtain ⟨σ', H', J, q⟩ := hs; exact ⟨σ', H', inv_xe' J, q⟩
    | cont => obtain ⟨σ', H', J, q⟩ := hs; exact ⟨σ', H', inv_xe' J, q⟩
    | ret u => obtain ⟨v, σ', H', J, r, q⟩ := hs; exact ⟨v, σ', H', inv_xe' J, r, q⟩
/-- what a call of a generator def makes -/
theorem call_gen {P : Program} {w : World} {K : PySem.W.Frag} {mg : Str → Option Value} {base : Heap} {k : Nat} {f : Addr} {name qual : Str} {params : Arguments} {body : List Stmt} {scope : Scope} {dV kV doc pm cdv ct oc : Value} {an od : Option Addr}
    {osl : Array (Option Value)} {N ps : List Str} (lk : K.lookup f = some ⟨oc, od, .func (PySem.W.fnOf name qual params body scope dV kV doc pm an cdv ct), osl⟩) (hcd : PySem.W.codeIn K cdv qual = true) (S : GScope N ps scope)
    {A : Around} {outer : List Env} {s : Shared} {H : Hp} {args : Args} {us : List Value} {vs : List V} (hr : Room (k + 1) A) (e0 : Env0 P w K mg base A outer s H) (hb : BindsTo s (PySem.W.fnOf name qual params body scope dV kV doc pm an cdv ct) args (ps.zip us)) (r : Vals vs us) (hl : vs.length = ps.length) :
    codeAny (model P w) A (.call (.ref f) args) (fun r s' => ∃ (a : Addr) (gi : Nat) (go : Obj), r = .ok (.ret (.ref a)) ∧ (∀ h : Heap, h.get? a = some go → h.IsGen a gi) ∧ s'.gens[gi]? = some (.fresh (.func body (envOfC qual scope s.heap.objs.size f cdv))) ∧ (∀ b o, s.heap.get? b = some o → s'.heap.get? b = some o) ∧ s'.os = s.os ∧ AllBare s'.gens ∧ s'.heap.get? a = some go ∧
      ∀ (A' : Around) (E : XK), A'.frames = some outer → A'.handled = none → Inv (gcxOf P w K mg base N qual scope f cdv A' outer s H E [(a, go)]) [] (start N vs) H s') s := by
  have KX : K.In s.heap := e0.mod.kin.keeps fun b o e => (e0.bs b o e).1
  have lim : s.heap.NoLimit := e0.mod.nolimit.keeps fun b o e => (e0.bs b o e).1
  have hkind : ∀ y ∈ ps.zip us, scope.names.lookup y.1 = some .local ∨ (scope.names.lookup y.1 = some .cell ∧ ((cellsFrom (s.heap.objs.size + 1) scope.names []).lookup y.1).isSome = true) := fun ⟨n, v⟩ hy => by
    rcases S.par n (List.of_mem_zip hy).1 with q | q
    · exact .inl q
    · exact .inr ⟨q, PySem.W.cellsFrom_some _ _ _ (.inl q)⟩
  refine codeAny_call_generator hr.depth (KX _ _ lk) rfl S.co S.gen rfl (PySem.W.codeRec_of KX hcd) (hb _ _ _ _ ?_)
  refine wpAny_newFunctionEnv_cells S.kind hkind fun env he s1 x => ?_
  subst he
  have lim1 : s1.heap.NoLimit := lim.keeps x.toInCall.keep
  refine ⟨lim1, ?_⟩
  obtain ⟨h1, tk, es1, hk1⟩ := x.done
  have os1 : s1.os = s.os := by rw [es1]
  have gen1 : s1.gens = s.gens := by rw [es1]
  have lt1 : s.heap.objs.size < s1.heap.objs.size := x.toInCall.ns.lt
  have kp1 : ∀ b o, s.heap.get? b = some o → s1.heap.get? b = some o := x.toInCall.keep
  have main : ∀ (go : Obj) (nm qn : Value) (tk2 : Nat), go.cls = .type "generator" → go.data = .fields #[.int s1.gens.size 0, nm, qn] → go.slots = #[] → (∀ h : Heap, (h.push go).get? h.objs.size = some go) →
      ∃ (a : Addr) (gi : Nat) (go' : Obj), (Except.ok (.ret (.ref s1.heap.objs.size)) : Result) = .ok (.ret (.ref a)) ∧ (∀ h : Heap, h.get? a = some go' → h.IsGen a gi) ∧ ({ s1 with gens := s1.gens.push (.fresh (.func body (envOfC qual scope s.heap.objs.size f cdv))), toks := tk2, heap := s1.heap.push go } : Shared).gens[gi]? = some (.fresh (.func body (envOfC qual scope s.heap.objs.size f cdv))) ∧
        (∀ b o, s.heap.get? b = some o → (s1.heap.push go).get? b = some o) ∧ s1.os = s.os ∧ AllBare (s1.gens.push (.fresh (.func body (envOfC qual scope s.heap.objs.size f cdv)))) ∧ (s1.heap.push go).get? a = some go' ∧
        ∀ (A' : Around) (E : XK), A'.frames = some outer → A'.handled = none → Inv (gcxOf P w K mg base N qual scope f cdv A' outer s H E [(a, go')]) [] (start N vs) H { s1 with gens := s1.gens.push (.fresh (.func body (envOfC qual scope s.heap.objs.size f cdv))), toks := tk2, heap := s1.heap.push go } := by
    intro go nm qn tk2 hgc hgd0 hgs hgp
    have hgen : ∀ h : Heap, h.get? s1.heap.objs.size = some go → h.IsGen s1.heap.objs.size s1.gens.size := fun h e => ⟨go, nm, qn, e, hgc, hgd0, hgs⟩
    have hpushed : (s1.heap.push go).get? s1.heap.objs.size = some go := hgp _
    have hba : AllBare (s1.gens.push (.fresh (.func body (envOfC qual scope s.heap.objs.size f cdv)))) := AllBare.push (by rw [gen1]; exact e0.bare) rfl
    refine ⟨s1.heap.objs.size, s1.gens.size, go, rfl, hgen, Array.getElem?_push_size .., fun b o e => Heap.get?_push_of_some _ (kp1 b o e), os1, hba, hpushed, fun A' E hfr hh => ?_⟩
    have e0w : Env0 P w K mg base A' outer s H := ⟨hfr, e0.mod, e0.bs, e0.bsz, e0.funs, e0.frf, e0.hok, e0.bare⟩
    have I1 : Inv (gcxOf P w K mg base N qual scope f cdv A' outer s H E []) [] (start N vs) H s1 := inv_startG S hh e0w hl r x
    have kp2 : ∀ b o, s1.heap.get? b = some o → (s1.heap.push go).get? b = some o := fun b o e => Heap.get?_push_of_some _ e
    have I2 : Inv (gcxOf P w K mg base N qual scope f cdv A' outer s H E []) [] (start N vs) H { s1 with gens := s1.gens.push (.fresh (.func body (envOfC qual scope s.heap.objs.size f cdv))), toks := tk2, heap := s1.heap.push go } :=
      I1.call' (ch := []) rfl (Un.kept kp2) (I1.hok.kept kp2) hba fun b z => by simp at z
    refine Inv.pinnedG I2 fun p hp => ?_
    rw [List.append_nil] at hp
    rw [List.mem_singleton.mp hp]
    exact ⟨hpushed, I1.hok.fresh (Nat.le_refl _), Nat.ne_of_gt lt1, I1.nofs (Nat.le_refl _), fun v q => by rw [hgd0] at q; cases q⟩
  exact main _ _ _ _ rfl rfl rfl fun h => Heap.get?_push_size _ rfl
/-- a generator's frame, for the consumer -/
abbrev frG (P : Program) (w : World) (K : PySem.W.Frag) (mg : Str → Option Value) (base : Heap) (N : List Str) (qual : Str) (scope : Scope) (f : Addr) (cd : Value) (A : Around) (outer : List Env) (s : Shared) (H : Hp) (pn : List (Addr × Obj)) (ok : Shared → Shared × Hp → Prop) (out : Hp → List V → V → Hp → Prop) (cap : Nat) : Fm :=
  ⟨qX (gcxOf P w K mg base N qual scope f cd A outer s H (fun _ _ _ => False) pn), fun _ _ _ => False, ok, out, cap⟩
/-- a generator def's promise to one who walks it -/
structure FnW (P : Program) (w : World) (K : PySem.W.Frag) (mg : Str → Option Value) (base : Heap) (k : Nat) (f : Addr) (fd : FuncData) (x qual : Str) (st : Stmt) (N ps : List Str) (g : DEnv → GRes) : Prop where
  fn : Fun K x qual st f fd
  sc : GScope N ps (defScope st)
  body : ∀ (cdv : Value) (A : Around) (outer : List Env) (s : Shared) (H : Hp) (pn : List (Addr × Obj)) (ok : Shared → Shared × Hp → Prop) (out : Hp → List V → V → Hp → Prop) (cap : Nat) (B : Bs) (its : List D),
    Room k (A.deeper (envOfC qual (defScope st) s.heap.objs.size f cdv)) → FmD (frG P w K mg base N qual (defScope st) f cdv A outer s H pn ok out cap) B its → GSDs2 (frG P w K mg base N qual (defScope st) f cdv A outer s H pn ok out cap) B its (defBody st) g
/-- the items, then what the body comes to -/
def forGL (i : Nat) (fb : DEnv → SRes) : List D → DEnv → SRes
  | [], ρ => .nx (ρ.set i .un)
  | d :: ds, ρ => match fb (ρ.set i (.d d)) with
    | .nx _ => forGL i fb ds ρ
    | .ct _ => forGL i fb ds ρ
    | .bk ρ' => .nx ρ'
    | r => r
def noOwn (ρ : DEnv) : Bool := ρ.all fun s => !s.isO
def sForGe (i n : Nat) (m : List D → Res (List D)) (ga : DEnv → Res (List D)) (fb : DEnv → SRes) : DEnv → SRes := fun ρ => if noOwn ρ then match ga ρ with
  | .ok ds => if ds.length = n then (match m ds with
    | .ok its => forGL i fb its ρ
    | _ => .st) else .st
  | _ => .st else .st
theorem dem_noOwn {S : List Nat} {ρ : DEnv} (h : noOwn ρ = true) : dem S ρ = ρ := by
  apply List.ext_getElem?
  intro i
  rw [dem_get]
  cases hs : ρ[i]? with
  | none => rfl
  | some s =>
    have := List.all_eq_true.mp h s (List.mem_of_getElem? hs)
    cases s <;> first | rfl | cases this
theorem noOwn_at {ρ : DEnv} (h : noOwn ρ = true) {i : Nat} {s : Slot} (hs : ρ[i]? = some s) : s.isO = false := by
  have := List.all_eq_true.mp h s (List.mem_of_getElem? hs)
  cases s <;> first | rfl | cases this
section
variable {K : PySem.W.Frag} {mg : Str → Option Value} {ex : EXP} {B : Bs} {F H H' : Hp} {σ : L2.St} {ρ : DEnv}
theorem EnvS.setU (e : EnvS K mg ex B F σ H ρ) (i : Nat) : EnvS K mg ex B F σ H (ρ.set i .un) := by
  refine ⟨e.f0, e.ff, e.fh, e.hh, e.ag, by rw [List.length_set]; exact e.len, fun j s h => ?_, fun j k a s t h1 h2 o1 o2 h3 h4 => ?_⟩
  · rcases set_get h with ⟨_, rfl, _⟩ | ⟨_, h⟩
    · trivial
    · exact e.sl j s h
  · rcases set_get h1 with ⟨_, rfl, _⟩ | ⟨_, h1⟩
    · cases o1
    · rcases set_get h2 with ⟨_, rfl, _⟩ | ⟨_, h2⟩
      · cases o2
      · exact e.ap j k a s t h1 h2 o1 o2 h3 h4
/-- with nothing of its own: all that was made stands still -/
theorem EnvS.fzA (e : EnvS K mg ex B F σ H ρ) (n : noOwn ρ = true) : EnvS K mg ex B (fzB B H) σ H ρ := by
  have sF := fzB_of e
  refine ⟨e.f0, e.ff.trans sF, fzB_le e.f0 e.hh, e.hh, fun p o q => fzB_o q, e.len, fun i s h => ?_, e.ap⟩
  have z := e.sl i s h
  have no := noOwn_at n h
  cases s with
  | un => trivial
  | d d => obtain ⟨v, a, b⟩ := z; exact ⟨v, a, b.mono sF⟩
  | exc x => exact z.mono sF
  | own t xs => cases no
  | obo t c ns fs => cases no
theorem noOwn_set {i : Nat} {s : Slot} (n : noOwn ρ = true) (o : s.isO = false) : noOwn (ρ.set i s) = true := by
  refine List.all_eq_true.mpr fun t ht => ?_
  rcases List.mem_or_eq_of_mem_set ht with h | h
  · exact List.all_eq_true.mp n t h
  · subst h; rw [o]; rfl
/-- a base cut to H1: what is tracked by now -/
theorem base_same (e : EnvS K mg ex B (fzB B H) σ H ρ) : Same H (B.b2 (fzB B H)).H := fun p o q => by
  show base2 (fzB B H) B.H p = some o
  unfold base2
  cases z : B.H p with
  | none => rw [fzB_n z, q]
  | some u =>
    rw [fzB_o z]
    have h1 := e.hh _ _ z
    rw [q] at h1
    cases h1
    cases zf : B.F p with
    | none => rfl
    | some u' => have := e.f0 _ _ zf; rw [z] at this; exact this.symm
end
end DL
set_option Elab.async false
set_option linter.all false
set_option maxRecDepth 100000
set_option maxHeartbeats 1000000
/-! DG13: for over a call of a generator def. -/
namespace DL
open PySem PySem.Spec PyProof.Rows L2 DG GenW
section
variable {K : PySem.W.Frag} {mg : Str → Option Value} {B : Bs} {F H H' : Hp} {σ : L2.St} {ρ : DEnv} {i : Nat} {fb : DEnv → SRes} {its : List D}
theorem forGL_step {d : D} {ds : List D} (h : (∃ ρ', fb (ρ.set i (.d d)) = .nx ρ') ∨ ∃ ρ', fb (ρ.set i (.d d)) = .ct ρ') : forGL i fb (d :: ds) ρ = forGL i fb ds ρ := by
  rcases h with ⟨ρ', h⟩ | ⟨ρ', h⟩ <;> simp only [forGL, h]
end
mutual
/-- known by a predicate only: nothing leans on that -/
theorem Rep.lessX {K : PySem.W.Frag} {mg : Str → Option Value} {F F' : Hp} (e : ∀ p o, F p = some o → (∃ φ, o = .ext φ) ∨ F' p = some o) : ∀ (d : D) (v : V), Rep K mg F v d → Rep K mg F' v d
  | .non, _, h => by cases h; exact .non
  | .bl b, _, h => by cases h; exact .bl b
  | .int i, _, h => by cases h; exact .int i
  | .str x, _, h => by cases h; exact .str x
  | .lst ds, _, h => by
    cases h with
    | lst a c =>
      refine .lst ?_ (RepAll.lessX e ds _ c)
      rcases a with (a | ⟨o, a⟩) | a
      · rcases e _ _ a with ⟨_, q⟩ | q
        · cases q
        · exact .inl (.inl q)
      · rcases e _ _ a with ⟨_, q⟩ | q
        · cases q
        · exact .inl (.inr ⟨o, q⟩)
      · exact .inr a
  | .tup ds, _, h => by
    cases h with
    | tup a c =>
      refine .tup ?_ (RepAll.lessX e ds _ c)
      rcases a with (a | ⟨o, a⟩) | a
      · rcases e _ _ a with ⟨_, q⟩ | q
        · cases q
        · exact .inl (.inl q)
      · rcases e _ _ a with ⟨_, q⟩ | q
        · cases q
        · exact .inl (.inr ⟨o, q⟩)
      · exact .inr a
  | .obj c ns ds, _, h => by
    cases h with
    | obj a c m r =>
      rcases e _ _ c with ⟨_, q⟩ | q
      · cases q
      · exact .obj a q m (RepAll.lessX e ds _ r)
theorem RepAll.lessX {K : PySem.W.Frag} {mg : Str → Option Value} {F F' : Hp} (e : ∀ p o, F p = some o → (∃ φ, o = .ext φ) ∨ F' p = some o) : ∀ (ds : List D) (vs : List V), RepAll K mg F vs ds → RepAll K mg F' vs ds
  | [], _, h => by cases h; exact .nil
  | d :: ds, _, h => by
    cases h with
    | cons a c => exact .cons (Rep.lessX e d _ a) (RepAll.lessX e ds _ c)
end
theorem ExcOk.lessX {K : PySem.W.Frag} {mg : Str → Option Value} {ex : EXP} {F F' : Hp} {y : Option (Option V)} {x : Exn} (h : ExcOk K mg ex F y x) (e : ∀ p o, F p = some o → (∃ φ, o = .ext φ) ∨ F' p = some o) : ExcOk K mg ex F' y x := by
  obtain ⟨a, C, d, h1, h2, h3, h4⟩ := h
  refine ⟨a, C, d, h1, h2, h3, ?_⟩
  rcases h4 with h4 | ⟨dx, fv, k1, k2, k3⟩
  · exact .inl h4
  · rcases e _ _ k2 with ⟨_, q⟩ | q
    · cases q
    · exact .inr ⟨dx, fv, k1, q, k3⟩
theorem EnvS.drop {K : PySem.W.Frag} {mg : Str → Option Value} {ex : EXP} {B : Bs} {H H' : Hp} {σ : L2.St} {ρ : DEnv} {n : Nat} (e : EnvS K mg ex B (fzB B H) σ H ρ) (no : noOwn ρ = true) (hn : ∀ p : Addr, n ≤ p → B.H p = none) (m : MoreX n H' H) : EnvS K mg ex B (fzB B H') σ H' ρ := by
  have hH : Same B.H H' := fun p o q => by
    have q2 := e.hh _ _ q
    rcases m p with z | ⟨z, _⟩
    · rw [← z]; exact q2
    · rw [hn p z] at q; cases q
  have le : ∀ p o, fzB B H p = some o → (∃ φ, o = .ext φ) ∨ fzB B H' p = some o := fun p o q => by
    cases z : B.H p with
    | some u => rw [fzB_o z] at q ⊢; exact .inr q
    | none =>
      rw [fzB_n z] at q ⊢
      rcases m p with y | ⟨_, _, φ, y⟩
      · exact .inr (by rw [← y]; exact q)
      · rw [q] at y; cases y; exact .inl ⟨φ, rfl⟩
  refine ⟨e.f0, fun p o q => ?_, fzB_le e.f0 hH, hH, fun p o q => fzB_o q, e.len, fun i s h => ?_, e.ap⟩
  · have := e.f0 _ _ q
    rw [fzB_o this]; exact q
  · have z := e.sl i s h
    have no := noOwn_at no h
    cases s with
    | un => trivial
    | d d => obtain ⟨v, a, b⟩ := z; exact ⟨v, a, b.lessX le⟩
    | exc x => exact ExcOk.lessX z le
    | own t xs => cases no
    | obo t c ns fs => cases no
theorem sd_forG {X : Cx} {fr : Bool} {ex : EXP} {xv fname qual : Str} {st : Stmt} {p p0 pos pos' : Pos} {e : PySem.Expr} {es : List PySem.Expr} {body : List Stmt} {i j k : Nat} {fb : DEnv → SRes} {ga : DEnv → Res (List D)} {S : List Nat} {f : Addr} {fd : FuncData} {N ps : List Str} {g : DEnv → GRes}
    (hX : ∀ e s, ¬ X.xe e s) (hr : Room (k + 2) X.A) (hjk : j ≤ k) (W : FnW X.prog X.w X.K X.mg X.base j f fd fname qual st N ps g) (hm : X.mg fname = some (.ref f)) (hk : PySem.W.keepIn X.K (.ref f) = true) (hbd : Binds X.K fd ps [])
    (ha : PAD X (We0 ex) S (e :: es) ga) (hg : GD X (.Name xv p0) [i] g1) (hb : SDs X fr (We0 ex) body fb) (hkeep : ∀ ρ ρ', (fb ρ = .nx ρ' ∨ fb ρ = .ct ρ') → ρ' = ρ)
    (hfr : X.env.locals ∈ frs X.stack) (hsub : ∀ x ∈ X.fs, x ∈ frs X.stack) (hgl : Gl X fname := by rfl) (hdb : (fname == ("__debug__" : Str)) = false := by decide) (he : starEach (e :: es) X.env = (false, eval e X.env) :: starEach es X.env := by rfl) (hpl : (backTo pos' (starEach es X.env)).any (·.1) = false := by rfl)
    (hs : ∀ x, foldedSetIterable (.Call (.Name fname p) (e :: es) [] pos') X.env x = pure x := by intro _; rfl) :
    SD X fr (We0 ex) (.For (.Name xv p0) (.Call (.Name fname p) (e :: es) [] pos') body [] pos) (sForGe i ps.length (mG N.length g) ga fb) := by
  have hroom : X.A.depth < recursionLimit := hr.depth
  refine ps_forG hfr hsub hr.hd hroom (fun e s h => (hX e s h).elim) hg.1 hb hX ?_ hs
  rintro pins s σ H D I ⟨B, F0, ρ, E, q⟩
  unfold sForGe at q
  cases hno : noOwn ρ with
  | false => rw [hno, if_neg Bool.false_ne_true] at q; exact q.elim
  | true =>
  rw [hno, if_pos rfl] at q
  refine wpAny_Call_Name_kw (ld_glob I hgl hm ?_ hdb)
  obtain ⟨Fp, f1, f2, f3, f4⟩ := E.fz S
  cases hga : ga ρ with
  | er x => rw [hga] at q; exact q.elim
  | st => rw [hga] at q; exact q.elim
  | ok ds =>
  rw [hga] at q
  dsimp only at q
  by_cases hl : ds.length = ps.length
  case neg => rw [if_neg hl] at q; exact q.elim
  rw [if_pos hl] at q
  cases hm2 : mG N.length g ds with
  | er x => rw [hm2] at q; exact q.elim
  | st => rw [hm2] at q; exact q.elim
  | ok its =>
  rw [hm2] at q
  have q : OutS X.K X.mg fr (We0 ex) B D (forGL i fb its ρ) := q
  refine PySem.W.callWith_K (h₀ := X.base) I.ok.mod.kin hk (thn (ha.run pos' pins s σ H (fun vs H1 => ∃ F1, RepAll X.K X.mg F1 vs ds ∧ EnvS X.K X.mg ex B F1 σ H1 ρ) I ⟨Fp, ρ, f1, f2, ?_⟩) fun us s1 ⟨vs, H1, I1, rv, F1, ra, E1⟩ => ⟨I1.kIn, ?_⟩) he hpl
  · rw [hga]
    intro F' H' vs exx r
    have := f3 F' H' exx
    rw [dem_noOwn hno] at this
    exact ⟨F', r, this⟩
  obtain ⟨oc, od, kV, doc, pm, an, cdv, ct, osl, rfl, lk, hcd⟩ := W.fn.ex
  have hvl : vs.length = ps.length := by rw [ra.length]; exact hl
  have hul : us.length = ps.length := by rw [← rv.length]; exact hvl
  have hbb := hbd s1 us I1.kIn (by rw [List.append_nil]; exact hul)
  rw [List.append_nil] at hbb
  refine wpAny_call (codeAny_mono (call_gen lk hcd W.sc (k := j) (hr.mono (by omega)) I1.env0 hbb rv hvl) fun r s2 ⟨a, gi, go, er, hgen, hgens, kp, os2, ba2, hgo, inv2⟩ => ?_)
  subst er
  -- the frame
  let n := s1.heap.objs.size
  let CI : L2.St → Hp → Prop := fun σ' H' => EnvS X.K X.mg ex B (fzB B H') σ' H' (ρ.set i .un)
  let ok : Shared → Shared × Hp → Prop := fun s b => b.1 = cutS n s ∧ n ≤ s.heap.objs.size ∧ ∃ σ, Inv X pins σ b.2 s ∧ CI σ b.2
  let Fr : Fm := frG X.prog X.w X.K X.mg X.base N qual (defScope st) f cdv X.A.in1 X.stack s1 H1 [(a, go)] ok (outD X.K X.mg B its) (its.length + 2)
  let Q : Hp → List V → Hp → Prop := fun W ys H => Same W H ∧ ys.length = its.length
  have f0 : Same B.F B.H := E.f0
  have hZ : FmD Fr B its := ⟨rfl, rfl, fun s₀ s₁ b b' h1 h2 => by
    obtain ⟨e1, n1, _⟩ := h1
    obtain ⟨e2, n2, _⟩ := h2
    rw [e1, e2]
    exact (cut_size n1).trans (cut_size n2).symm⟩
  have hA1 : Room j (X.A.in1.deeper (envOfC qual (defScope st) s1.heap.objs.size f cdv)) := ((hr.in1).mono (by omega : j + 1 ≤ k + 1)).deeper _
  have hbody : GSDs2 Fr B its (defBody st) g := W.body cdv X.A.in1 X.stack s1 H1 [(a, go)] ok (outD X.K X.mg B its) (its.length + 2) B its hA1 hZ
  have frm : X.A.in1.frames = some X.stack := I1.ok.frames
  have hh1 : X.A.in1.handled = none := hr.hd
  have Ig : Inv (Fr.at (s1, H1)) [] (start N vs) H1 s2 := (inv_xe (xe := fun _ _ => False) (inv2 X.A.in1 (fun _ _ _ => False) frm hh1) :)
  have I2 : Inv X pins σ H1 s2 := I1.call' (ch := []) os2 (Un.kept kp) (I1.hok.kept kp) ba2 fun b z => by simp at z
  have ltn : ∀ {b : Addr} {o : Obj}, s1.heap.get? b = some o → b < n := fun {b o} q => Heap.lt_size q
  have S2 : Two X Fr n pins := by
    refine ⟨rfl, rfl, rfl, rfl, rfl, rfl, rfl, I1.sz, I1.lt, fun x c q => ?_, fun p hp => ltn (I1.pin p hp).1, fun x => rfl⟩
    · obtain ⟨v, o, ho, _⟩ := I1.cell x c q
      exact ltn ho
  have hLf : Fr.X0.env.locals ∉ X.fs := I1.nofs (Nat.le_refl _)
  have hn2 : n ≤ s2.heap.objs.size := by
    have lt := I1.lt
    rcases Nat.lt_or_ge s2.heap.objs.size n with z | z
    · exfalso
      have hL : n - 1 < s1.heap.objs.size := by show s1.heap.objs.size - 1 < _; omega
      obtain ⟨o, ho⟩ : ∃ o, s2.heap.get? (n : Nat) = some o := by
        obtain ⟨m, ⟨o, _, _, ho, _⟩, _⟩ := Ig.loc
        exact ⟨o, ho⟩
      have := Heap.lt_size ho
      have this : n < s2.heap.objs.size := this
      omega
    · exact z
  obtain ⟨nso, hns, I3⟩ := pin_frame (b := (s1, H1)) S2 rfl Ig I2 hfr hsub hLf
  have ci1 : CI σ H1 := (E1.fzA hno).setU i
  have hBH : Same B.H H1 := E1.hh
  have hBn : ∀ p : Addr, n ≤ p → B.H p = none := fun p hp => hBH.free (I1.hok.fresh hp)
  have grow : ∀ {σ : L2.St} {Wk H2 : Hp}, CI σ Wk → Same Wk H2 → CI σ H2 := fun {σ Wk H2} c s => EnvS.grow c (fzB_ext f0 c.hh s)
  -- what the body of the generator promises
  have hits : ∃ z, g (ds.map Slot.d ++ List.replicate (N.length - ds.length) .un) = (its, z) ∧ (∃ ρ', z = .nx ρ') ∨ g (ds.map Slot.d ++ List.replicate (N.length - ds.length) .un) = (its, .rt .non) := by
    unfold mG at hm2
    cases hgg : g (ds.map Slot.d ++ List.replicate (N.length - ds.length) .un) with
    | mk ys z =>
      rw [hgg] at hm2
      have key : ∀ z : SRes, (if ys.length ≤ lim then Res.ok ys else Res.st) = Res.ok its → ys = its := fun _ e => by
        by_cases hy : ys.length ≤ lim
        · rw [if_pos hy] at e; cases e; rfl
        · rw [if_neg hy] at e; cases e
      cases z with
      | nx ρ' => obtain rfl := key .st hm2; exact ⟨_, .inl ⟨rfl, ρ', rfl⟩⟩
      | rt d =>
        cases d with
        | non => obtain rfl := key .st hm2; exact ⟨.st, .inr rfl⟩
        | _ => cases hm2
      | bk ρ => cases hm2
      | ct ρ => cases hm2
      | er x ρ => cases hm2
      | st => cases hm2
  have start2 : ∀ H', Same H1 H' → tGD2 Fr.X0.K Fr.X0.mg B its g { nx := fun W ys _ H' => Q W ys H', rt := fun W ys v H' => v = .non ∧ Q W ys H' } H' [] (start N vs) H' := fun H' hs' => by
    have hB' : Same B.H H' := hBH.trans hs'
    have sF : Same F1 (fzB B H') := (fzB_of E1).trans (fzB_mono hs')
    have es : EnvS X.K X.mg none ⟨fzB B H', H', fun _ => 0⟩ (fzB B H') (start N vs) H' (ds.map Slot.d ++ List.replicate (N.length - ds.length) .un) := envS_start (fzB_le f0 hB') (ra.mono sF)
    have es : EnvS X.K X.mg none (wkB B H') (fzB B H') (start N vs) H' (ds.map Slot.d ++ List.replicate (N.length - ds.length) .un) := ⟨es.f0, es.ff, es.fh, es.hh, es.ag, es.len, (fun j s hs => by
      have z := es.sl j s hs
      have no : s.isO = false := by
        by_cases hj : j < ds.length
        · rw [List.getElem?_append_left (by simpa using hj), List.getElem?_map] at hs
          cases hd : ds[j]? with
          | none => rw [hd] at hs; cases hs
          | some d => rw [hd] at hs; cases hs; rfl
        · rw [List.getElem?_append_right (by simpa using hj), List.getElem?_replicate] at hs
          split at hs
          · cases hs; rfl
          · cases hs
      cases s with
      | un => trivial
      | d d => exact z
      | exc x => exact z
      | own t xs => cases no
      | obo t c ns fs => cases no), es.ap⟩
    obtain ⟨z, hz⟩ := hits
    rcases hz with ⟨hz, ρ', rfl⟩ | hz
    · refine ⟨fzB B H', _, [], [], f0, hB', es, rfl, by rw [hz]; simp, ?_⟩
      rw [hz]
      exact fun W F σ H ys hW sF e hl => ⟨e.hh, by simpa using hl⟩
    · refine ⟨fzB B H', _, [], [], f0, hB', es, rfl, by rw [hz]; simp, ?_⟩
      rw [hz]
      exact fun W F v H ys hW sF e r hl => ⟨by cases r; rfl, e.2.2.1, by simpa using hl⟩
  refine ⟨Fr, n, Q, fun _ _ => False, CI, fun kk => forGL i fb its ρ = forGL i fb (its.drop kk) ρ, a, gi, its.length + 2, rfl, S2, fun _ _ => Iff.rfl, hLf, fun h hp => hgen h (hp (a, go) (List.mem_singleton.mpr rfl)), hgen _ hgo, fun _ _ z => z, ?_, ?_, ?_, ?_, ?_⟩
  · intro σ Wk ys x H2 c o
    exact grow c o.2.1
  · intro Wk ys x H2 ⟨_, _, d, hd, _⟩
    have := (List.getElem?_eq_some_iff.mp hd).1
    show ys.length + 1 < its.length + 2
    omega
  · intro σ Wk ys x H20 H2 hP c ⟨_, sW, d, hd, rx⟩ mx
    have c2 : CI σ H2 := grow c (sW.trans mx.same)
    have rx : Rep X.K X.mg (fzB B H2) x d := rx.mono (fzB_mono mx.same)
    have hlt := (List.getElem?_eq_some_iff.mp hd).1
    refine ⟨fzB B H2, d, [d], c2.fh, rx, rfl, rfl, fun ws rw' => ?_⟩
    obtain ⟨w, rfl, rw1⟩ := rw'.one
    have e2 : EnvS X.K X.mg ex B (fzB B H2) (σ.set i (some w)) H2 (ρ.set i (.d d)) := by
      have := c2.set rw1 i
      rw [List.set_set] at this
      exact this
    have hdrop : its.drop ys.length = d :: its.drop (ys.length + 1) := by
      rw [List.drop_eq_getElem_cons hlt]
      rw [List.getElem?_eq_getElem hlt] at hd
      cases hd
      rfl
    refine ⟨B.b2 (fzB B H2), fzB B H2, ρ.set i (.d d), e2.base, ?_⟩
    have hP : forGL i fb its ρ = forGL i fb (its.drop ys.length) ρ := hP
    rw [hP, hdrop] at q
    have back : ∀ F σ H ρ', ρ' = ρ.set i (.d d) → EnvS X.K X.mg ex (B.b2 (fzB B H2)) F σ H ρ' → (∀ H'', MoreX n H'' H → CI σ H'') ∧ (∀ a u, H2 a = some u → H a = some u) := fun F σ H ρ' eρ e3 => by
      subst eρ
      have e4 := e2.unbase e3
      refine ⟨fun H'' m => ?_, fun a u q => e3.hh _ _ (base_same e2 a u q)⟩
      have e5 := (e4.fzA (noOwn_set hno rfl)).setU i
      rw [List.set_set] at e5
      exact e5.drop (noOwn_set hno rfl) hBn m
    cases hfb : fb (ρ.set i (.d d)) with
    | nx ρ' =>
      have eρ := hkeep _ _ (.inl hfb)
      exact fun F σ H e3 => ⟨(back F σ H ρ' eρ e3).1, (back F σ H ρ' eρ e3).2, by rw [hP, hdrop, forGL_step (.inl ⟨ρ', hfb⟩)]⟩
    | ct ρ' =>
      have eρ := hkeep _ _ (.inr hfb)
      exact fun F σ H e3 => ⟨(back F σ H ρ' eρ e3).1, (back F σ H ρ' eρ e3).2, by rw [hP, hdrop, forGL_step (.inr ⟨ρ', hfb⟩)]⟩
    | bk ρ' =>
      unfold forGL at q
      rw [hfb] at q
      exact fun F σ H e3 => q F σ H (e2.unbase e3)
    | rt v =>
      unfold forGL at q
      rw [hfb] at q
      exact OutS.base e2 q
    | er x ρ' =>
      unfold forGL at q
      rw [hfb] at q
      exact OutS.base e2 q
    | st =>
      unfold forGL at q
      rw [hfb] at q
      exact q.elim
  · intro σ Wk ys H2 hP c ⟨sW, hlen⟩
    have hP : forGL i fb its ρ = forGL i fb (its.drop ys.length) ρ := hP
    rw [hP, hlen, List.drop_length] at q
    exact q (fzB B H2) σ H2 (grow c sW)
  · refine ⟨_, [], start N vs, H1, s2, (s1, H1), nso, σ, H1, hgens, waits_first rfl hbody (fun _ _ _ _ _ z => z.elim) start2, rfl, hn2, Ig, hns, I3, ci1, fun _ _ q => q, by show 0 < its.length + 2; omega, ?_, fun x c q => ⟨fun _ e => e, Ig.freeC x c q⟩⟩
    show forGL i fb its ρ = forGL i fb (its.drop (its.length + 2 - (its.length + 2))) ρ
    rw [Nat.sub_self, List.drop_zero]
end DL
set_option Elab.async false
set_option linter.all false
set_option maxRecDepth 100000
set_option maxHeartbeats 1000000
/-! DG14: what the printed walks say of a for over a generator. -/
namespace DL
open PySem PySem.Spec PyProof.Rows L2 DG GenW
theorem st_fr {X : Cx} (h1 : X.stack = X.env :: X.outer) (h2 : X.env.frame = some X.env.locals) : X.env.locals ∈ frs X.stack := by
  rw [h1]; unfold frs; rw [List.filterMap_cons, h2]; exact List.mem_cons_self
theorem st_sub {X : Cx} (h1 : X.stack = X.env :: X.outer) (h2 : X.env.frame = some X.env.locals) : ∀ x ∈ X.fs, x ∈ frs X.stack := fun x hx => by
  rw [h1]; unfold frs; rw [List.filterMap_cons, h2]; exact List.mem_cons_of_mem _ hx
theorem ret_no {S : List Nat} {f : DEnv → Res D} : ∀ ρ ρ', ¬ (sRet S f ρ = .nx ρ' ∨ sRet S f ρ = .ct ρ') := fun ρ ρ' h => by
  unfold sRet after at h
  cases hf : f ρ <;> rw [hf] at h <;> rcases h with h | h <;> cases h
theorem keep_if {c : DEnv → Res Bool} {f : DEnv → SRes} (hf : ∀ ρ ρ', ¬ (f ρ = .nx ρ' ∨ f ρ = .ct ρ')) : ∀ ρ ρ', (sIf c f sNil ρ = .nx ρ' ∨ sIf c f sNil ρ = .ct ρ') → ρ' = ρ := fun ρ ρ' h => by
  unfold sIf after at h
  cases hc : c ρ with
  | er x => rw [hc] at h; rcases h with h | h <;> cases h
  | st => rw [hc] at h; rcases h with h | h <;> cases h
  | ok b =>
    rw [hc] at h
    cases b with
    | true => exact absurd h (hf ρ ρ')
    | false => rcases h with h | h
               · cases h; rfl
               · cases h
theorem g1_len : ∀ d ds, g1 d = some ds → ds.length = 1 := fun d ds h => by cases h; rfl
end DL
set_option Elab.async false
set_option linter.all false
set_option maxRecDepth 100000
set_option maxHeartbeats 1000000
/-! DM1: mirrors reckoned out: equations for simp. -/
namespace DL
open PySem PySem.Spec PyProof.Rows L2
section
variable {α β γ : Type} {f g h : DEnv → SRes} {ρ ρ' : DEnv} {S : List Nat} {i n : Nat} {d x y : D} {e : Exn}
@[simp] theorem bind_ok {a : α} {k : α → Res β} : (Res.ok a).bind k = k a := id rfl
@[simp] theorem bind_er {k : α → Res β} : (Res.er e : Res α).bind k = .er e := id rfl
@[simp] theorem bind_st {k : α → Res β} : (Res.st : Res α).bind k = .st := id rfl
@[simp] theorem bindN_okE {a : α} {k : α → Res β} : (Res.ok a).bindN k = k a := id rfl
@[simp] theorem sSeq_ap : sSeq f g ρ = (f ρ).seq g := id rfl
@[simp] theorem seq_nx : (SRes.nx ρ).seq g = g ρ := id rfl
@[simp] theorem seq_rt : (SRes.rt d).seq g = .rt d := id rfl
@[simp] theorem seq_bk : (SRes.bk ρ).seq g = .bk ρ := id rfl
@[simp] theorem seq_ct : (SRes.ct ρ).seq g = .ct ρ := id rfl
@[simp] theorem seq_er : (SRes.er e ρ).seq g = .er e ρ := id rfl
@[simp] theorem seq_st : (SRes.st).seq g = .st := id rfl
@[simp] theorem sNil_ap : sNil ρ = .nx ρ := id rfl
@[simp] theorem after_ok {a : β} {k : β → SRes} : after (.ok a) ρ k = k a := id rfl
@[simp] theorem after_er {k : β → SRes} : after (.er e : Res β) ρ k = .er e ρ := id rfl
@[simp] theorem after_st {k : β → SRes} : after (.st : Res β) ρ k = .st := id rfl
@[simp] theorem rest_f {c : Bool → Bool} {k : DEnv → SRes} : rest false S c ρ k = k (dem S ρ) := id rfl
@[simp] theorem rest_t {c : Bool → Bool} {k : DEnv → SRes} : rest true S c ρ k = if c (hasO S ρ) then k ρ else .st := id rfl
@[simp] theorem sAsg_ap {k : Bool} {fe : DEnv → Res D} : sAsg k S i fe ρ = after (fe ρ) ρ fun d => rest k S (fun b => d.nlx b) ρ fun ρ' => .nx (ρ'.set i (.d d)) := id rfl
@[simp] theorem sAsgF_ap {k : Bool} {fe : DEnv → Res (List D)} : sAsgF k S i fe ρ = after (fe ρ) ρ fun xs => rest k S (fun b => nlxs b xs) ρ fun ρ' => .nx (ρ'.set i (.own false xs)) := id rfl
@[simp] theorem sIf_ap {c : DEnv → Res Bool} : sIf c f g ρ = after (c ρ) ρ fun b => if b then f ρ else g ρ := id rfl
@[simp] theorem sRet_ap {fe : DEnv → Res D} : sRet S fe ρ = after (fe ρ) ρ fun d => .rt d := id rfl
@[simp] theorem sRetF_ap {fe : DEnv → Res (List D)} : sRetF S fe ρ = after (fe ρ) ρ fun xs => .rt (.lst xs) := id rfl
@[simp] theorem sRetN_ap : sRetN ρ = .rt .non := id rfl
@[simp] theorem sBk_ap : sBk ρ = .bk ρ := id rfl
@[simp] theorem sCt_ap : sCt ρ = .ct ρ := id rfl
@[simp] theorem sApp_ap {k : Bool} {fe : DEnv → Res D} : sApp k S i fe ρ = match ρ[i]? with
  | some (.own _ _) => after (fe ρ) ρ fun d => rest k S (fun b => d.nlx b) ρ fun ρ' => match ρ'[i]? with
    | some (.own t xs) => if xs.length < lim then .nx (ρ'.set i (.own t (xs ++ [d]))) else .st
    | _ => .st
  | _ => .st := id rfl
@[simp] theorem sRetO_ap : sRetO i ρ = match ρ[i]? with
  | some (.own _ xs) => .rt (.lst xs)
  | _ => .st := id rfl
theorem cDiv_ok {a b : Int} (h : 0 < b) (h2 : b < 1073741824) : cDiv a b = true := by
  unfold cDiv
  rw [decide_eq_true (by omega), decide_eq_true (by omega)]
  rfl
theorem cMod_ok {a b : Int} (h : 0 < b) : cMod a b = true := decide_eq_true (by omega)
theorem cMul_l {a b : Int} (h : -big < a) (h2 : a < big) : cMul a b = true := by
  unfold big at h h2
  unfold cMul
  rw [decide_eq_true (by omega)]
  rfl
theorem cPow_of {a b : Int} (h : 0 ≤ b) (h2 : b ≤ 1000000) (h3 : -big < a) (h4 : a < big) : cPow a b = true := by
  unfold big at h3 h4
  unfold cPow
  rw [decide_eq_true h, decide_eq_true (by omega), decide_eq_true (by omega)]
  rfl
theorem cShr_ok {a b : Int} (h : 0 ≤ b) : cShr a b = true := decide_eq_true h
theorem bor_nn (a b : Nat) : Builtin.bitOr (a : Int) (b : Int) = ((a ||| b : Nat) : Int) := by
  rw [Bits.bitOr_pp (Int.natCast_nonneg a) (Int.natCast_nonneg b), Int.toNat_natCast, Int.toNat_natCast]
theorem band_nn (a b : Nat) : Builtin.bitAnd (a : Int) (b : Int) = ((a &&& b : Nat) : Int) := by
  rw [bitAnd_pp (Int.natCast_nonneg a) (Int.natCast_nonneg b), Int.toNat_natCast, Int.toNat_natCast]
theorem lim_lt {n : Nat} (h : n ≤ 10000) : n < lim := Nat.lt_of_le_of_lt h (by decide)
/-- dem by places -/
def demI (S : List Nat) : Nat → DEnv → DEnv
  | _, [] => []
  | i, s :: ρ => demS (S.contains i) s :: demI S (i + 1) ρ
theorem dem_shift : ∀ (ρ : DEnv) (j : Nat), (ρ.mapIdx fun i s => demS (S.contains (i + j)) s) = demI S j ρ
  | [], _ => rfl
  | s :: ρ, j => by
    rw [List.mapIdx_cons, demI, Nat.zero_add]
    congr 1
    rw [← dem_shift ρ (j + 1)]
    congr 1
    funext i s
    rw [Nat.add_right_comm, Nat.add_assoc]
@[simp] theorem dem_eq : dem S ρ = demI S 0 ρ := dem_shift ρ 0
@[simp] theorem demI_nil : demI S i [] = [] := id rfl
@[simp] theorem demI_cons {s : Slot} : demI S i (s :: ρ) = demS (S.contains i) s :: demI S (i + 1) ρ := id rfl
@[simp] theorem demS_d {b : Bool} : demS b (.d d) = .d d := id rfl
@[simp] theorem demS_un {b : Bool} : demS b .un = .un := id rfl
@[simp] theorem demS_ot {t : Bool} {xs : List D} : demS true (.own t xs) = .d (.lst xs) := id rfl
@[simp] theorem demS_of {t : Bool} {xs : List D} : demS false (.own t xs) = .own t xs := id rfl
@[simp] theorem demS_bt {t : Bool} {c : Str} {ns : List Str} {fs : List D} : demS true (.obo t c ns fs) = .d (.obj c ns fs) := id rfl
@[simp] theorem demS_bf {t : Bool} {c : Str} {ns : List Str} {fs : List D} : demS false (.obo t c ns fs) = .obo t c ns fs := id rfl
@[simp] theorem demS_ff {s : Slot} : demS false s = s := by cases s <;> rfl
/-- a slot's value -/
def slotV : Option Slot → Res D
  | some s => match s.val with
    | some d => .ok d
    | none => .st
  | none => .st
@[simp] theorem eVar_ap : eVar i ρ = slotV ρ[i]? := by
  unfold eVar slotV
  cases ρ[i]? <;> rfl
@[simp] theorem slotV_d : slotV (some (.d d)) = .ok d := id rfl
@[simp] theorem slotV_own {t : Bool} {xs : List D} : slotV (some (.own t xs)) = .ok (.lst xs) := id rfl
@[simp] theorem slotV_obo {t : Bool} {c : Str} {ns : List Str} {fs : List D} : slotV (some (.obo t c ns fs)) = .ok (.obj c ns fs) := id rfl
@[simp] theorem eC_ap : eC d ρ = .ok d := id rfl
@[simp] theorem e2_ap {o : D → D → Res β} {a b : DEnv → Res D} : e2 o a b ρ = (a ρ).bind fun x => (b ρ).bind fun y => o x y := id rfl
@[simp] theorem e1_ap {o : D → Res β} {a : DEnv → Res D} : e1 o a ρ = (a ρ).bind o := id rfl
@[simp] theorem e3_ap {o : D → Option Int → Option Int → Res β} {a : DEnv → Res D} {l h : DEnv → Res (Option Int)} : e3 o a l h ρ = (a ρ).bind fun x => (l ρ).bind fun p => (h ρ).bind fun q => o x p q := id rfl
@[simp] theorem eNoP_ap : eNoP ρ = .ok none := id rfl
@[simp] theorem eP_ap {a : DEnv → Res D} : eP a ρ = (a ρ).bind asP := id rfl
@[simp] theorem asP_int {j : Int} : asP (.int j) = .ok (some j) := id rfl
@[simp] theorem eCh_ap {o o' : D → D → Res D} {a b c : DEnv → Res D} : eCh o o' a b c ρ = (a ρ).bind fun x => (b ρ).bind fun y => (o x y).bind fun k => match k with
  | .bl true => (c ρ).bind fun z => o' y z
  | .bl false => .ok (.bl false)
  | _ => .st := id rfl
@[simp] theorem asB_bl {b : Bool} : asB (.bl b) = .ok b := id rfl
@[simp] theorem eB_ap {a : DEnv → Res D} : eB a ρ = (a ρ).bind asB := id rfl
@[simp] theorem eTru_ap {a : DEnv → Res D} : eTru a ρ = (a ρ).bind truth := id rfl
@[simp] theorem truth_bl {b : Bool} : truth (.bl b) = .ok b := id rfl
@[simp] theorem truth_int {j : Int} : truth (.int j) = .ok (j != 0) := id rfl
@[simp] theorem truth_non : truth .non = .ok false := id rfl
@[simp] theorem truth_lst {xs : List D} : truth (.lst xs) = .ok (!xs.isEmpty) := id rfl
@[simp] theorem truth_tup {xs : List D} : truth (.tup xs) = .ok (!xs.isEmpty) := id rfl
@[simp] theorem eAnd_ap {a b : DEnv → Res Bool} : eAnd a b ρ = (a ρ).bind fun k => if k then b ρ else .ok false := id rfl
@[simp] theorem eOr_ap {a b : DEnv → Res Bool} : eOr a b ρ = (a ρ).bind fun k => if k then .ok true else b ρ := id rfl
@[simp] theorem eNot_ap {a : DEnv → Res Bool} : eNot a ρ = (a ρ).bind fun k => .ok (!k) := id rfl
@[simp] theorem eIf_ap {c : DEnv → Res Bool} {a b : DEnv → Res β} : eIf c a b ρ = (c ρ).bind fun k => if k then a ρ else b ρ := id rfl
@[simp] theorem eAndV_ap {a b : DEnv → Res D} : eAndV a b ρ = (a ρ).bind fun x => (asB x).bind fun k => if k then b ρ else .ok (.bl false) := id rfl
@[simp] theorem eOrV_ap {a b : DEnv → Res D} : eOrV a b ρ = (a ρ).bind fun x => (asB x).bind fun k => if k then .ok (.bl true) else b ρ := id rfl
@[simp] theorem eNotV_ap {a : DEnv → Res D} : eNotV a ρ = (a ρ).bind fun x => (asB x).bind fun k => .ok (.bl (!k)) := id rfl
@[simp] theorem eNil_ap : eNil ρ = .ok [] := id rfl
@[simp] theorem eCons_ap {a : DEnv → Res D} {r : DEnv → Res (List D)} : eCons a r ρ = (a ρ).bind fun x => (r ρ).bind fun xs => .ok (x :: xs) := id rfl
@[simp] theorem eTup_ap {r : DEnv → Res (List D)} : eTup r ρ = (r ρ).bind fun xs => (okLen xs).bind fun ys => .ok (.tup ys) := id rfl
@[simp] theorem eLst_ap {r : DEnv → Res (List D)} : eLst r ρ = (r ρ).bind okLen := id rfl
@[simp] theorem eFz_ap {r : DEnv → Res (List D)} : eFz r ρ = (r ρ).bind fun xs => .ok (.lst xs) := id rfl
theorem okLen_le {xs : List D} (h : xs.length ≤ lim) : okLen xs = .ok xs := if_pos h
@[simp] theorem okLen0 : okLen [] = .ok [] := id rfl
@[simp] theorem okLen1 {a : D} : okLen [a] = .ok [a] := id rfl
@[simp] theorem okLen2 {a b : D} : okLen [a, b] = .ok [a, b] := id rfl
@[simp] theorem okLen3 {a b c : D} : okLen [a, b, c] = .ok [a, b, c] := id rfl
@[simp] theorem okLen4 {a b c d : D} : okLen [a, b, c, d] = .ok [a, b, c, d] := id rfl
@[simp] theorem okLen8 {a b c d e f g h : D} : okLen [a, b, c, d, e, f, g, h] = .ok [a, b, c, d, e, f, g, h] := id rfl
@[simp] theorem eL_ap {o : List D → Res β} {r : DEnv → Res (List D)} : eL o r ρ = (r ρ).bind o := id rfl
@[simp] theorem eIt_ap {a : DEnv → Res D} : eIt a ρ = (a ρ).bind items := id rfl
@[simp] theorem items_lst {xs : List D} : items (.lst xs) = .ok xs := id rfl
@[simp] theorem items_tup {xs : List D} : items (.tup xs) = .ok xs := id rfl
@[simp] theorem asL_lst {xs : List D} : asL (.lst xs) = .ok xs := id rfl
theorem callN_ap {m : List D → Res D} {ds : List D} (h : ds.length = n) : callN n m ds = m ds := if_pos h
@[simp] theorem callN1 {m : List D → Res D} {a : D} : callN 1 m [a] = m [a] := id rfl
@[simp] theorem callN2 {m : List D → Res D} {a b : D} : callN 2 m [a, b] = m [a, b] := id rfl
@[simp] theorem callN3 {m : List D → Res D} {a b c : D} : callN 3 m [a, b, c] = m [a, b, c] := id rfl
@[simp] theorem callN4 {m : List D → Res D} {a b c d : D} : callN 4 m [a, b, c, d] = m [a, b, c, d] := id rfl
@[simp] theorem callF_ap {m : List D → Res D} {ds : List D} : callF n m ds = (callN n m ds).bind asL := id rfl
@[simp] theorem mkD1 {c : Str} {m : List D → Res (List Str × List D)} {a : D} : mkD c 2 m [a] = (m [a]).bind fun r => .ok (.obj c r.1 r.2) := id rfl
@[simp] theorem mkD2 {c : Str} {m : List D → Res (List Str × List D)} {a b : D} : mkD c 3 m [a, b] = (m [a, b]).bind fun r => .ok (.obj c r.1 r.2) := id rfl
@[simp] theorem callG2 {m : List D → Res (List D)} {a b : D} : callG 2 m [a, b] = match m [a, b] with
  | .ok xs => .ok xs
  | _ => .st := id rfl
/-! ### operators -/
variable {j k : Int} {z w : Str}
@[simp low] theorem dI2_ap {o : Int → Int → Int} : dI2 o (.int j) (.int k) = .ok (.int (o j k)) := id rfl
@[simp] theorem dI2b_ap {o : Int → Int → Bool} : dI2b o (.int j) (.int k) = .ok (.bl (o j k)) := id rfl
@[simp low] theorem dI2c_ap {c : Int → Int → Bool} {o : Int → Int → Int} : dI2c c o (.int j) (.int k) = if c j k = true then .ok (.int (o j k)) else .st := id rfl
@[simp] theorem dAdd_ii : dAdd (.int j) (.int k) = .ok (.int (j + k)) := id rfl
@[simp] theorem dNeg_ap : dNeg (.int j) = .ok (.int (-j)) := id rfl
@[simp] theorem bAbs_ap : bAbs [.int j] = .ok (.int (if j < 0 then -j else j)) := id rfl
@[simp] theorem bInt_ap : bInt [.int j] = .ok (.int j) := id rfl
@[simp] theorem bLen_lst {xs : List D} : bLen [.lst xs] = .ok (.int xs.length) := id rfl
@[simp] theorem bLen_tup {xs : List D} : bLen [.tup xs] = .ok (.int xs.length) := id rfl
@[simp] theorem bTuple_lst {xs : List D} : bTuple [.lst xs] = .ok (.tup xs) := id rfl
@[simp] theorem bList_lst {xs : List D} : bList [.lst xs] = .ok xs := id rfl
@[simp] theorem dIx_lst {xs : List D} : dIx (.lst xs) (.int j) = match atI xs j with
  | some d => .ok d
  | none => .st := id rfl
@[simp] theorem dIx_tup {xs : List D} : dIx (.tup xs) (.int j) = match atI xs j with
  | some d => .ok d
  | none => .st := id rfl
theorem atI_at {α : Type} {xs : List α} {i : Nat} {x : α} (h : xs[i]? = some x) : L2.atI xs (i : Int) = some x := atI_nat h
@[simp] theorem g1_ap : g1 d = some [d] := id rfl
/-- == of data that is plain, as ints -/
theorem dEq_ii : dEq (.int j) (.int k) = .ok (.bl (D.eqv (.int j) (.int k))) := rfl
end
/-! ### loops -/
/-- a loop by an invariant -/
theorem forL_ind {sl : List Nat} {g : D → Option (List D)} {fb : DEnv → SRes} (I : Nat → DEnv → Prop) : ∀ (ds : List D) (n : Nat) (ρ : DEnv), I n ρ →
    (∀ i d ρ, ds[i]? = some d → I (n + i) ρ → ∃ vs ρ', g d = some vs ∧ (fb (setAll ρ sl (vs.map Slot.d)) = .nx ρ' ∨ fb (setAll ρ sl (vs.map Slot.d)) = .ct ρ') ∧ I (n + i + 1) ρ') → ∃ ρ', forL sl g fb ds ρ = .nx ρ' ∧ I (n + ds.length) ρ'
  | [], n, ρ, h, _ => ⟨ρ, rfl, h⟩
  | d :: ds, n, ρ, h, st => by
    obtain ⟨vs, ρ', h1, h2, h3⟩ := st 0 d ρ rfl h
    obtain ⟨ρ'', q1, q2⟩ := forL_ind I ds (n + 1) ρ' h3 fun i d ρ e z => by
      have := st (i + 1) d ρ (by simpa using e) (by rw [show n + (i + 1) = n + 1 + i by omega]; exact z)
      rw [show n + (i + 1) + 1 = n + 1 + i + 1 by omega] at this
      exact this
    refine ⟨ρ'', ?_, by rw [List.length_cons, show n + (ds.length + 1) = n + 1 + ds.length by omega]; exact q2⟩
    unfold forL
    simp only [h1]
    rcases h2 with h2 | h2 <;> simp only [h2, q1]
theorem forL_nx {sl : List Nat} {g : D → Option (List D)} {fb : DEnv → SRes} {d : D} {ds vs : List D} {ρ ρ' : DEnv} (h : g d = some vs) (e : fb (setAll ρ sl (vs.map Slot.d)) = .nx ρ') : forL sl g fb (d :: ds) ρ = forL sl g fb ds ρ' := by
  have z : forL sl g fb (d :: ds) ρ = (match g d with
    | none => .st
    | some vs => match fb (setAll ρ sl (vs.map Slot.d)) with
      | .nx ρ' => forL sl g fb ds ρ'
      | .ct ρ' => forL sl g fb ds ρ'
      | .bk ρ' => .nx ρ'
      | r => r) := rfl
  rw [z, h]
  simp only [e]
theorem rangeD_len {lo : Int} {n : Nat} : (rangeD lo n).length = n := by simp [rangeD]
theorem rangeD_get {lo : Int} {n i : Nat} {d : D} (h : (rangeD lo n)[i]? = some d) : i < n ∧ d = .int (lo + i) := by
  unfold rangeD at h
  rw [List.getElem?_map] at h
  cases hc : (List.range n)[i]? with
  | none => rw [hc] at h; cases h
  | some c =>
    rw [hc] at h
    cases h
    obtain ⟨h1, h2⟩ := List.getElem?_eq_some_iff.mp hc
    have h1 : i < n := by simpa using h1
    have h2 : i = c := by simpa using h2
    subst h2
    exact ⟨h1, rfl⟩
@[simp] theorem sForR_ap {sl : List Nat} {fi : DEnv → Res (List D)} {g : D → Option (List D)} {fb : DEnv → SRes} {ρ : DEnv} : sForR sl fi g fb ρ = after (fi ρ) ρ fun ds => forL sl g fb ds ρ := id rfl
@[simp] theorem sFor_ap {S sl : List Nat} {fi : DEnv → Res (List D)} {g : D → Option (List D)} {fb : DEnv → SRes} {ρ : DEnv} : sFor S sl fi g fb ρ = after (fi ρ) ρ fun ds => forL sl g fb ds (dem S ρ) := id rfl
theorem rng1_ap {j : Int} (h0 : 0 ≤ j) (h1 : j < 4611686018427387904) : rng1 [.int j] = .ok (rangeD 0 j.toNat) := by
  show (if cR j = true then Res.ok (rangeD 0 j.toNat) else Res.st) = _
  rw [if_pos]
  unfold cR
  exact decide_eq_true (by omega)
theorem dAnd_nn (a b : Nat) : dAnd (.int a) (.int b) = .ok (.int ((a &&& b : Nat) : Int)) := congrArg (fun z => Res.ok (D.int z)) (band_nn a b)
theorem dOr_nn (a b : Nat) : dOr (.int a) (.int b) = .ok (.int ((a ||| b : Nat) : Int)) := congrArg (fun z => Res.ok (D.int z)) (bor_nn a b)
theorem beq_nn (a b : Nat) : ((a : Int) == (b : Int)) = decide (a = b) := by
  by_cases h : a = b
  · subst h; simp
  · rw [decide_eq_false h]
    exact beq_eq_false_iff_ne.mpr fun z => h (Int.ofNat.inj z)
theorem dEq_nn (a b : Nat) : dEq (.int a) (.int b) = .ok (.bl (decide (a = b))) := congrArg (fun z => Res.ok (D.bl z)) (beq_nn a b)
theorem dNe_nn (a b : Nat) : dNe (.int a) (.int b) = .ok (.bl (!decide (a = b))) := congrArg (fun z => Res.ok (D.bl (!z))) (beq_nn a b)
theorem rng1_n (n : Nat) (h : n ≤ 1000000) : rng1 [.int (n : Int)] = .ok (rangeD 0 n) := by rw [rng1_ap (by omega) (by omega), Int.toNat_natCast]
@[simp] theorem gT2_ap {a b : D} {g : List D → Option (List D)} : gT 2 g (.tup [a, b]) = g [a, b] := id rfl
@[simp] theorem gT3_ap {a b c : D} {g : List D → Option (List D)} : gT 3 g (.tup [a, b, c]) = g [a, b, c] := id rfl
@[simp] theorem gC_ap {a : D} {as : List D} {g : D → Option (List D)} {h : List D → Option (List D)} : gC g h (a :: as) = (g a).bind fun x => (h as).bind fun y => some (x ++ y) := id rfl
@[simp] theorem gN_ap : gN [] = some [] := id rfl
@[simp] theorem setAll_nil {α : Type} {l : List α} {xs : List α} : setAll l [] xs = l := by cases xs <;> rfl
@[simp] theorem setAll_cons {α : Type} {l : List α} {i : Nat} {is : List Nat} {x : α} {xs : List α} : setAll l (i :: is) (x :: xs) = setAll (l.set i x) is xs := id rfl
@[simp] theorem sTgt_ap {k : Bool} {S sl : List Nat} {g : D → Option (List D)} {f : DEnv → Res D} {ρ : DEnv} : sTgt k S sl g f ρ = after (f ρ) ρ fun d => rest k S (fun b => d.nlx b) ρ fun ρ' => match g d with
  | some ds => .nx (setAll ρ' sl (ds.map Slot.d))
  | none => .st := id rfl
@[simp] theorem sAttr_ap {k : Bool} {S : List Nat} {cs : List Str} {i : Nat} {fl : Str} {f : DEnv → Res D} {ρ : DEnv} : sAttr k S cs i fl f ρ = after (f ρ) ρ fun d => rest k S (fun b => d.nlx b) ρ fun ρ' => match ρ'[i]? with
  | some (.obo t c ns fs) => if cs.contains c = true ∧ ns.length < 1000 then .nx (ρ'.set i (.obo t c (putN fl ns) (putD fl d ns fs))) else .st
  | _ => .st := id rfl
@[simp] theorem nlx_int {b : Bool} {j : Int} : (D.int j).nlx b = true := id rfl
@[simp] theorem nlx_bl {b c : Bool} : (D.bl c).nlx b = true := id rfl
@[simp] theorem nlx_str {b : Bool} {z : Str} : (D.str z).nlx b = true := id rfl
@[simp] theorem nlx_non {b : Bool} : (D.non).nlx b = true := id rfl
@[simp] theorem nlx_tup {b : Bool} {xs : List D} : (D.tup xs).nlx b = nlxs b xs := id rfl
@[simp] theorem nlxs_nil {b : Bool} : nlxs b [] = true := id rfl
@[simp] theorem nlxs_cons {b : Bool} {x : D} {xs : List D} : nlxs b (x :: xs) = (x.nlx b && nlxs b xs) := id rfl
/-! ### generators, while -/
def gsq (r : GRes) (g : DEnv → GRes) : GRes := match r with
  | (a, .nx ρ') => (a ++ (g ρ').1, (g ρ').2)
  | r => r
@[simp] theorem gSeq_ap {f g : DEnv → GRes} {ρ : DEnv} : gSeq f g ρ = gsq (f ρ) g := id rfl
@[simp] theorem gsq_nx {a : List D} {ρ : DEnv} {g : DEnv → GRes} : gsq (a, .nx ρ) g = (a ++ (g ρ).1, (g ρ).2) := id rfl
@[simp] theorem gPl_ap {f : DEnv → SRes} {ρ : DEnv} : gPl f ρ = ([], f ρ) := id rfl
@[simp] theorem gNil_ap {ρ : DEnv} : DL.gNil ρ = ([], .nx ρ) := id rfl
def gyR (S : List Nat) (ρ : DEnv) : Res D → GRes
  | .ok d => ([d], .nx (dem S ρ))
  | .er x => ([], .er x ρ)
  | .st => ([], .st)
@[simp] theorem gYd_ap {S : List Nat} {f : DEnv → Res D} {ρ : DEnv} : gYd false S f ρ = gyR S ρ (f ρ) := by
  unfold gYd gyR
  cases f ρ <;> rfl
@[simp] theorem gyR_ok {S : List Nat} {d : D} {ρ : DEnv} : gyR S ρ (.ok d) = ([d], .nx (dem S ρ)) := id rfl
theorem gWh_f {c : DEnv → Res Bool} {f : DEnv → GRes} {ρ : DEnv} {n : Nat} (h : c ρ = .ok false) : gWh c f (n + 1) ρ = ([], .nx ρ) := by
  show (match c ρ with
    | .ok true => match f ρ with
      | (a, .nx ρ') => (a ++ (gWh c f n ρ').1, (gWh c f n ρ').2)
      | (a, .ct ρ') => (a ++ (gWh c f n ρ').1, (gWh c f n ρ').2)
      | (a, .bk ρ') => (a, .nx ρ')
      | r => r
    | .ok false => ([], .nx ρ)
    | .er x => ([], .er x ρ)
    | .st => ([], .st)) = _
  rw [h]
theorem gWh_t {c : DEnv → Res Bool} {f : DEnv → GRes} {ρ ρ' : DEnv} {n : Nat} {a : List D} (h : c ρ = .ok true) (e : f ρ = (a, .nx ρ')) : gWh c f (n + 1) ρ = (a ++ (gWh c f n ρ').1, (gWh c f n ρ').2) := by
  show (match c ρ with
    | .ok true => match f ρ with
      | (a, .nx ρ') => (a ++ (gWh c f n ρ').1, (gWh c f n ρ').2)
      | (a, .ct ρ') => (a ++ (gWh c f n ρ').1, (gWh c f n ρ').2)
      | (a, .bk ρ') => (a, .nx ρ')
      | r => r
    | .ok false => ([], .nx ρ)
    | .er x => ([], .er x ρ)
    | .st => ([], .st)) = _
  rw [h]
  simp only [e]
theorem whL_f {c : DEnv → Res Bool} {f : DEnv → SRes} {ρ : DEnv} {n : Nat} (h : c ρ = .ok false) : whL c f (n + 1) ρ = .nx ρ := by
  show (after (c ρ) ρ fun b => if b then (match f ρ with
      | .nx ρ' => whL c f n ρ'
      | .ct ρ' => whL c f n ρ'
      | .bk ρ' => .nx ρ'
      | r => r) else .nx ρ) = _
  rw [h]
  rfl
theorem whL_t {c : DEnv → Res Bool} {f : DEnv → SRes} {ρ ρ' : DEnv} {n : Nat} (h : c ρ = .ok true) (e : f ρ = .nx ρ') : whL c f (n + 1) ρ = whL c f n ρ' := by
  show (after (c ρ) ρ fun b => if b then (match f ρ with
      | .nx ρ' => whL c f n ρ'
      | .ct ρ' => whL c f n ρ'
      | .bk ρ' => .nx ρ'
      | r => r) else .nx ρ) = _
  rw [h, e]
  rfl
@[simp] theorem sNever_ap {ρ : DEnv} : sNever ρ = .st := id rfl
@[simp] theorem atI_0 {α : Type} {a : α} {xs : List α} : L2.atI (a :: xs) 0 = some a := atI_nat (j := 0) rfl
@[simp] theorem atI_1 {α : Type} {a b : α} {xs : List α} : L2.atI (a :: b :: xs) 1 = some b := atI_nat (j := 1) rfl
@[simp] theorem atI_2 {α : Type} {a b c : α} {xs : List α} : L2.atI (a :: b :: c :: xs) 2 = some c := atI_nat (j := 2) rfl
end DL
set_option Elab.async false
set_option linter.all false
set_option maxRecDepth 100000
set_option maxHeartbeats 1000000
/-! DM2: comprehensions, loops and sorting reckoned out. -/
namespace DL
open PySem PySem.Spec PyProof.Rows L2
def nD (z : Nat) : D := .int (z : Int)
theorem lcL_of {α : Type} {sl : List Nat} {g : D → Option (List D)} {ft : DEnv → Res Bool} {fe : DEnv → Res D} {ρ : DEnv} (F : α → D) (p : α → Bool) (h : α → D) : ∀ l : List α,
    (∀ a ∈ l, ∃ vs, g (F a) = some vs ∧ ft (setAll ρ sl (vs.map Slot.d)) = .ok (p a) ∧ (p a = true → fe (setAll ρ sl (vs.map Slot.d)) = .ok (h a))) → lcL sl g ft fe ρ (l.map F) = .ok ((l.filter p).map h)
  | [], _ => rfl
  | a :: l, q => by
    obtain ⟨vs, h1, h2, h3⟩ := q a List.mem_cons_self
    have ih := lcL_of F p h l fun b hb => q b (List.mem_cons_of_mem _ hb)
    have e : lcL sl g ft fe ρ ((a :: l).map F) = (match g (F a) with
      | none => .st
      | some vs => (ft (setAll ρ sl (vs.map Slot.d))).bindN fun b => if b then (fe (setAll ρ sl (vs.map Slot.d))).bindN fun y => (lcL sl g ft fe ρ (l.map F)).bindN fun ys => .ok (y :: ys) else lcL sl g ft fe ρ (l.map F)) := rfl
    rw [e, h1]
    dsimp only
    rw [h2, bindN_okE, ih]
    cases hp : p a with
    | true =>
      rw [if_pos rfl, h3 hp, bindN_okE, bindN_okE, List.filter_cons_of_pos hp, List.map_cons]
    | false =>
      rw [if_neg Bool.false_ne_true, List.filter_cons_of_neg (by rw [hp]; simp)]
/-- one name, no test -/
theorem lcL_map {α : Type} {i : Nat} {fe : DEnv → Res D} {ρ : DEnv} (F : α → D) (h : α → D) (l : List α) (q : ∀ a ∈ l, fe (ρ.set i (.d (F a))) = .ok (h a)) : lcL [i] g1 tYesD fe ρ (l.map F) = .ok (l.map h) := by
  rw [lcL_of F (fun _ => true) h l fun a ha => ⟨[F a], rfl, rfl, fun _ => q a ha⟩]
  rw [List.filter_eq_self.mpr fun _ _ => rfl]
/-- one name and a test -/
theorem lcL_filter {α : Type} {i : Nat} {ft : DEnv → Res Bool} {fe : DEnv → Res D} {ρ : DEnv} (F : α → D) (p : α → Bool) (h : α → D) (l : List α) (q : ∀ a ∈ l, ft (ρ.set i (.d (F a))) = .ok (p a) ∧ (p a = true → fe (ρ.set i (.d (F a))) = .ok (h a))) :
    lcL [i] g1 ft fe ρ (l.map F) = .ok ((l.filter p).map h) := lcL_of F p h l fun a ha => ⟨[F a], rfl, q a ha⟩
@[simp] theorem eLc_ap {sl : List Nat} {fi : DEnv → Res (List D)} {g : D → Option (List D)} {ft : DEnv → Res Bool} {fe : DEnv → Res D} {ρ : DEnv} : eLc sl fi g ft fe ρ = (fi ρ).bind fun ds => (lcL sl g ft fe ρ ds).bindN okLen := id rfl
@[simp] theorem eSsc_ap {sl : List Nat} {fi : DEnv → Res (List D)} {g : D → Option (List D)} {ft : DEnv → Res Bool} {fe : DEnv → Res D} {ρ : DEnv} : eSsc sl fi g ft fe ρ = (fi ρ).bind fun ds => (lcL sl g ft fe ρ ds).bindN setSort := id rfl
@[simp] theorem tYesD_ap {ρ : DEnv} : tYesD ρ = .ok true := id rfl
theorem rangeD_nat (n : Nat) : rangeD 0 n = (List.range n).map nD := by
  unfold rangeD nD
  exact List.map_congr_left fun k _ => by rw [Int.zero_add]
theorem forL_of {α β : Type} {sl : List Nat} {g : D → Option (List D)} {fb : DEnv → SRes} (F : α → D) (R : β → DEnv → Prop) (step : β → α → β) : ∀ (l : List α) (b : β) (ρ : DEnv), R b ρ →
    (∀ b a ρ, a ∈ l → R b ρ → ∃ vs ρ', g (F a) = some vs ∧ (fb (setAll ρ sl (vs.map Slot.d)) = .nx ρ' ∨ fb (setAll ρ sl (vs.map Slot.d)) = .ct ρ') ∧ R (step b a) ρ') → ∃ ρ', forL sl g fb (l.map F) ρ = .nx ρ' ∧ R (l.foldl step b) ρ'
  | [], b, ρ, h, _ => ⟨ρ, rfl, h⟩
  | a :: l, b, ρ, h, q => by
    obtain ⟨vs, ρ1, h1, h2, h3⟩ := q b a ρ List.mem_cons_self h
    obtain ⟨ρ', k1, k2⟩ := forL_of F R step l (step b a) ρ1 h3 fun b a ρ ha => q b a ρ (List.mem_cons_of_mem _ ha)
    refine ⟨ρ', ?_, k2⟩
    have e : forL sl g fb ((a :: l).map F) ρ = (match g (F a) with
      | none => .st
      | some vs => match fb (setAll ρ sl (vs.map Slot.d)) with
        | .nx ρ' => forL sl g fb (l.map F) ρ'
        | .ct ρ' => forL sl g fb (l.map F) ρ'
        | .bk ρ' => .nx ρ'
        | r => r) := rfl
    rw [e, h1]
    rcases h2 with h2 | h2 <;> simp only [h2, k1]
/-- a loop that may return: some item makes it return d, or all pass -/
theorem forL_any {α : Type} {sl : List Nat} {g : D → Option (List D)} {fb : DEnv → SRes} (F : α → D) (R : DEnv → Prop) (bad : α → Bool) (d : D) : ∀ (l : List α) (ρ : DEnv), R ρ →
    (∀ a ρ, a ∈ l → R ρ → ∃ vs, g (F a) = some vs ∧ if bad a = true then fb (setAll ρ sl (vs.map Slot.d)) = .rt d else ∃ ρ', (fb (setAll ρ sl (vs.map Slot.d)) = .nx ρ' ∨ fb (setAll ρ sl (vs.map Slot.d)) = .ct ρ') ∧ R ρ') →
    if l.any bad = true then forL sl g fb (l.map F) ρ = .rt d else ∃ ρ', forL sl g fb (l.map F) ρ = .nx ρ' ∧ R ρ'
  | [], ρ, h, _ => ⟨ρ, rfl, h⟩
  | a :: l, ρ, h, q => by
    obtain ⟨vs, h1, h2⟩ := q a ρ List.mem_cons_self h
    have e : forL sl g fb ((a :: l).map F) ρ = (match g (F a) with
      | none => .st
      | some vs => match fb (setAll ρ sl (vs.map Slot.d)) with
        | .nx ρ' => forL sl g fb (l.map F) ρ'
        | .ct ρ' => forL sl g fb (l.map F) ρ'
        | .bk ρ' => .nx ρ'
        | r => r) := rfl
    rw [e, h1, List.any_cons]
    cases hb : bad a with
    | true =>
      rw [hb, if_pos rfl] at h2
      rw [Bool.true_or, if_pos rfl]
      simp only [h2]
    | false =>
      rw [hb, if_neg Bool.false_ne_true] at h2
      obtain ⟨ρ1, k1, k2⟩ := h2
      rw [Bool.false_or]
      have ih := forL_any F R bad d l ρ1 k2 fun a ρ ha => q a ρ (List.mem_cons_of_mem _ ha)
      rcases k1 with k1 | k1 <;> simp only [k1] <;> exact ih
theorem dShr_nn (a b : Nat) : dShr (.int a) (.int b) = .ok (.int ((a / 2 ^ b : Nat) : Int)) := by
  show (if cShr a b = true then Res.ok (D.int ((a : Int) / 2 ^ (b : Int).toNat)) else .st) = _
  rw [if_pos (cShr_ok (by omega)), Int.toNat_natCast]
  congr 2
theorem pow_le_big {k : Nat} (h : k ≤ 60) : 2 ^ k < 18446744073709551616 := Nat.lt_of_le_of_lt (Nat.pow_le_pow_right (by decide) h) (by decide)
theorem dShl_1 {k : Nat} (h : k ≤ 1000) : dShl (.int 1) (.int (k : Nat)) = .ok (.int ((2 ^ k : Nat) : Int)) := by
  show (if cPow 1 k = true then Res.ok (D.int ((1 : Int) * 2 ^ (k : Int).toNat)) else .st) = _
  rw [if_pos (cPow_of (by omega) (by omega) (by decide) (by decide)), Int.toNat_natCast, Int.one_mul]
  congr 2
theorem bit_one (m k : Nat) : ((m / 2 ^ k) &&& 1 = 1) ↔ m.testBit k = true := by
  rw [Nat.testBit_eq_decide_div_mod_eq, decide_eq_true_eq, Nat.and_one_is_mod]
theorem bit_dec (m k : Nat) : decide ((m / 2 ^ k) &&& 1 = 1) = m.testBit k := by
  rw [Bool.eq_iff_iff, decide_eq_true_eq, bit_one]
@[simp] theorem bSorted_lst {xs : List D} : bSorted [.lst xs] = if sortOk xs = true then .ok (sortD xs) else .st := id rfl
@[simp] theorem bRev_lst {xs : List D} : bRev (.lst xs) = .ok xs.reverse := id rfl
theorem asBls_map {α : Type} (f : α → Bool) : ∀ l : List α, asBls (l.map fun a => .bl (f a)) = some (l.map f)
  | [] => rfl
  | a :: l => by
    show asBls (.bl (f a) :: l.map _) = _
    unfold asBls
    rw [asBls_map f l]
    rfl
theorem bAll_map {α : Type} (f : α → Bool) (l : List α) : bAll [.lst (l.map fun a => .bl (f a))] = .ok (.bl (l.all f)) := by
  show (match asBls (l.map fun a => .bl (f a)) with
    | some bs => Res.ok (D.bl (bs.all id))
    | none => .st) = _
  rw [asBls_map]
  simp
theorem bAny_map {α : Type} (f : α → Bool) (l : List α) : bAny [.lst (l.map fun a => .bl (f a))] = .ok (.bl (l.any f)) := by
  show (match asBls (l.map fun a => .bl (f a)) with
    | some bs => Res.ok (D.bl (bs.any id))
    | none => .st) = _
  rw [asBls_map]
  simp
/-! ### data compared by a test that the kernel can run -/
mutual
def sameB : D → D → Bool
  | .non, .non => true
  | .bl a, .bl b => a == b
  | .int a, .int b => decide (a = b)
  | .str a, .str b => decide (a = b)
  | .tup a, .tup b => samesB a b
  | .lst a, .lst b => samesB a b
  | .obj c n a, .obj d m b => decide (c = d) && decide (n = m) && samesB a b
  | _, _ => false
def samesB : List D → List D → Bool
  | [], [] => true
  | a :: as, b :: bs => sameB a b && samesB as bs
  | _, _ => false
end
mutual
theorem sameB_eq : ∀ a b : D, sameB a b = true → a = b
  | .non, b, h => by cases b <;> first | rfl | cases h
  | .bl x, b, h => by
    cases b with
    | bl y =>
      have h : (x == y) = true := h
      rw [beq_iff_eq.mp h]
    | _ => cases h
  | .int x, b, h => by
    cases b with
    | int y => rw [of_decide_eq_true (p := x = y) h]
    | _ => cases h
  | .str x, b, h => by
    cases b with
    | str y => rw [of_decide_eq_true (p := x = y) h]
    | _ => cases h
  | .tup x, b, h => by
    cases b with
    | tup y => rw [samesB_eq x y h]
    | _ => cases h
  | .lst x, b, h => by
    cases b with
    | lst y => rw [samesB_eq x y h]
    | _ => cases h
  | .obj c n x, b, h => by
    cases b with
    | obj d m y =>
      have h : (decide (c = d) && decide (n = m) && samesB x y) = true := h
      rw [Bool.and_eq_true, Bool.and_eq_true] at h
      rw [of_decide_eq_true h.1.1, of_decide_eq_true h.1.2, samesB_eq x y h.2]
    | _ => cases h
theorem samesB_eq : ∀ a b : List D, samesB a b = true → a = b
  | [], [], _ => rfl
  | [], _ :: _, h => by cases h
  | _ :: _, [], h => by cases h
  | a :: as, b :: bs, h => by
    have h : (sameB a b && samesB as bs) = true := h
    rw [Bool.and_eq_true] at h
    rw [sameB_eq a b h.1, samesB_eq as bs h.2]
end
/-- the answer is d -/
def isOk (r : Res D) (d : D) : Bool := match r with
  | .ok e => sameB e d
  | _ => false
theorem isOk_eq {r : Res D} {d : D} (h : isOk r d = true) : r = .ok d := by
  unfold isOk at h
  split at h
  · rw [sameB_eq _ _ h]
  · cases h
/-- for a in l: if p a: out.append(h a) -/
theorem forL_fm {α β : Type} {sl : List Nat} {g : D → Option (List D)} {fb : DEnv → SRes} (F : α → D) (p : α → Bool) (h : α → β) (N : Nat) (st : List β → DEnv → Prop) : ∀ (l : List α) (ks : List β) (ρ : DEnv), st ks ρ → ks.length + l.length ≤ N →
    (∀ ks a ρ, a ∈ l → ks.length < N → st ks ρ → ∃ vs ρ', g (F a) = some vs ∧ (fb (setAll ρ sl (vs.map Slot.d)) = .nx ρ' ∨ fb (setAll ρ sl (vs.map Slot.d)) = .ct ρ') ∧ st (if p a = true then ks ++ [h a] else ks) ρ') →
    ∃ ρ', forL sl g fb (l.map F) ρ = .nx ρ' ∧ st (ks ++ (l.filter p).map h) ρ'
  | [], ks, ρ, q, _, _ => ⟨ρ, rfl, by simpa using q⟩
  | a :: l, ks, ρ, q, n, t => by
    rw [List.length_cons] at n
    obtain ⟨vs, ρ1, h1, h2, h3⟩ := t ks a ρ List.mem_cons_self (by omega) q
    obtain ⟨ρ', k1, k2⟩ := forL_fm F p h N st l _ ρ1 h3 (by split <;> (try simp only [List.length_append, List.length_singleton]) <;> omega) fun ks b ρ hb => t ks b ρ (List.mem_cons_of_mem _ hb)
    refine ⟨ρ', ?_, ?_⟩
    · have e : forL sl g fb ((a :: l).map F) ρ = (match g (F a) with
        | none => .st
        | some vs => match fb (setAll ρ sl (vs.map Slot.d)) with
          | .nx ρ' => forL sl g fb (l.map F) ρ'
          | .ct ρ' => forL sl g fb (l.map F) ρ'
          | .bk ρ' => .nx ρ'
          | r => r) := rfl
      rw [e, h1]
      rcases h2 with h2 | h2 <;> simp only [h2, k1]
    · cases hp : p a with
      | true =>
        rw [hp, if_pos rfl] at k2
        rw [List.filter_cons_of_pos hp, List.map_cons]
        simpa using k2
      | false =>
        rw [hp, if_neg Bool.false_ne_true] at k2
        rw [List.filter_cons_of_neg (by rw [hp]; simp)]
        exact k2
/-! ### in, == of ints -/
theorem eqv_nD (a b : Nat) : (nD a).eqv (nD b) = decide (a = b) := beq_nn a b
theorem flats_nD (l : List Nat) : (l.map nD).all D.flat = true := by
  rw [List.all_map]
  exact List.all_eq_true.mpr fun _ _ => rfl
theorem inSeq_nD (k : Nat) (l : List Nat) : inSeq (nD k) (l.map nD) = l.contains k := by
  unfold inSeq
  rw [List.any_map, Bool.eq_iff_iff, List.any_eq_true, List.contains_iff_mem]
  constructor
  · rintro ⟨x, hx, e⟩
    have e : (nD x).eqv (nD k) = true := e
    rw [eqv_nD, decide_eq_true_eq] at e
    exact e ▸ hx
  · intro h
    exact ⟨k, h, by show (nD k).eqv (nD k) = true; rw [eqv_nD, decide_eq_true_eq]⟩
theorem dInS_tup (k : Nat) (l : List Nat) : dInS (nD k) (.tup (l.map nD)) = .ok (l.contains k) := by
  show (if ((nD k).flat && (l.map nD).all D.flat) = true then Res.ok (inSeq (nD k) (l.map nD)) else .st) = _
  rw [flats_nD, show (nD k).flat = true from rfl, if_pos (by decide), inSeq_nD]
theorem dInS_lst (k : Nat) (l : List Nat) : dInS (nD k) (.lst (l.map nD)) = .ok (l.contains k) := by
  show (if ((nD k).flat && (l.map nD).all D.flat) = true then Res.ok (inSeq (nD k) (l.map nD)) else if (dOk 16 (nD k) && dOks 16 (l.map nD)) = true then .ok (inSeq (nD k) (l.map nD)) else .st) = _
  rw [flats_nD, show (nD k).flat = true from rfl, if_pos (by decide), inSeq_nD]
@[simp] theorem dIn_ap {x y : D} : dIn x y = (dInS x y).bind fun b => .ok (.bl b) := id rfl
@[simp] theorem dNotIn_ap {x y : D} : dNotIn x y = (dInS x y).bind fun b => .ok (.bl !b) := id rfl
theorem eqvs_nD : ∀ l m : List Nat, eqvs (l.map nD) (m.map nD) = decide (l = m)
  | [], [] => rfl
  | [], _ :: _ => rfl
  | _ :: _, [] => rfl
  | a :: l, b :: m => by
    show ((nD a).eqv (nD b) && eqvs (l.map nD) (m.map nD)) = _
    rw [eqv_nD, eqvs_nD l m, Bool.eq_iff_iff]
    simp
@[simp] theorem minus_nil {sl : List Nat} : minus [] sl = [] := id rfl
@[simp] theorem minus_cons {i : Nat} {S sl : List Nat} : minus (i :: S) sl = if sl.contains i = true then minus S sl else i :: minus S sl := by
  unfold minus
  cases h : sl.contains i with
  | true => rw [List.filter_cons_of_neg (by rw [h]; decide), if_pos rfl]
  | false => rw [List.filter_cons_of_pos (by rw [h]; decide), if_neg Bool.false_ne_true]
end DL
set_option Elab.async false
set_option linter.all false
set_option maxRecDepth 100000
set_option maxHeartbeats 1000000
/-! DM3: selections as masks: their order, what sorting makes of them. No program in sight. -/
namespace DL
open PySem PySem.Spec PyProof.Rows L2 Cb
def sel (c m : Nat) : List Nat := (List.range c).filter fun k => m.testBit k
def selD (c m : Nat) : D := .tup ((sel c m).map nD)
def mk (l : List Nat) : Nat := l.foldl (fun a k => a ||| 2 ^ k) 0
def ord (c : Nat) : List Nat := (List.range (c + 1)).flatMap fun k => (combs c k).map mk
def selP (c m : Nat) : D := .tup [.int ((sel c m).length : Nat), selD c m]
def ltD (a b : D) : Bool := !leD b a
def chainB (r : Nat → Nat → Bool) : List Nat → Bool
  | [] => true
  | [_] => true
  | a :: b :: l => r a b && chainB r (b :: l)
def ordOk (c : Nat) : Bool := ((List.range (c + 1)).all fun k => (combs c k).all fun l => sel c (mk l) == l && decide (mk l < 2 ^ c)) &&
  ((List.range (2 ^ c)).all fun m => (ord c).contains m && mk (sel c m) == m) && decide ((ord c).length = 2 ^ c) && chainB (fun a b => ltD (selP c a) (selP c b)) (ord c)
theorem ordOk_all : ((List.range 8).all ordOk) = true := by decide +kernel
structure OrdOk (c : Nat) : Prop where
  combs : ∀ k ≤ c, ∀ l ∈ combs c k, sel c (mk l) = l ∧ mk l < 2 ^ c
  mem : ∀ m, m ∈ ord c ↔ m < 2 ^ c
  nodup : (ord c).Nodup
  back : ∀ m, m < 2 ^ c → mk (sel c m) = m
  sorted : (ord c).Pairwise fun a b => ltD (selP c a) (selP c b) = true
theorem ltD_trans {a b c : D} (h : ltD a b = true) (k : ltD b c = true) : ltD a c = true := by
  unfold ltD at h k ⊢
  rw [Bool.not_eq_true'] at h k ⊢
  cases z : leD c a with
  | false => rfl
  | true =>
    rcases leD_total.total a b with q | q
    · rw [leD_total.trans c a b z q] at k; cases k
    · rw [q] at h; cases h
theorem ltD_le {a b : D} (h : ltD a b = true) : leD a b = true := by
  unfold ltD at h
  rw [Bool.not_eq_true'] at h
  rcases leD_total.total a b with q | q
  · exact q
  · rw [q] at h; cases h
theorem chain_pw {r : Nat → Nat → Bool} (tr : ∀ a b c, r a b = true → r b c = true → r a c = true) : ∀ {l : List Nat}, chainB r l = true → l.Pairwise fun a b => r a b = true
  | [], _ => .nil
  | [a], _ => by simp
  | a :: b :: l, h => by
    have h : (r a b && chainB r (b :: l)) = true := h
    rw [Bool.and_eq_true] at h
    have ih := chain_pw tr h.2
    refine .cons (fun x hx => ?_) ih
    cases hx with
    | head => exact h.1
    | tail _ hx => exact tr a b x h.1 ((List.pairwise_cons.mp ih).1 x hx)
theorem ord_ok {c : Nat} (h : c ≤ 7) : OrdOk c := by
  have z := List.all_eq_true.mp ordOk_all c (List.mem_range.mpr (by omega))
  unfold ordOk at z
  simp only [Bool.and_eq_true, List.all_eq_true, beq_iff_eq, decide_eq_true_eq, List.mem_range, List.contains_iff_mem] at z
  obtain ⟨⟨⟨z1, z2⟩, z3⟩, z4⟩ := z
  have pm := perm_range (2 ^ c) (ord c) z3 fun k hk => (z2 k hk).1
  exact ⟨fun k hk l hl => z1 k (by omega) l hl, fun m => by rw [pm.mem_iff, List.mem_range], pm.nodup_iff.mpr List.nodup_range, fun m hm => (z2 m hm).2, chain_pw (r := fun a b => ltD (selP c a) (selP c b)) (fun _ _ _ => ltD_trans) z4⟩
theorem OrdOk.inj {c m n : Nat} (O : OrdOk c) (hm : m < 2 ^ c) (hn : n < 2 ^ c) (h : sel c m = sel c n) : m = n := by rw [← O.back m hm, ← O.back n hn, h]
/-- the set ms in order -/
def can (c : Nat) (ms : List Nat) : List Nat := (ord c).filter fun m => ms.contains m
theorem mem_can {c m : Nat} {ms : List Nat} (O : OrdOk c) (b : ∀ m ∈ ms, m < 2 ^ c) : m ∈ can c ms ↔ m ∈ ms := by
  unfold can
  rw [List.mem_filter, O.mem, List.contains_iff_mem]
  exact ⟨fun h => h.2, fun h => ⟨b m h, h⟩⟩
theorem can_nodup {c : Nat} {ms : List Nat} (O : OrdOk c) : (can c ms).Nodup := O.nodup.filter _
theorem can_congr {c : Nat} {ms ns : List Nat} (h : ∀ m, m ∈ ms ↔ m ∈ ns) : can c ms = can c ns := by
  unfold can
  refine List.filter_congr fun m _ => ?_
  rw [Bool.eq_iff_iff, List.contains_iff_mem, List.contains_iff_mem]
  exact h m
theorem can_sorted {c : Nat} {ms : List Nat} (O : OrdOk c) : (can c ms).Pairwise fun a b => ltD (selP c a) (selP c b) = true := O.sorted.filter _
/-! ### sorting -/
theorem alikeInts : ∀ l m : List Nat, PySem.W.alikeAll (pys (l.map nD)) (pys (m.map nD)) = true
  | [], [] => rfl
  | [], _ :: _ => rfl
  | _ :: _, [] => rfl
  | a :: l, b :: m => by
    show (PySem.W.alike (.int a) (.int b) && PySem.W.alikeAll (pys (l.map nD)) (pys (m.map nD))) = true
    rw [alikeInts l m]
    rfl
theorem alikePair (c m n : Nat) : PySem.W.alike (selP c m).py (selP c n).py = true := by
  show (PySem.W.alike (.int ((sel c m).length : Nat)) (.int ((sel c n).length : Nat)) && (PySem.W.alikeAll (pys ((sel c m).map nD)) (pys ((sel c n).map nD)) && PySem.W.alikeAll [] [])) = true
  rw [alikeInts]
  rfl
theorem dOks_ints (n : Nat) : ∀ l : List Nat, dOks n (l.map nD) = true
  | [] => rfl
  | a :: l => by
    show (dOk n (nD a) && dOks n (l.map nD)) = true
    rw [dOks_ints n l, show dOk n (nD a) = true by cases n <;> rfl]
    rfl
theorem kOks_ints (n : Nat) : ∀ l : List Nat, kOks n (l.map nD) = true
  | [] => rfl
  | a :: l => by
    show (kOk n (nD a) && kOks n (l.map nD)) = true
    rw [kOks_ints n l, show kOk n (nD a) = true by cases n <;> rfl]
    rfl
theorem dOk_pair (c m : Nat) : dOk 15 (selP c m) = true := by
  show (dOk 14 (.int ((sel c m).length : Nat)) && (dOks 13 ((sel c m).map nD) && dOks 14 [])) = true
  rw [dOks_ints]
  rfl
theorem dOk16_pair (c m : Nat) : dOk 16 (selP c m) = true := by
  show (dOk 15 (.int ((sel c m).length : Nat)) && (dOks 14 ((sel c m).map nD) && dOks 15 [])) = true
  rw [dOks_ints]
  rfl
theorem sortOk_pairs {c : Nat} {ms : List Nat} (h : ms.length ≤ lim) : sortOk (ms.map (selP c)) = true := by
  refine sortOk_iff.mpr ⟨?_, ?_, .inl ?_, by rw [List.length_map]; exact h⟩
  · clear h
    induction ms with
    | nil => rfl
    | cons m ms ih =>
      show (dOk 15 (selP c m) && dOks 15 (ms.map (selP c))) = true
      rw [ih, dOk_pair]
      rfl
  · unfold alikes
    simp only [List.all_eq_true, List.mem_map]
    rintro _ ⟨m, _, rfl⟩ _ ⟨n, _, rfl⟩
    exact alikePair c m n
  · simp only [List.all_eq_true, List.mem_map]
    rintro _ ⟨m, _, rfl⟩
    rfl
theorem apart_pairs {c m n : Nat} (O : OrdOk c) (hm : m < 2 ^ c) (hn : n < 2 ^ c) (ne : m ≠ n) : (leD (selP c m) (selP c n) && leD (selP c n) (selP c m)) = false := by
  have : ∀ {l : List Nat}, l.Pairwise (fun a b => ltD (selP c a) (selP c b) = true) → m ∈ l → n ∈ l → ltD (selP c m) (selP c n) = true ∨ ltD (selP c n) (selP c m) = true := by
    intro l pl
    induction pl with
    | nil => intro h; cases h
    | @cons x l hx _ ih =>
      intro a b
      cases a with
      | head =>
        cases b with
        | head => exact absurd rfl ne
        | tail _ b => exact .inl (hx n b)
      | tail _ a =>
        cases b with
        | head => exact .inr (hx m a)
        | tail _ b => exact ih a b
  rcases this O.sorted ((O.mem m).mpr hm) ((O.mem n).mpr hn) with z | z
  · unfold ltD at z
    rw [Bool.not_eq_true'] at z
    rw [z, Bool.and_false]
  · unfold ltD at z
    rw [Bool.not_eq_true'] at z
    rw [z, Bool.false_and]
theorem strict_pairs {c : Nat} (O : OrdOk c) : ∀ {ms : List Nat}, ms.Nodup → (∀ m ∈ ms, m < 2 ^ c) → strictD (ms.map (selP c)) = true
  | [], _, _ => rfl
  | m :: ms, nd, b => by
    obtain ⟨n1, n2⟩ := List.nodup_cons.mp nd
    show (((ms.map (selP c)).all fun e => !(leD (selP c m) e && leD e (selP c m))) && strictD (ms.map (selP c))) = true
    rw [strict_pairs O n2 fun x hx => b x (List.mem_cons_of_mem _ hx), Bool.and_true]
    simp only [List.all_eq_true, List.mem_map]
    rintro _ ⟨n, hn, rfl⟩
    rw [apart_pairs O (b m List.mem_cons_self) (b n (List.mem_cons_of_mem _ hn)) fun e => n1 (e ▸ hn)]
    rfl
/-- sorting distinct selections -/
theorem sort_sel {c : Nat} (O : OrdOk c) {ms : List Nat} (nd : ms.Nodup) (b : ∀ m ∈ ms, m < 2 ^ c) : sortD (ms.map (selP c)) = (can c ms).map (selP c) := by
  have pm : (can c ms).Perm ms := (List.perm_ext_iff_of_nodup (can_nodup O) nd).mpr fun m => mem_can O b
  refine (sort_only (strict_pairs O nd b) (pm.map _) ?_).symm
  rw [List.pairwise_map]
  exact (can_sorted O).imp fun h => ltD_le h
/-- the first of each -/
def ddN : List Nat → List Nat → List Nat
  | acc, [] => acc
  | acc, m :: ms => ddN (if acc.contains m = true then acc else acc ++ [m]) ms
theorem nk_ints : ∀ {l m : List Nat}, nks (l.map nD) = nks (m.map nD) → l = m
  | [], [], _ => rfl
  | [], _ :: _, h => by cases h
  | _ :: _, [], h => by cases h
  | a :: l, b :: m, h => by
    have h : NestedKey.num a :: nks (l.map nD) = NestedKey.num b :: nks (m.map nD) := h
    injection h with h1 h2
    injection h1 with h1
    rw [nk_ints h2, Int.ofNat.inj h1]
theorem nk_pair {c m n : Nat} (O : OrdOk c) (hm : m < 2 ^ c) (hn : n < 2 ^ c) (h : (selP c m).nk = (selP c n).nk) : m = n := by
  have h : NestedKey.tup [.num _, .tup (nks ((sel c m).map nD))] = NestedKey.tup [.num _, .tup (nks ((sel c n).map nD))] := h
  injection h with h
  injection h with _ h
  injection h with h _
  injection h with h
  exact O.inj hm hn (nk_ints h)
theorem hasK_pair {c m : Nat} (O : OrdOk c) {acc : List Nat} (b : ∀ x ∈ acc, x < 2 ^ c) (hm : m < 2 ^ c) : hasK (acc.map (selP c)) (selP c m) = acc.contains m := by
  rw [Bool.eq_iff_iff, hasK_iff, List.contains_iff_mem, List.map_map, List.mem_map]
  exact ⟨fun ⟨x, hx, e⟩ => nk_pair O (b x hx) hm e ▸ hx, fun h => ⟨m, h, rfl⟩⟩
theorem ddS_pairs {c : Nat} (O : OrdOk c) : ∀ (ms acc : List Nat), (∀ m ∈ ms, m < 2 ^ c) → (∀ m ∈ acc, m < 2 ^ c) → ddS (acc.map (selP c)) (ms.map (selP c)) = (ddN acc ms).map (selP c)
  | [], _, _, _ => rfl
  | m :: ms, acc, b1, b2 => by
    have hm := b1 m List.mem_cons_self
    show ddS (if hasK (acc.map (selP c)) (selP c m) = true then acc.map (selP c) else acc.map (selP c) ++ [selP c m]) (ms.map (selP c)) = (ddN (if acc.contains m = true then acc else acc ++ [m]) ms).map (selP c)
    rw [hasK_pair O b2 hm]
    have b3 : ∀ x ∈ (if acc.contains m = true then acc else acc ++ [m]), x < 2 ^ c := by
      split
      · exact b2
      · intro x hx
        rcases List.mem_append.mp hx with h | h
        · exact b2 x h
        · rw [List.mem_singleton.mp h]; exact hm
    rw [← ddS_pairs O ms _ (fun x hx => b1 x (List.mem_cons_of_mem _ hx)) b3]
    split <;> simp
theorem ddN_mem : ∀ (ms acc : List Nat) (m : Nat), m ∈ ddN acc ms ↔ m ∈ acc ∨ m ∈ ms
  | [], acc, m => by simp [ddN]
  | x :: ms, acc, m => by
    unfold ddN
    rw [ddN_mem ms]
    split
    · rename_i h
      rw [List.contains_iff_mem] at h
      simp only [List.mem_cons]
      constructor
      · rintro (z | z)
        · exact .inl z
        · exact .inr (.inr z)
      · rintro (z | rfl | z)
        · exact .inl z
        · exact .inl h
        · exact .inr z
    · simp only [List.mem_append, List.mem_cons, List.not_mem_nil, or_false, or_assoc]
theorem ddN_nodup : ∀ (ms acc : List Nat), acc.Nodup → (ddN acc ms).Nodup
  | [], _, h => h
  | x :: ms, acc, h => by
    unfold ddN
    refine ddN_nodup ms _ ?_
    split
    · exact h
    · rename_i z
      rw [List.contains_iff_mem] at z
      exact List.nodup_append.mpr ⟨h, by simp, fun a ha b hb e => by
        rw [List.mem_singleton.mp hb] at e
        exact z (e ▸ ha)⟩
theorem small_set {c : Nat} (hc : c ≤ 7) {ms : List Nat} (nd : ms.Nodup) (b : ∀ m ∈ ms, m < 2 ^ c) : ms.length ≤ 128 := by
  have := nat_nodup_len ms (List.range (2 ^ c)) nd fun x hx => List.mem_range.mpr (b x hx)
  rw [List.length_range] at this
  exact Nat.le_trans this (Nat.pow_le_pow_right (by decide) hc)
/-- sorted({(len(s), s) for s in ..}) -/
theorem set_sel {c : Nat} (hc : c ≤ 7) {ms : List Nat} (b : ∀ m ∈ ms, m < 2 ^ c) : setSort (ms.map (selP c)) = .ok ((can c ms).map (selP c)) := by
  have O := ord_ok hc
  have e : ddS [] (ms.map (selP c)) = (ddN [] ms).map (selP c) := ddS_pairs O ms [] b (by simp)
  have nd := ddN_nodup ms [] (by simp)
  have b2 : ∀ m ∈ ddN [] ms, m < 2 ^ c := fun m hm => b m (((ddN_mem ms [] m).mp hm).resolve_left (by simp))
  have sm := small_set hc nd b2
  unfold setSort
  rw [e, if_pos]
  · rw [sort_sel O nd b2, can_congr (ms := ddN [] ms) (ns := ms) fun m => by rw [ddN_mem]; simp]
  · have k1 : (ms.map (selP c)).all keyT = true := by
      simp only [List.all_eq_true, List.mem_map]
      rintro _ ⟨m, _, rfl⟩
      show (kOk 7 (.int ((sel c m).length : Nat)) && (kOks 6 ((sel c m).map nD) && kOks 7 [])) = true
      rw [kOks_ints]
      rfl
    rw [k1, sortOk_pairs (Nat.le_trans sm (by decide)), strict_pairs O nd b2, List.length_map, decide_eq_true (by omega)]
    rfl
end DL
set_option Elab.async false
set_option linter.all false
set_option maxRecDepth 100000
set_option maxHeartbeats 1000000
/-! DM4: least, greatest and hitting selections, as masks. -/
namespace DL
open PySem PySem.Spec PyProof.Rows L2 Cb
/-! ### within -/
def wnB (a b : Nat) : Bool := a &&& b == a
theorem wnB_iff {a b : Nat} : wnB a b = true ↔ ∀ j, a.testBit j = true → b.testBit j = true := by
  unfold wnB
  rw [beq_iff_eq]
  constructor
  · intro h j hj
    have e := congrArg (fun z => Nat.testBit z j) h
    simp only [Nat.testBit_and, hj, Bool.true_and] at e
    exact e
  · intro h
    apply Nat.eq_of_testBit_eq
    intro j
    rw [Nat.testBit_and]
    cases ha : a.testBit j with
    | false => rfl
    | true => rw [h j ha]; rfl
theorem wnB_refl (a : Nat) : wnB a a = true := wnB_iff.mpr fun _ h => h
theorem wnB_trans {a b c : Nat} (h : wnB a b = true) (k : wnB b c = true) : wnB a c = true := wnB_iff.mpr fun j q => wnB_iff.mp k j (wnB_iff.mp h j q)
theorem wnB_anti {a b : Nat} (h : wnB a b = true) (k : wnB b a = true) : a = b := by
  apply Nat.eq_of_testBit_eq
  intro j
  rw [Bool.eq_iff_iff]
  exact ⟨wnB_iff.mp h j, wnB_iff.mp k j⟩
theorem wnB_le {a b : Nat} (h : wnB a b = true) : a ≤ b := by
  unfold wnB at h
  rw [beq_iff_eq] at h
  rw [← h]
  exact Nat.and_le_right
/-! ### keeping the first -/
def keepF (r : Nat → Nat → Bool) (ks : List Nat) (m : Nat) : List Nat := if (ks.all fun s => !r s m) = true then ks ++ [m] else ks
def firstIn (r : Nat → Nat → Bool) (l : List Nat) (m : Nat) : Bool := l.all fun s => !r s m || s == m
theorem keep_first (r : Nat → Nat → Bool) (tr : ∀ a b c, r a b = true → r b c = true → r a c = true) (l : List Nat) (nd : l.Nodup) (pw : l.Pairwise fun a b => r b a = false) : ∀ (rest pre ks : List Nat), l = pre ++ rest →
    (∀ t ∈ pre, ∃ s ∈ ks, s = t ∨ r s t = true) → ks = pre.filter (firstIn r l) → rest.foldl (keepF r) ks = l.filter (firstIn r l)
  | [], pre, ks, e, _, k => by
    rw [List.append_nil] at e
    rw [List.foldl_nil, k, e]
  | m :: rest, pre, ks, e, cov, k => by
    have ml : m ∈ l := by rw [e]; simp
    have mpre : m ∉ pre := fun h => by
      rw [e] at nd
      exact (List.nodup_append.mp nd).2.2 m h m List.mem_cons_self rfl
    have later : ∀ t ∈ rest, r t m = false := by
      rw [e] at pw
      exact (List.pairwise_cons.mp (List.pairwise_append.mp pw).2.1).1
    have sub : ∀ s ∈ ks, s ∈ pre := fun s hs => by rw [k] at hs; exact (List.mem_filter.mp hs).1
    rw [List.foldl_cons]
    have e2 : l = (pre ++ [m]) ++ rest := by rw [e]; simp
    unfold keepF
    by_cases a : (ks.all fun s => !r s m) = true
    · rw [if_pos a]
      simp only [List.all_eq_true, Bool.not_eq_true'] at a
      have fm : firstIn r l m = true := by
        unfold firstIn
        simp only [List.all_eq_true, Bool.or_eq_true, Bool.not_eq_true', beq_iff_eq]
        intro t ht
        by_cases tm : t = m
        · exact .inr tm
        · left
          rw [e] at ht
          rcases List.mem_append.mp ht with h | h
          · obtain ⟨s, s1, s2⟩ := cov t h
            cases z : r t m with
            | false => rfl
            | true =>
              have := a s s1
              rcases s2 with rfl | s2
              · rw [z] at this; cases this
              · rw [tr s t m s2 z] at this; cases this
          · rcases List.mem_cons.mp h with h | h
            · exact absurd h tm
            · exact later t h
      refine keep_first r tr l nd pw rest (pre ++ [m]) _ e2 (fun t ht => ?_) ?_
      · rcases List.mem_append.mp ht with h | h
        · obtain ⟨s, s1, s2⟩ := cov t h
          exact ⟨s, List.mem_append_left _ s1, s2⟩
        · exact ⟨m, by simp, .inl (List.mem_singleton.mp h).symm⟩
      · rw [List.filter_append, ← k, List.filter_cons_of_pos fm]
        rfl
    · rw [if_neg a]
      have a : ∃ s ∈ ks, r s m = true := by
        simpa using a
      obtain ⟨s, s1, s2⟩ := a
      have fm : firstIn r l m = false := by
        unfold firstIn
        rw [List.all_eq_false]
        refine ⟨s, by rw [e]; exact List.mem_append_left _ (sub s s1), ?_⟩
        rw [s2]
        simp only [Bool.not_true, Bool.false_or, beq_iff_eq]
        exact fun h => mpre (h ▸ sub s s1)
      refine keep_first r tr l nd pw rest (pre ++ [m]) _ e2 (fun t ht => ?_) ?_
      · rcases List.mem_append.mp ht with h | h
        · exact cov t h
        · exact ⟨s, s1, .inr (List.mem_singleton.mp h ▸ s2)⟩
      · rw [List.filter_append, ← k, List.filter_cons_of_neg (by rw [fm]; simp)]
        simp
/-! ### least and greatest -/
def minl (ms : List Nat) : List Nat := ms.filter (firstIn wnB ms)
def ovB (g m : Nat) : Bool := wnB m g
def maxl (ms : List Nat) : List Nat := ms.filter (firstIn ovB ms)
def pairsB (r : Nat → Nat → Bool) : List Nat → Bool
  | [] => true
  | a :: l => (l.all fun b => r a b) && pairsB r l
theorem pairsB_pw {r : Nat → Nat → Bool} : ∀ {l : List Nat}, pairsB r l = true → l.Pairwise fun a b => r a b = true
  | [], _ => .nil
  | a :: l, h => by
    have h : ((l.all fun b => r a b) && pairsB r l) = true := h
    rw [Bool.and_eq_true, List.all_eq_true] at h
    exact .cons h.1 (pairsB_pw h.2)
theorem ordSub_all : ((List.range 8).all fun c => pairsB (fun a b => !wnB b a) (ord c)) = true := by decide +kernel
theorem ord_sub {c : Nat} (h : c ≤ 7) : (ord c).Pairwise fun a b => wnB b a = false := by
  have z := pairsB_pw (List.all_eq_true.mp ordSub_all c (List.mem_range.mpr (by omega)))
  exact z.imp fun {a b} h => by simpa using h
theorem firstIn_congr {r : Nat → Nat → Bool} {l k : List Nat} (h : ∀ m, m ∈ l ↔ m ∈ k) (m : Nat) : firstIn r l m = firstIn r k m := by
  unfold firstIn
  rw [Bool.eq_iff_iff, List.all_eq_true, List.all_eq_true]
  exact ⟨fun q s hs => q s ((h s).mpr hs), fun q s hs => q s ((h s).mp hs)⟩
theorem can_filter {c : Nat} {ms : List Nat} (p : Nat → Bool) : (can c ms).filter p = can c (ms.filter p) := by
  unfold can
  rw [List.filter_filter]
  refine List.filter_congr fun m _ => ?_
  rw [Bool.eq_iff_iff, Bool.and_eq_true, List.contains_iff_mem, List.contains_iff_mem, List.mem_filter]
  exact ⟨fun h => ⟨h.2, h.1⟩, fun h => ⟨h.2, h.1⟩⟩
theorem least_fold {c : Nat} (hc : c ≤ 7) {ms : List Nat} (b : ∀ m ∈ ms, m < 2 ^ c) : (can c ms).foldl (keepF wnB) [] = can c (minl ms) := by
  have O := ord_ok hc
  rw [keep_first wnB (fun _ _ _ => wnB_trans) (can c ms) (can_nodup O) ((ord_sub hc).filter _) (can c ms) [] [] rfl (by simp) rfl, can_filter]
  unfold minl
  congr 1
  exact List.filter_congr fun m _ => firstIn_congr (fun m => mem_can O b) m
theorem greatest_fold {c : Nat} (hc : c ≤ 7) {ms : List Nat} (b : ∀ m ∈ ms, m < 2 ^ c) : (can c ms).reverse.foldl (keepF ovB) [] = (can c (maxl ms)).reverse := by
  have O := ord_ok hc
  have pw : (can c ms).reverse.Pairwise fun a b => ovB b a = false := by
    rw [List.pairwise_reverse]
    exact (ord_sub hc).filter _
  have nd : (can c ms).reverse.Nodup := (List.reverse_perm _).nodup_iff.mpr (can_nodup O)
  rw [keep_first ovB (fun a b c h k => wnB_trans k h) _ nd pw (can c ms).reverse [] [] rfl (by simp) rfl, List.filter_reverse, can_filter]
  unfold maxl
  congr 2
  exact List.filter_congr fun m _ => firstIn_congr (fun m => by rw [List.mem_reverse]; exact mem_can O b) m
theorem mem_minl {ms : List Nat} {m : Nat} : m ∈ minl ms ↔ m ∈ ms ∧ ∀ s ∈ ms, wnB s m = true → s = m := by
  unfold minl firstIn
  simp only [List.mem_filter, List.all_eq_true, Bool.or_eq_true, Bool.not_eq_true', beq_iff_eq]
  refine and_congr_right fun _ => forall_congr' fun s => forall_congr' fun _ => ?_
  cases wnB s m <;> simp
theorem mem_maxl {ms : List Nat} {m : Nat} : m ∈ maxl ms ↔ m ∈ ms ∧ ∀ s ∈ ms, wnB m s = true → s = m := by
  unfold maxl firstIn ovB
  simp only [List.mem_filter, List.all_eq_true, Bool.or_eq_true, Bool.not_eq_true', beq_iff_eq]
  refine and_congr_right fun _ => forall_congr' fun s => forall_congr' fun _ => ?_
  cases wnB m s <;> simp
theorem minl_bd {c : Nat} {ms : List Nat} (b : ∀ m ∈ ms, m < 2 ^ c) : ∀ m ∈ minl ms, m < 2 ^ c := fun m hm => b m (mem_minl.mp hm).1
theorem maxl_bd {c : Nat} {ms : List Nat} (b : ∀ m ∈ ms, m < 2 ^ c) : ∀ m ∈ maxl ms, m < 2 ^ c := fun m hm => b m (mem_maxl.mp hm).1
theorem minl_below {ms : List Nat} : ∀ (n m : Nat), m ≤ n → m ∈ ms → ∃ s ∈ minl ms, wnB s m = true
  | 0, m, h, hm => by
    have h : m = 0 := by omega
    subst h
    exact ⟨0, mem_minl.mpr ⟨hm, fun s _ q => by have := wnB_le q; omega⟩, wnB_refl 0⟩
  | n + 1, m, h, hm => by
    by_cases z : ∀ s ∈ ms, wnB s m = true → s = m
    · exact ⟨m, mem_minl.mpr ⟨hm, z⟩, wnB_refl m⟩
    · simp only [Classical.not_forall] at z
      obtain ⟨s, s1, s2, s3⟩ := z
      have := wnB_le s2
      obtain ⟨t, t1, t2⟩ := minl_below n s (by omega) s1
      exact ⟨t, t1, wnB_trans t2 s2⟩
/-! ### hitting -/
/-- the masks below 2^c that have something in common with each of fs -/
def hitl (c : Nat) (fs : List Nat) : List Nat := (List.range (2 ^ c)).filter fun m => fs.all fun f => decide (0 < m &&& f)
theorem mem_hitl {c m : Nat} {fs : List Nat} : m ∈ hitl c fs ↔ m < 2 ^ c ∧ ∀ f ∈ fs, 0 < m &&& f := by
  unfold hitl
  simp only [List.mem_filter, List.mem_range, List.all_eq_true, decide_eq_true_eq]
theorem meet_pos {a b : Nat} : 0 < a &&& b ↔ ∃ j, a.testBit j = true ∧ b.testBit j = true := by
  constructor
  · intro h
    apply Classical.byContradiction
    intro n
    have : a &&& b = 0 := by
      apply Nat.eq_of_testBit_eq
      intro j
      rw [Nat.testBit_and, Nat.zero_testBit]
      cases ha : a.testBit j with
      | false => rfl
      | true =>
        cases hb : b.testBit j with
        | false => rfl
        | true => exact absurd ⟨j, ha, hb⟩ n
    omega
  · rintro ⟨j, h1, h2⟩
    rcases Nat.eq_zero_or_pos (a &&& b) with z | z
    · have := congrArg (fun z => Nat.testBit z j) z
      simp only [Nat.testBit_and, h1, h2, Nat.zero_testBit] at this
      cases this
    · exact z
theorem rest_bit {c m j : Nat} (hm : m < 2 ^ c) : (2 ^ c - 1 - m).testBit j = (decide (j < c) && !m.testBit j) := by
  have e : 2 ^ c - 1 - m = 2 ^ c - (m + 1) := by omega
  rw [e, Nat.testBit_two_pow_sub_succ hm]
/-- hitting twice: the least of fs -/
theorem hit_twice {c : Nat} {fs : List Nat} (b : ∀ f ∈ fs, f < 2 ^ c) (m : Nat) : m ∈ minl (hitl c (minl (hitl c fs))) ↔ m ∈ minl fs := by
  -- what hits all least hitting ones includes one of fs
  have key : ∀ s, s ∈ hitl c (minl (hitl c fs)) ↔ s < 2 ^ c ∧ ∃ f ∈ fs, wnB f s = true := by
    intro s
    rw [mem_hitl]
    refine and_congr_right fun hs => ⟨fun h => ?_, fun ⟨f, f1, f2⟩ h hh => ?_⟩
    · apply Classical.byContradiction
      intro n
      have co : 2 ^ c - 1 - s ∈ hitl c fs := by
        rw [mem_hitl]
        refine ⟨by have := Nat.two_pow_pos c; omega, fun f hf => ?_⟩
        have nf : ¬ wnB f s = true := fun z => n ⟨f, hf, z⟩
        rw [wnB_iff] at nf
        simp only [Classical.not_forall] at nf
        obtain ⟨j, j1, j2⟩ := nf
        refine meet_pos.mpr ⟨j, ?_, j1⟩
        rw [rest_bit hs]
        have jc : j < c := by
          rcases Nat.lt_or_ge j c with z | z
          · exact z
          · have : f < 2 ^ j := Nat.lt_of_lt_of_le (b f hf) (Nat.pow_le_pow_right (by decide) z)
            rw [Nat.testBit_lt_two_pow this] at j1
            cases j1
        simp only [Bool.not_eq_true] at j2
        rw [j2, decide_eq_true jc]
        rfl
      obtain ⟨h0, m1, m2⟩ := minl_below _ _ (Nat.le_refl _) co
      obtain ⟨j, j1, j2⟩ := meet_pos.mp (h h0 m1)
      have := wnB_iff.mp m2 j j2
      rw [rest_bit hs, j1] at this
      simp at this
    · obtain ⟨j, j1, j2⟩ := meet_pos.mp ((mem_hitl.mp (mem_minl.mp hh).1).2 f f1)
      exact meet_pos.mpr ⟨j, wnB_iff.mp f2 j j2, j1⟩
  rw [mem_minl, mem_minl]
  constructor
  · rintro ⟨h1, h2⟩
    obtain ⟨hm, f, f1, f2⟩ := (key m).mp h1
    have e := h2 f ((key f).mpr ⟨b f f1, f, f1, wnB_refl f⟩) f2
    subst e
    exact ⟨f1, fun s hs q => h2 s ((key s).mpr ⟨b s hs, s, hs, wnB_refl s⟩) q⟩
  · rintro ⟨h1, h2⟩
    refine ⟨(key m).mpr ⟨b m h1, m, h1, wnB_refl m⟩, fun s hs q => ?_⟩
    obtain ⟨_, f, f1, f2⟩ := (key s).mp hs
    have e := h2 f f1 (wnB_trans f2 q)
    subst e
    exact wnB_anti q f2
theorem hitl_congr {c : Nat} {fs gs : List Nat} (h : ∀ m, m ∈ fs ↔ m ∈ gs) : hitl c fs = hitl c gs := by
  unfold hitl
  refine List.filter_congr fun m _ => ?_
  rw [Bool.eq_iff_iff, List.all_eq_true, List.all_eq_true]
  exact ⟨fun q s hs => q s ((h s).mpr hs), fun q s hs => q s ((h s).mp hs)⟩
theorem minl_mem_congr {fs gs : List Nat} (h : ∀ m, m ∈ fs ↔ m ∈ gs) (m : Nat) : m ∈ minl fs ↔ m ∈ minl gs := by
  rw [mem_minl, mem_minl, h]
  exact and_congr_right fun _ => ⟨fun q s hs => q s ((h s).mpr hs), fun q s hs => q s ((h s).mp hs)⟩
theorem sel_rest {c m : Nat} (hm : m < 2 ^ c) : sel c (2 ^ c - 1 - m) = (List.range c).filter fun k => !(sel c m).contains k := by
  unfold sel
  refine List.filter_congr fun k hk => ?_
  rw [rest_bit hm, decide_eq_true (List.mem_range.mp hk), Bool.true_and]
  congr 1
  rw [Bool.eq_iff_iff, List.contains_iff_mem, List.mem_filter]
  exact ⟨fun h => ⟨hk, h⟩, fun h => h.2⟩
end DL
set_option Elab.async false
set_option linter.all false
set_option maxRecDepth 100000
set_option maxHeartbeats 1000000
/-! DH1: states, settings, cubes. No program in sight. -/
namespace DL
open PySem PySem.Spec PyProof.Rows L2 Cb
@[simp] theorem callN5 {m : List D → Res D} {a b c d e : D} : callN 5 m [a, b, c, d, e] = m [a, b, c, d, e] := id rfl
abbrev Sta := List (Option Bool)
def oB : Option Bool → D
  | none => .non
  | some b => .bl b
def stD (st : Sta) : D := .tup (st.map oB)
def oN : Option Nat → D
  | none => .non
  | some k => .int (k : Int)
/-- the worlds over n letters in which letter k does not hold -/
def lowS (n k : Nat) : Nat := (2 ^ 2 ^ n - 1) / (2 ^ 2 ^ k + 1)
def cubeG (n : Nat) : Nat → Nat → Sta → Nat
  | _, p, [] => p
  | k, p, none :: st => cubeG n (k + 1) p st
  | k, p, some false :: st => cubeG n (k + 1) (p &&& lowS n k) st
  | k, p, some true :: st => cubeG n (k + 1) (p &&& (lowS n k * 2 ^ 2 ^ k)) st
def cubeS (st : Sta) : Nat := cubeG st.length 0 (2 ^ 2 ^ st.length - 1) st
def isOp (st : Sta) (k : Nat) : Bool := match st[k]? with
  | some none => true
  | _ => false
def stepS (made : List Sta) (k : Nat) : List Sta := made.flatMap fun p => [p.set k (some false), p.set k (some true)]
def setS (st : Sta) (L : List Nat) : List Sta := L.foldl (fun made k => if isOp st k then stepS made k else made) [st]
def setNum (st : Sta) (ls : List Nat) (num : Nat) : Sta := ls.reverse.zipIdx.foldl (fun p e => p.set e.1 (some (num.testBit e.2))) st
def reopS (st : Sta) (L : List Nat) : Sta := st.mapIdx fun k v => if L.contains k then none else v
def allSt : Nat → List Sta
  | 0 => [[]]
  | n + 1 => (allSt n).flatMap fun s => [none :: s, some false :: s, some true :: s]
theorem mem_allSt : ∀ (st : Sta), st ∈ allSt st.length
  | [] => List.mem_cons_self
  | v :: st => by
    show _ ∈ (allSt st.length).flatMap _
    refine List.mem_flatMap.mpr ⟨st, mem_allSt st, ?_⟩
    rcases v with _ | b
    · simp
    · cases b <;> simp
/-- a check of all states and selections of letters -/
def allK (f : Nat → Sta → Nat → Bool) : Bool := (List.range 5).all fun n => (allSt n).all fun st => (List.range (2 ^ n)).all fun lm => f n st lm
theorem allK_at {f : Nat → Sta → Nat → Bool} (h : allK f = true) {st : Sta} (hn : st.length ≤ 4) {lm : Nat} (hl : lm < 2 ^ st.length) : f st.length st lm = true := by
  unfold allK at h
  simp only [List.all_eq_true] at h
  exact h st.length (List.mem_range.mpr (by omega)) st (mem_allSt st) lm (List.mem_range.mpr hl)
def ckNum (n : Nat) (st : Sta) (lm : Nat) : Bool := decide ((List.range (2 ^ ((sel n lm).filter (isOp st)).length)).map (setNum st ((sel n lm).filter (isOp st))) = setS st (sel n lm))
theorem num_all : allK ckNum = true := by decide +kernel
/-- does a world agree with a state -/
def agrB (st : Sta) (w : Nat) : Bool := st.zipIdx.all fun e => match e.1 with
  | none => true
  | some b => w.testBit e.2 == b
def ckCube (n : Nat) (st : Sta) (_ : Nat) : Bool := decide (cubeS st < 2 ^ 2 ^ n) && (List.range (2 ^ n)).all fun w => (cubeS st).testBit w == agrB st w
theorem cube_all : ((List.range 5).all fun n => (allSt n).all fun st => ckCube n st 0) = true := by decide +kernel
theorem cube_at {st : Sta} (hn : st.length ≤ 4) : cubeS st < 2 ^ 2 ^ st.length ∧ ∀ w, (cubeS st).testBit w = (decide (w < 2 ^ st.length) && agrB st w) := by
  have h := cube_all
  simp only [List.all_eq_true] at h
  have h := h st.length (List.mem_range.mpr (by omega)) st (mem_allSt st)
  unfold ckCube at h
  simp only [Bool.and_eq_true, decide_eq_true_eq, List.all_eq_true, beq_iff_eq, List.mem_range] at h
  refine ⟨h.1, fun w => ?_⟩
  by_cases hw : w < 2 ^ st.length
  · rw [h.2 w hw, decide_eq_true hw, Bool.true_and]
  · rw [decide_eq_false hw, Bool.false_and]
    exact Nat.testBit_lt_two_pow (Nat.lt_of_lt_of_le h.1 (Nat.pow_le_pow_right (by decide) (by omega)))
theorem agrB_iff {st : Sta} {w : Nat} : agrB st w = true ↔ ∀ k b, st[k]? = some (some b) → w.testBit k = b := by
  unfold agrB
  simp only [List.all_eq_true]
  constructor
  · intro h k b hk
    have := h (some b, k) (by rw [List.mem_zipIdx_iff_getElem?]; exact hk)
    simpa using this
  · rintro h ⟨v, k⟩ hm
    rw [List.mem_zipIdx_iff_getElem?] at hm
    cases v with
    | none => rfl
    | some b => simpa using h k b hm
theorem mem_fold (st : Sta) : ∀ (L : List Nat) (made : List Sta) (p : Sta), (∀ q ∈ made, q.length = st.length) → (p ∈ L.foldl (fun made k => if isOp st k then stepS made k else made) made ↔
    ∃ q ∈ made, p.length = st.length ∧ ∀ k, (k ∈ L ∧ isOp st k = true → ∃ b, p[k]? = some (some b)) ∧ (¬ (k ∈ L ∧ isOp st k = true) → p[k]? = q[k]?))
  | [], made, p, hm => by
    simp only [List.foldl_nil, List.not_mem_nil, false_and, not_false_eq_true, forall_const, false_implies, true_and]
    constructor
    · intro h; exact ⟨p, h, hm p h, fun _ => rfl⟩
    · rintro ⟨q, hq, _, h⟩
      have : p = q := List.ext_getElem? h
      rw [this]; exact hq
  | k :: L, made, p, hm => by
    rw [List.foldl_cons]
    by_cases ho : isOp st k = true
    · rw [if_pos ho]
      have hk : k < st.length := by
        unfold isOp at ho
        cases hs : st[k]? with
        | none => rw [hs] at ho; cases ho
        | some v => exact (List.getElem?_eq_some_iff.mp hs).1
      have hm2 : ∀ q ∈ stepS made k, q.length = st.length := fun q hq => by
        obtain ⟨q0, h0, hq⟩ := List.mem_flatMap.mp hq
        have := hm q0 h0
        simp only [List.mem_cons, List.not_mem_nil, or_false] at hq
        rcases hq with rfl | rfl <;> rw [List.length_set] <;> exact this
      rw [mem_fold st L (stepS made k) p hm2]
      constructor
      · rintro ⟨q, hq, hl, h⟩
        obtain ⟨q0, h0, hq⟩ := List.mem_flatMap.mp hq
        have hl0 := hm q0 h0
        obtain ⟨b0, rfl⟩ : ∃ b0, q = q0.set k (some b0) := by
          simp only [List.mem_cons, List.not_mem_nil, or_false] at hq
          rcases hq with rfl | rfl
          · exact ⟨_, rfl⟩
          · exact ⟨_, rfl⟩
        refine ⟨q0, h0, hl, fun j => ⟨fun ⟨hj, hoj⟩ => ?_, fun hn => ?_⟩⟩
        · by_cases hjL : j ∈ L
          · exact (h j).1 ⟨hjL, hoj⟩
          · have e : j = k := by
              rcases List.mem_cons.mp hj with e | e
              · exact e
              · exact absurd e hjL
            subst e
            rw [(h j).2 fun z => hjL z.1, List.getElem?_set_self (by omega)]
            exact ⟨b0, rfl⟩
        · have nj : ¬ (j ∈ L ∧ isOp st j = true) := fun z => hn ⟨List.mem_cons_of_mem _ z.1, z.2⟩
          rw [(h j).2 nj, List.getElem?_set_ne]
          intro e
          subst e
          exact hn ⟨List.mem_cons_self, ho⟩
      · rintro ⟨q, hq, hl, h⟩
        obtain ⟨b, hb⟩ := (h k).1 ⟨List.mem_cons_self, ho⟩
        refine ⟨q.set k (some b), List.mem_flatMap.mpr ⟨q, hq, by cases b <;> simp⟩, hl, fun j => ⟨fun ⟨hj, hoj⟩ => (h j).1 ⟨List.mem_cons_of_mem _ hj, hoj⟩, fun hn => ?_⟩⟩
        by_cases e : j = k
        · subst e
          rw [List.getElem?_set_self (by rw [hm q hq]; exact hk), hb]
        · rw [List.getElem?_set_ne (Ne.symm e)]
          exact (h j).2 fun z => hn ⟨(List.mem_cons.mp z.1).resolve_left e, z.2⟩
    · rw [if_neg ho, mem_fold st L made p hm]
      refine exists_congr fun q => and_congr_right fun _ => and_congr_right fun _ => forall_congr' fun j => ?_
      have : (j ∈ k :: L ∧ isOp st j = true) ↔ (j ∈ L ∧ isOp st j = true) := by
        constructor
        · rintro ⟨h1, h2⟩
          rcases List.mem_cons.mp h1 with e | e
          · subst e; exact absurd h2 ho
          · exact ⟨e, h2⟩
        · rintro ⟨h1, h2⟩; exact ⟨List.mem_cons_of_mem _ h1, h2⟩
      rw [this]
theorem mem_setS {st : Sta} {L : List Nat} {p : Sta} : p ∈ setS st L ↔ p.length = st.length ∧ ∀ k, (k ∈ L ∧ isOp st k = true → ∃ b, p[k]? = some (some b)) ∧ (¬ (k ∈ L ∧ isOp st k = true) → p[k]? = st[k]?) := by
  unfold setS
  rw [mem_fold st L [st] p (by simp)]
  simp
/-- q has a value where p has it, the same -/
def finer (q p : Sta) : Prop := q.length = p.length ∧ ∀ (k : Nat) (b : Bool), p[k]? = some (some b) → q[k]? = some (some b)
theorem cube_finer {p q : Sta} (hn : p.length ≤ 4) (h : finer q p) : wnB (cubeS q) (cubeS p) = true := by
  refine wnB_iff.mpr fun w hw => ?_
  rw [(cube_at (st := q) (by rw [h.1]; exact hn)).2, Bool.and_eq_true, h.1] at hw
  rw [(cube_at hn).2, hw.1, Bool.true_and]
  exact agrB_iff.mpr fun k b hk => agrB_iff.mp hw.2 k b (h.2 k b hk)
theorem reopS_at {st : Sta} {L : List Nat} {k : Nat} : (reopS st L)[k]? = (st[k]?).map fun v => if L.contains k then none else v := by
  unfold reopS; rw [List.getElem?_mapIdx]
theorem reopS_len {st : Sta} {L : List Nat} : (reopS st L).length = st.length := by unfold reopS; rw [List.length_mapIdx]
theorem isOp_iff {st : Sta} {k : Nat} : isOp st k = true ↔ st[k]? = some none := by
  unfold isOp
  cases h : st[k]? with
  | none => simp
  | some v => cases v <;> simp
/-- the members of setS of a reopened state -/
theorem mem_reop {st : Sta} {L : List Nat} {p : Sta} : p ∈ setS (reopS st L) L ↔ p.length = st.length ∧ ∀ k, (k ∈ L ∧ k < st.length → ∃ b, p[k]? = some (some b)) ∧ (k ∉ L → p[k]? = st[k]?) := by
  rw [mem_setS, reopS_len]
  refine and_congr_right fun hl => forall_congr' fun k => ?_
  by_cases hk : k ∈ L
  · by_cases hkl : k < st.length
    · have : isOp (reopS st L) k = true := by
        rw [isOp_iff, reopS_at, List.getElem?_eq_getElem hkl]
        simp [hk]
      simp [hk, hkl, this]
    · have h1 : isOp (reopS st L) k = false := by
        rw [Bool.eq_false_iff]
        intro z
        rw [isOp_iff, reopS_at, List.getElem?_eq_none (by omega)] at z
        cases z
      simp only [hk, hkl, h1, and_false, false_implies, not_false_eq_true, forall_const, true_and, not_true_eq_false, true_implies, Bool.false_eq_true, implies_true, iff_true]
      rw [reopS_at, List.getElem?_eq_none (by omega), List.getElem?_eq_none (by omega)]
      rfl
  · simp only [hk, false_and, false_implies, not_false_eq_true, forall_const, true_and]
    rw [reopS_at]
    cases hs : st[k]? <;> simp [hk]
/-- can a group with the letters L keep the claim -/
def keepsB (st : Sta) (L : List Nat) (claim : Nat) : Bool := (setS st L).any fun p => wnB (cubeS p) claim
theorem keepsB_iff {st : Sta} {L : List Nat} {claim : Nat} : keepsB st L claim = true ↔ ∃ p ∈ setS st L, wnB (cubeS p) claim = true := by
  unfold keepsB; rw [List.any_eq_true]
theorem keeps_mono {st st' : Sta} {L L' : List Nat} {c c' : Nat} (hn : st.length ≤ 4) (h : ∀ p ∈ setS st L, ∃ q ∈ setS st' L', finer q p) (hc : wnB c c' = true) (k : keepsB st L c = true) : keepsB st' L' c' = true := by
  obtain ⟨p, hp, hw⟩ := keepsB_iff.mp k
  obtain ⟨q, hq, hf⟩ := h p hp
  exact keepsB_iff.mpr ⟨q, hq, wnB_trans (wnB_trans (cube_finer (by rw [(mem_setS.mp hp).1]; exact hn) hf) hw) hc⟩
/-- values for more letters of a state that has some -/
def fillS (p : Sta) (L : List Nat) : Sta := p.mapIdx fun k v => match v with
  | none => if L.contains k then some false else none
  | some b => some b
theorem fillS_at {p : Sta} {L : List Nat} {k : Nat} : (fillS p L)[k]? = (p[k]?).map fun v => match v with
  | none => if L.contains k then some false else none
  | some b => some b := by unfold fillS; rw [List.getElem?_mapIdx]
theorem fillS_len {p : Sta} {L : List Nat} : (fillS p L).length = p.length := by unfold fillS; rw [List.length_mapIdx]
theorem fill_finer {p : Sta} {L : List Nat} : finer (fillS p L) p := ⟨fillS_len, fun k b h => by rw [fillS_at, h]; rfl⟩
/-- more letters reopened: not less can be kept -/
theorem reop_up {st : Sta} {L L' : List Nat} (h : ∀ k ∈ L, k ∈ L') (p : Sta) (hp : p ∈ setS (reopS st L) L) : ∃ q ∈ setS (reopS st L') L', finer q p := by
  obtain ⟨hl, hp⟩ := mem_reop.mp hp
  refine ⟨fillS p L', mem_reop.mpr ⟨by rw [fillS_len]; exact hl, fun k => ⟨fun ⟨h1, h2⟩ => ?_, fun h1 => ?_⟩⟩, fill_finer⟩
  · rw [fillS_at, List.getElem?_eq_getElem (by omega)]
    cases hv : p[k]'(by omega) with
    | none => simp [h1]
    | some b => simp
  · rw [fillS_at, (hp k).2 fun z => h1 (h k z)]
    cases hs : st[k]? with
    | none => rfl
    | some v => cases v <;> simp [h1]
theorem now_reop {st : Sta} {L : List Nat} (p : Sta) (hp : p ∈ setS st L) : ∃ q ∈ setS (reopS st L) L, finer q p := by
  obtain ⟨hl, hp⟩ := mem_setS.mp hp
  refine ⟨p, mem_reop.mpr ⟨hl, fun k => ⟨fun ⟨h1, h2⟩ => ?_, fun h1 => (hp k).2 fun z => h1 z.1⟩⟩, rfl, fun _ _ h => h⟩
  by_cases ho : isOp st k = true
  · exact (hp k).1 ⟨h1, ho⟩
  · rw [(hp k).2 fun z => ho z.2, List.getElem?_eq_getElem h2]
    rw [isOp_iff, List.getElem?_eq_getElem h2] at ho
    cases hv : st[k] with
    | none => rw [hv] at ho; exact absurd rfl ho
    | some b => exact ⟨b, rfl⟩
theorem set_nil {st : Sta} : setS st [] = [st] := rfl
theorem reop_nil {st : Sta} : reopS st [] = st := by
  apply List.ext_getElem?
  intro k
  rw [reopS_at]
  cases st[k]? <;> simp
/-- a loop, by what is behind -/
theorem forL_pre {α : Type} {sl : List Nat} {g : D → Option (List D)} {fb : DEnv → SRes} (F : α → D) (R : List α → DEnv → Prop) (l : List α) (ρ : DEnv) (h : R [] ρ)
    (st : ∀ pre a post ρ, l = pre ++ a :: post → R pre ρ → ∃ vs ρ', g (F a) = some vs ∧ (fb (setAll ρ sl (vs.map Slot.d)) = .nx ρ' ∨ fb (setAll ρ sl (vs.map Slot.d)) = .ct ρ') ∧ R (pre ++ [a]) ρ') : ∃ ρ', forL sl g fb (l.map F) ρ = .nx ρ' ∧ R l ρ' := by
  obtain ⟨ρ', h1, h2⟩ := forL_ind (sl := sl) (g := g) (fb := fb) (fun i ρ => R (l.take i) ρ) (l.map F) 0 ρ (by simpa using h) fun i d ρ hd hI => by
    rw [List.getElem?_map] at hd
    cases ha : l[i]? with
    | none => rw [ha] at hd; cases hd
    | some a =>
      rw [ha] at hd
      cases hd
      have hi := (List.getElem?_eq_some_iff.mp ha).1
      have ea : l[i] = a := (List.getElem?_eq_some_iff.mp ha).2
      rw [Nat.zero_add] at hI ⊢
      obtain ⟨vs, ρ', k1, k2, k3⟩ := st (l.take i) a (l.drop (i + 1)) ρ (by rw [← ea, ← List.drop_eq_getElem_cons hi, List.take_append_drop]) hI
      refine ⟨vs, ρ', k1, k2, ?_⟩
      rw [List.take_add_one, ha]
      exact k3
  rw [Nat.zero_add, List.length_map, List.take_length] at h2
  exact ⟨ρ', h1, h2⟩
theorem stepS_app {a b : List Sta} {k : Nat} : stepS (a ++ b) k = stepS a k ++ stepS b k := by unfold stepS; rw [List.flatMap_append]
theorem setS_app {st : Sta} {a : List Nat} {k : Nat} : setS st (a ++ [k]) = if isOp st k then stepS (setS st a) k else setS st a := by
  unfold setS; rw [List.foldl_append]; rfl
theorem stepS_len {made : List Sta} {k : Nat} : (stepS made k).length = 2 * made.length := by
  unfold stepS
  induction made with
  | nil => rfl
  | cons a l ih => rw [List.flatMap_cons, List.length_append, ih, List.length_cons, List.length_cons, List.length_cons, List.length_nil]; omega
theorem setS_len {st : Sta} : ∀ (L : List Nat) (made : List Sta), (L.foldl (fun made k => if isOp st k then stepS made k else made) made).length ≤ 2 ^ L.length * made.length
  | [], made => by simp
  | k :: L, made => by
    rw [List.foldl_cons]
    refine Nat.le_trans (setS_len L _) ?_
    rw [List.length_cons, Nat.pow_succ, Nat.mul_assoc]
    refine Nat.mul_le_mul_left _ ?_
    split
    · rw [stepS_len]; exact Nat.le_refl _
    · omega
theorem setS_small {st : Sta} {L : List Nat} (h : L.length ≤ 4) : (setS st L).length ≤ 16 := by
  unfold setS
  refine Nat.le_trans (setS_len L [st]) ?_
  rw [List.length_singleton, Nat.mul_one]
  exact Nat.le_trans (Nat.pow_le_pow_right (by decide) h) (by decide)
end DL
set_option Elab.async false
set_option linter.all false
set_option maxRecDepth 100000
set_option maxHeartbeats 1000000
/-! DH2: groups as masks, the letters that they hold. No program in sight. -/
namespace DL
open PySem PySem.Spec PyProof.Rows L2 Cb
def Lh (hs : List (Option Nat)) (g : List Nat) : List Nat := (List.range hs.length).filter fun k => match hs[k]? with
  | some (some p) => g.contains p
  | _ => false
theorem mem_Lh {hs : List (Option Nat)} {g : List Nat} {k : Nat} : k ∈ Lh hs g ↔ ∃ p, hs[k]? = some (some p) ∧ p ∈ g := by
  unfold Lh
  rw [List.mem_filter, List.mem_range]
  constructor
  · rintro ⟨h1, h2⟩
    rw [List.getElem?_eq_getElem h1] at h2
    cases hv : hs[k] with
    | none => rw [hv] at h2; cases h2
    | some p =>
      rw [hv] at h2
      exact ⟨p, by rw [List.getElem?_eq_getElem h1, hv], List.contains_iff_mem.mp h2⟩
  · rintro ⟨p, h1, h2⟩
    refine ⟨(List.getElem?_eq_some_iff.mp h1).1, ?_⟩
    rw [h1]
    exact List.contains_iff_mem.mpr h2
theorem Lh_lt {hs : List (Option Nat)} {g : List Nat} : ∀ k ∈ Lh hs g, k < hs.length := fun k hk => List.mem_range.mp (List.mem_filter.mp hk).1
theorem Lh_nd {hs : List (Option Nat)} {g : List Nat} : (Lh hs g).Nodup := List.nodup_range.filter _
theorem Lh_sub {hs : List (Option Nat)} {g g' : List Nat} (h : ∀ p ∈ g, p ∈ g') : ∀ k ∈ Lh hs g, k ∈ Lh hs g' := fun k hk => by
  obtain ⟨p, h1, h2⟩ := mem_Lh.mp hk
  exact mem_Lh.mpr ⟨p, h1, h p h2⟩
theorem Lh_nil {hs : List (Option Nat)} : Lh hs [] = [] := by
  apply List.eq_nil_iff_forall_not_mem.mpr
  intro k hk
  obtain ⟨p, _, h⟩ := mem_Lh.mp hk
  cases h
theorem mem_sel {c m k : Nat} : k ∈ sel c m ↔ k < c ∧ m.testBit k = true := by unfold sel; rw [List.mem_filter, List.mem_range]
theorem sel_sub {c m m' : Nat} (h : wnB m m' = true) : ∀ k ∈ sel c m, k ∈ sel c m' := fun k hk => by
  obtain ⟨h1, h2⟩ := mem_sel.mp hk
  exact mem_sel.mpr ⟨h1, wnB_iff.mp h k h2⟩
theorem wn_sel {c m m' : Nat} (hm : m < 2 ^ c) : wnB m m' = true ↔ ∀ k ∈ sel c m, k ∈ sel c m' := by
  refine ⟨sel_sub, fun h => wnB_iff.mpr fun k hk => ?_⟩
  have hc : k < c := by
    rcases Nat.lt_or_ge k c with z | z
    · exact z
    · rw [Nat.testBit_lt_two_pow (Nat.lt_of_lt_of_le hm (Nat.pow_le_pow_right (by decide) z))] at hk; cases hk
  exact (mem_sel.mp (h k (mem_sel.mpr ⟨hc, hk⟩))).2
theorem sel_zero {c : Nat} : sel c 0 = [] := by
  apply List.eq_nil_iff_forall_not_mem.mpr
  intro k hk
  have := (mem_sel.mp hk).2
  rw [Nat.zero_testBit] at this
  cases this
theorem sel_full {c : Nat} : sel c (2 ^ c - 1) = List.range c := by
  unfold sel
  refine List.filter_eq_self.mpr fun k hk => ?_
  rw [Nat.testBit_two_pow_sub_one]
  exact decide_eq_true (List.mem_range.mp hk)
/-- one person less -/
def lessP (c m p : Nat) : Nat := m &&& (2 ^ c - 1 - 2 ^ p)
theorem lessP_bit {c m p j : Nat} (hp : p < c) (hj : j < c) : (lessP c m p).testBit j = (m.testBit j && !decide (p = j)) := by
  unfold lessP
  rw [Nat.testBit_and, rest_bit (Nat.pow_lt_pow_right (by decide) hp), decide_eq_true hj, Bool.true_and, Nat.testBit_two_pow]
theorem sel_less {c m p : Nat} (hp : p < c) : sel c (lessP c m p) = (sel c m).filter fun k => !decide (k = p) := by
  unfold sel
  rw [List.filter_filter]
  refine List.filter_congr fun k hk => ?_
  rw [lessP_bit hp (List.mem_range.mp hk), Bool.and_comm]
  congr 2
  rw [decide_eq_decide]
  exact eq_comm
theorem lessP_wn {c m p : Nat} : wnB (lessP c m p) m = true := wnB_iff.mpr fun j h => by
  unfold lessP at h
  rw [Nat.testBit_and, Bool.and_eq_true] at h
  exact h.1
theorem lessP_ne {c m p : Nat} (hp : p ∈ sel c m) : lessP c m p ≠ m := fun h => by
  obtain ⟨h1, h2⟩ := mem_sel.mp hp
  have := lessP_bit (m := m) h1 h1
  rw [h, h2] at this
  simp at this
theorem lessP_lt {c m p : Nat} (hm : m < 2 ^ c) : lessP c m p < 2 ^ c := Nat.lt_of_le_of_lt Nat.and_le_left hm
/-! ### which groups can keep a claim -/
def goodR (hs : List (Option Nat)) (st : Sta) (c claim m : Nat) : Bool := keepsB (reopS st (Lh hs (sel c m))) (Lh hs (sel c m)) claim
def goodN (hs : List (Option Nat)) (st : Sta) (c claim m : Nat) : Bool := keepsB st (Lh hs (sel c m)) claim
def leastG (c : Nat) (good : Nat → Bool) : List Nat := can c (minl ((List.range (2 ^ c)).filter good))
section
variable {hs : List (Option Nat)} {st : Sta} {c claim m m' : Nat} {good : Nat → Bool}
theorem leastG_bd {good : Nat → Bool} : ∀ m ∈ minl ((List.range (2 ^ c)).filter good), m < 2 ^ c := fun m hm => List.mem_range.mp (List.mem_filter.mp (mem_minl.mp hm).1).1
theorem mem_leastG (hc : c ≤ 7) : m ∈ leastG c good ↔ (m < 2 ^ c ∧ good m = true) ∧ ∀ s, s < 2 ^ c → good s = true → wnB s m = true → s = m := by
  unfold leastG
  rw [mem_can (ord_ok hc) leastG_bd, mem_minl, List.mem_filter, List.mem_range]
  refine and_congr_right fun _ => ⟨fun h s h1 h2 => h s (List.mem_filter.mpr ⟨List.mem_range.mpr h1, h2⟩), fun h s hs => ?_⟩
  obtain ⟨h1, h2⟩ := List.mem_filter.mp hs
  exact h s (List.mem_range.mp h1) h2
theorem leastG_below (hc : c ≤ 7) (hm : m < 2 ^ c) (h : good m = true) : ∃ t ∈ leastG c good, wnB t m = true := by
  obtain ⟨t, h1, h2⟩ := minl_below m m (Nat.le_refl _) (List.mem_filter.mpr ⟨List.mem_range.mpr hm, h⟩)
  exact ⟨t, (mem_can (ord_ok hc) leastG_bd).mpr h1, h2⟩
theorem leastG_nd (hc : c ≤ 7) : (leastG c good).Nodup := can_nodup (ord_ok hc)
theorem leastG_small (hc : c ≤ 7) : (leastG c good).length ≤ 128 := small_set hc (leastG_nd hc) fun m hm => ((mem_leastG hc).mp hm).1.1
theorem goodR_up (hn : st.length ≤ 4) (h : wnB m m' = true) (g : goodR hs st c claim m = true) : goodR hs st c claim m' = true :=
  keeps_mono (by rw [reopS_len]; exact hn) (reop_up (Lh_sub (sel_sub h))) (wnB_refl _) g
theorem goodR_wide {x : Nat} (hn : st.length ≤ 4) (h : wnB claim x = true) (g : goodR hs st c claim m = true) : goodR hs st c x m = true :=
  keeps_mono (by rw [reopS_len]; exact hn) (fun p hp => ⟨p, hp, rfl, fun _ _ q => q⟩) h g
theorem goodN_R (hn : st.length ≤ 4) (g : goodN hs st c claim m = true) : goodR hs st c claim m = true :=
  keeps_mono hn now_reop (wnB_refl _) g
theorem goodN_up (hn : st.length ≤ 4) (h : wnB m m' = true) (g : goodN hs st c claim m = true) : goodN hs st c claim m' = true := by
  refine keeps_mono hn (fun p hp => ?_) (wnB_refl _) g
  obtain ⟨hl, hp⟩ := mem_setS.mp hp
  have sub := Lh_sub (hs := hs) (sel_sub (c := c) h)
  refine ⟨fillS p (Lh hs (sel c m')), mem_setS.mpr ⟨by rw [fillS_len]; exact hl, fun k => ⟨fun ⟨h1, h2⟩ => ?_, fun h1 => ?_⟩⟩, fill_finer⟩
  · have hk : k < st.length := (List.getElem?_eq_some_iff.mp (isOp_iff.mp h2)).1
    rw [fillS_at, List.getElem?_eq_getElem (by omega)]
    cases hv : p[k]'(by omega) with
    | none => simp [h1]
    | some b => simp
  · rw [fillS_at, (hp k).2 fun z => h1 ⟨sub k z.1, z.2⟩]
    cases hs' : st[k]? with
    | none => rfl
    | some v =>
      cases v with
      | some b => rfl
      | none =>
        have : k ∉ Lh hs (sel c m') := fun z => h1 ⟨z, isOp_iff.mpr hs'⟩
        simp [this]
theorem goodR_zero : goodR hs st c claim 0 = wnB (cubeS st) claim := by
  unfold goodR keepsB
  rw [sel_zero, Lh_nil, reop_nil, set_nil]
  simp
theorem wn_zero : wnB 0 m = true := wnB_iff.mpr fun j h => by rw [Nat.zero_testBit] at h; cases h
/-- the least groups, if nobody is needed -/
theorem least_nobody (hc : c ≤ 7) (h : good 0 = true) : leastG c good = [0] := by
  have nd := leastG_nd (good := good) hc
  have h0 : 0 ∈ leastG c good := (mem_leastG hc).mpr ⟨⟨Nat.two_pow_pos c, h⟩, fun s _ _ q => by have := wnB_le q; omega⟩
  have all : ∀ t ∈ leastG c good, t = 0 := fun t ht => (((mem_leastG hc).mp ht).2 0 (Nat.two_pow_pos c) h wn_zero).symm
  match hL : leastG c good, h0, all, nd with
  | [a], h0, all, _ => rw [all a List.mem_cons_self]
  | a :: b :: l, _, all, nd =>
    have e1 := all a List.mem_cons_self
    have e2 := all b (List.mem_cons_of_mem _ List.mem_cons_self)
    rw [e1, e2] at nd
    simp at nd
theorem wn_full (hm : m < 2 ^ c) : wnB m (2 ^ c - 1) = true := wnB_iff.mpr fun j h => by
  rw [Nat.testBit_two_pow_sub_one, decide_eq_true_eq]
  rcases Nat.lt_or_ge j c with z | z
  · exact z
  · rw [Nat.testBit_lt_two_pow (Nat.lt_of_lt_of_le hm (Nat.pow_le_pow_right (by decide) z))] at h; cases h
theorem least_none (hc : c ≤ 7) (up : ∀ m m', wnB m m' = true → good m = true → good m' = true) : leastG c good = [] ↔ good (2 ^ c - 1) = false := by
  have lt : 2 ^ c - 1 < 2 ^ c := by have := Nat.two_pow_pos c; omega
  constructor
  · intro h
    cases hg : good (2 ^ c - 1) with
    | false => rfl
    | true =>
      obtain ⟨t, ht, _⟩ := leastG_below hc lt hg
      rw [h] at ht
      cases ht
  · intro h
    apply List.eq_nil_iff_forall_not_mem.mpr
    intro t ht
    obtain ⟨⟨h1, h2⟩, _⟩ := (mem_leastG hc).mp ht
    rw [up t _ (wn_full h1) h2] at h
    cases h
theorem least_less (hc : c ≤ 7) {p : Nat} (hm : m ∈ leastG c good) (hp : p ∈ sel c m) : good (lessP c m p) = false := by
  obtain ⟨⟨h1, h2⟩, h3⟩ := (mem_leastG hc).mp hm
  cases hg : good (lessP c m p) with
  | false => rfl
  | true => exact absurd (h3 _ (lessP_lt h1) hg lessP_wn) (lessP_ne hp)
end
end DL
set_option Elab.async false
set_option linter.all false
set_option maxRecDepth 100000
set_option maxHeartbeats 0
namespace W80
open PySem PySem.Spec PyProof.Rows L2 DL
/-! ### the text by places -/
def top (i : Nat) : Stmt := PySem.Challenge.pw_whatisdue_k80_whole_blame_of_least_group.main.body.getD i (.Pass ⟨0, 0, 0, 0⟩)
abbrev s__law_cell : Stmt := (top 27)
abbrev s__law_numbers : Stmt := (top 28)
abbrev s__law_holders : Stmt := (top 37)
abbrev s__law_state : Stmt := (top 38)
abbrev s__law_cube : Stmt := (top 30)
abbrev s__law_given : Stmt := (top 31)
abbrev s__law_flipped : Stmt := (top 39)
abbrev s__law_claim : Stmt := (top 40)
abbrev s_Hands_init : Stmt := (inClass (top 18) 0)
abbrev s__law_chosen : Stmt := (top 34)
abbrev s__law_reopened : Stmt := (top 41)
abbrev s__law_letters : Stmt := (top 35)
abbrev s__law_same : Stmt := (top 29)
abbrev s_Hands_held : Stmt := (inClass (top 18) 1)
abbrev s_reopened : Stmt := (top 23)
abbrev s__law_settings : Stmt := (top 32)
abbrev s__law_first_kept : Stmt := (top 33)
abbrev s__law_least_groups : Stmt := (top 36)
abbrev s__law_blame : Stmt := (top 42)
abbrev s_in_order : Stmt := (top 10)
abbrev s_mask_of : Stmt := (top 9)
abbrev s_least : Stmt := (top 11)
abbrev s_selections : Stmt := (top 8)
abbrev s_settings : Stmt := (top 20)
abbrev s_within : Stmt := (top 14)
abbrev s_prop_of : Stmt := (top 13)
abbrev s_cube : Stmt := (top 19)
abbrev s_can_keep : Stmt := (top 21)
abbrev s_could_keep : Stmt := (top 24)
abbrev s_blame : Stmt := (top 25)
abbrev s__law_could : Stmt := (top 45)
abbrev s__law_least : Stmt := (top 46)
abbrev s_least_groups : Stmt := (top 22)
abbrev s__law_now : Stmt := (top 43)
abbrev s__law_one_within : Stmt := (top 44)
abbrev s_law : Stmt := (top 47)
abbrev s_BadCount_init : Stmt := (inClass (top 3) 0)
abbrev s_BadHolder_init : Stmt := (inClass (top 5) 0)
abbrev s_TooMany_init : Stmt := (inClass (top 4) 0)
/-! ### what the walk asks of the text -/
structure Ad where
  c_Hands : Addr
  f__law_cell : Addr
  d__law_cell : FuncData
  f__law_numbers : Addr
  d__law_numbers : FuncData
  f__law_holders : Addr
  d__law_holders : FuncData
  f__law_state : Addr
  d__law_state : FuncData
  f__law_cube : Addr
  d__law_cube : FuncData
  f__law_given : Addr
  d__law_given : FuncData
  f__law_flipped : Addr
  d__law_flipped : FuncData
  f__law_claim : Addr
  d__law_claim : FuncData
  f_Hands_init : Addr
  d_Hands_init : FuncData
  f__law_chosen : Addr
  d__law_chosen : FuncData
  f__law_reopened : Addr
  d__law_reopened : FuncData
  f__law_letters : Addr
  d__law_letters : FuncData
  f__law_same : Addr
  d__law_same : FuncData
  f_Hands_held : Addr
  d_Hands_held : FuncData
  f_reopened : Addr
  d_reopened : FuncData
  f__law_settings : Addr
  d__law_settings : FuncData
  f__law_first_kept : Addr
  d__law_first_kept : FuncData
  f__law_least_groups : Addr
  d__law_least_groups : FuncData
  f__law_blame : Addr
  d__law_blame : FuncData
  f_in_order : Addr
  d_in_order : FuncData
  f_mask_of : Addr
  d_mask_of : FuncData
  f_least : Addr
  d_least : FuncData
  f_selections : Addr
  d_selections : FuncData
  f_settings : Addr
  d_settings : FuncData
  f_within : Addr
  d_within : FuncData
  f_prop_of : Addr
  d_prop_of : FuncData
  f_cube : Addr
  d_cube : FuncData
  f_can_keep : Addr
  d_can_keep : FuncData
  f_could_keep : Addr
  d_could_keep : FuncData
  f_blame : Addr
  d_blame : FuncData
  f__law_could : Addr
  d__law_could : FuncData
  f__law_least : Addr
  d__law_least : FuncData
  f_least_groups : Addr
  d_least_groups : FuncData
  f__law_now : Addr
  d__law_now : FuncData
  f__law_one_within : Addr
  d__law_one_within : FuncData
  f_law : Addr
  d_law : FuncData
  c_BadCount : Addr
  fx_BadCount : Addr
  dx_BadCount : FuncData
  c_BadHolder : Addr
  fx_BadHolder : Addr
  dx_BadHolder : FuncData
  c_TooMany : Addr
  fx_TooMany : Addr
  dx_TooMany : FuncData
  t_LETTER_LIMIT : Tok
  t_PEOPLE_LIMIT : Tok
  t_SELECTION_LIMIT : Tok
structure Tx (P : Program) (K : PySem.W.Frag) (mg : Str → Option Value) (A : Ad) : Prop where
  F__law_cell : Fun K "_law_cell" "_law_cell" s__law_cell A.f__law_cell A.d__law_cell
  b__law_cell : Binds K A.d__law_cell ["script", "k"] []
  m__law_cell : mg "_law_cell" = some (.ref A.f__law_cell)
  F__law_numbers : Fun K "_law_numbers" "_law_numbers" s__law_numbers A.f__law_numbers A.d__law_numbers
  b__law_numbers : Binds K A.d__law_numbers ["script", "at", "count", "radix"] []
  m__law_numbers : mg "_law_numbers" = some (.ref A.f__law_numbers)
  F__law_holders : Fun K "_law_holders" "_law_holders" s__law_holders A.f__law_holders A.d__law_holders
  b__law_holders : Binds K A.d__law_holders ["script", "at", "n", "people"] []
  m__law_holders : mg "_law_holders" = some (.ref A.f__law_holders)
  F__law_state : Fun K "_law_state" "_law_state" s__law_state A.f__law_state A.d__law_state
  b__law_state : Binds K A.d__law_state ["script", "at", "n"] []
  m__law_state : mg "_law_state" = some (.ref A.f__law_state)
  F__law_cube : Fun K "_law_cube" "_law_cube" s__law_cube A.f__law_cube A.d__law_cube
  b__law_cube : Binds K A.d__law_cube ["state"] []
  m__law_cube : mg "_law_cube" = some (.ref A.f__law_cube)
  F__law_given : Fun K "_law_given" "_law_given" s__law_given A.f__law_given A.d__law_given
  b__law_given : Binds K A.d__law_given ["state", "letter", "value"] []
  m__law_given : mg "_law_given" = some (.ref A.f__law_given)
  F__law_flipped : Fun K "_law_flipped" "_law_flipped" s__law_flipped A.f__law_flipped A.d__law_flipped
  b__law_flipped : Binds K A.d__law_flipped ["state", "letter"] []
  m__law_flipped : mg "_law_flipped" = some (.ref A.f__law_flipped)
  F__law_claim : Fun K "_law_claim" "_law_claim" s__law_claim A.f__law_claim A.d__law_claim
  b__law_claim : Binds K A.d__law_claim ["script", "at", "state"] []
  m__law_claim : mg "_law_claim" = some (.ref A.f__law_claim)
  F_Hands_init : Fun K "__init__" "Hands.__init__" s_Hands_init A.f_Hands_init A.d_Hands_init
  b_Hands_init : Binds K A.d_Hands_init ["self", "people", "holders"] []
  mk_Hands : Mk K A.c_Hands A.f_Hands_init
  F__law_chosen : Fun K "_law_chosen" "_law_chosen" s__law_chosen A.f__law_chosen A.d__law_chosen
  b__law_chosen : Binds K A.d__law_chosen ["mask", "count"] []
  m__law_chosen : mg "_law_chosen" = some (.ref A.f__law_chosen)
  F__law_reopened : Fun K "_law_reopened" "_law_reopened" s__law_reopened A.f__law_reopened A.d__law_reopened
  b__law_reopened : Binds K A.d__law_reopened ["state", "letters"] []
  m__law_reopened : mg "_law_reopened" = some (.ref A.f__law_reopened)
  F__law_letters : Fun K "_law_letters" "_law_letters" s__law_letters A.f__law_letters A.d__law_letters
  b__law_letters : Binds K A.d__law_letters ["holders", "group"] []
  m__law_letters : mg "_law_letters" = some (.ref A.f__law_letters)
  F__law_same : Fun K "_law_same" "_law_same" s__law_same A.f__law_same A.d__law_same
  b__law_same : Binds K A.d__law_same ["told", "expected"] []
  m__law_same : mg "_law_same" = some (.ref A.f__law_same)
  F_Hands_held : Fun K "held" "Hands.held" s_Hands_held A.f_Hands_held A.d_Hands_held
  b_Hands_held : Binds K A.d_Hands_held ["self", "group"] []
  mm_Hands_held : Meth K A.c_Hands "held" A.f_Hands_held
  F_reopened : Fun K "reopened" "reopened" s_reopened A.f_reopened A.d_reopened
  b_reopened : Binds K A.d_reopened ["hands", "state", "group"] []
  m_reopened : mg "reopened" = some (.ref A.f_reopened)
  F__law_settings : Fun K "_law_settings" "_law_settings" s__law_settings A.f__law_settings A.d__law_settings
  b__law_settings : Binds K A.d__law_settings ["state", "letters"] []
  m__law_settings : mg "_law_settings" = some (.ref A.f__law_settings)
  F__law_first_kept : Fun K "_law_first_kept" "_law_first_kept" s__law_first_kept A.f__law_first_kept A.d__law_first_kept
  b__law_first_kept : Binds K A.d__law_first_kept ["state", "letters", "claim"] []
  m__law_first_kept : mg "_law_first_kept" = some (.ref A.f__law_first_kept)
  F__law_least_groups : Fun K "_law_least_groups" "_law_least_groups" s__law_least_groups A.f__law_least_groups A.d__law_least_groups
  b__law_least_groups : Binds K A.d__law_least_groups ["people", "good"] []
  m__law_least_groups : mg "_law_least_groups" = some (.ref A.f__law_least_groups)
  F__law_blame : Fun K "_law_blame" "_law_blame" s__law_blame A.f__law_blame A.d__law_blame
  b__law_blame : Binds K A.d__law_blame ["people", "holders", "state", "claim"] []
  m__law_blame : mg "_law_blame" = some (.ref A.f__law_blame)
  F_in_order : Fun K "in_order" "in_order" s_in_order A.f_in_order A.d_in_order
  b_in_order : Binds K A.d_in_order ["found"] []
  m_in_order : mg "in_order" = some (.ref A.f_in_order)
  F_mask_of : Fun K "mask_of" "mask_of" s_mask_of A.f_mask_of A.d_mask_of
  b_mask_of : Binds K A.d_mask_of ["chosen"] []
  m_mask_of : mg "mask_of" = some (.ref A.f_mask_of)
  F_least : Fun K "least" "least" s_least A.f_least A.d_least
  b_least : Binds K A.d_least ["found"] []
  m_least : mg "least" = some (.ref A.f_least)
  F_selections : Fun K "selections" "selections" s_selections A.f_selections A.d_selections
  b_selections : Binds K A.d_selections ["count"] []
  m_selections : mg "selections" = some (.ref A.f_selections)
  F_settings : Fun K "settings" "settings" s_settings A.f_settings A.d_settings
  b_settings : Binds K A.d_settings ["hands", "state", "group"] []
  m_settings : mg "settings" = some (.ref A.f_settings)
  F_within : Fun K "within" "within" s_within A.f_within A.d_within
  b_within : Binds K A.d_within ["first", "second"] []
  m_within : mg "within" = some (.ref A.f_within)
  F_prop_of : Fun K "prop_of" "prop_of" s_prop_of A.f_prop_of A.d_prop_of
  b_prop_of : Binds K A.d_prop_of ["worlds"] []
  m_prop_of : mg "prop_of" = some (.ref A.f_prop_of)
  F_cube : Fun K "cube" "cube" s_cube A.f_cube A.d_cube
  b_cube : Binds K A.d_cube ["state"] []
  m_cube : mg "cube" = some (.ref A.f_cube)
  F_can_keep : Fun K "can_keep" "can_keep" s_can_keep A.f_can_keep A.d_can_keep
  b_can_keep : Binds K A.d_can_keep ["hands", "state", "group", "claim"] []
  m_can_keep : mg "can_keep" = some (.ref A.f_can_keep)
  F_could_keep : Fun K "could_keep" "could_keep" s_could_keep A.f_could_keep A.d_could_keep
  b_could_keep : Binds K A.d_could_keep ["hands", "state", "group", "claim"] []
  m_could_keep : mg "could_keep" = some (.ref A.f_could_keep)
  F_blame : Fun K "blame" "blame" s_blame A.f_blame A.d_blame
  b_blame : Binds K A.d_blame ["hands", "state", "claim"] []
  m_blame : mg "blame" = some (.ref A.f_blame)
  F__law_could : Fun K "_law_could" "_law_could" s__law_could A.f__law_could A.d__law_could
  b__law_could : Binds K A.d__law_could ["hands", "holders", "state", "group", "claim"] []
  m__law_could : mg "_law_could" = some (.ref A.f__law_could)
  F__law_least : Fun K "_law_least" "_law_least" s__law_least A.f__law_least A.d__law_least
  b__law_least : Binds K A.d__law_least ["hands", "holders", "state", "told", "claim"] []
  m__law_least : mg "_law_least" = some (.ref A.f__law_least)
  F_least_groups : Fun K "least_groups" "least_groups" s_least_groups A.f_least_groups A.d_least_groups
  b_least_groups : Binds K A.d_least_groups ["hands", "state", "claim"] []
  m_least_groups : mg "least_groups" = some (.ref A.f_least_groups)
  F__law_now : Fun K "_law_now" "_law_now" s__law_now A.f__law_now A.d__law_now
  b__law_now : Binds K A.d__law_now ["people", "holders", "state", "claim"] []
  m__law_now : mg "_law_now" = some (.ref A.f__law_now)
  F__law_one_within : Fun K "_law_one_within" "_law_one_within" s__law_one_within A.f__law_one_within A.d__law_one_within
  b__law_one_within : Binds K A.d__law_one_within ["found", "group"] []
  m__law_one_within : mg "_law_one_within" = some (.ref A.f__law_one_within)
  F_law : Fun K "law" "law" s_law A.f_law A.d_law
  b_law : Binds K A.d_law ["script"] []
  m_law : mg "law" = some (.ref A.f_law)
  g_Hands : mg "Hands" = some (.ref A.c_Hands)
  d_Hands : ClD K mg "Hands" A.c_Hands ["people", "holders", "n"]
  z_combinations : mg "combinations" = some (.type "itertools.combinations")
  top : (P.main.scope.names.lookup ("super" : Str)).isSome = false
  g_BadCount : mg "BadCount" = some (.ref A.c_BadCount)
  x_BadCount : FunX K "BadCount.__init__" s_BadCount_init P.main.file A.c_BadCount A.fx_BadCount A.dx_BadCount
  bx_BadCount : Binds K A.dx_BadCount ["self", "number"] []
  xn_BadCount_number : PySem.W.findIn K (.ref A.c_BadCount) "number" = some none
  g_BadHolder : mg "BadHolder" = some (.ref A.c_BadHolder)
  x_BadHolder : FunX K "BadHolder.__init__" s_BadHolder_init P.main.file A.c_BadHolder A.fx_BadHolder A.dx_BadHolder
  bx_BadHolder : Binds K A.dx_BadHolder ["self", "letter"] []
  xn_BadHolder_letter : PySem.W.findIn K (.ref A.c_BadHolder) "letter" = some none
  g_TooMany : mg "TooMany" = some (.ref A.c_TooMany)
  x_TooMany : FunX K "TooMany.__init__" s_TooMany_init P.main.file A.c_TooMany A.fx_TooMany A.dx_TooMany
  bx_TooMany : Binds K A.dx_TooMany ["self", "limit"] []
  xn_TooMany_limit : PySem.W.findIn K (.ref A.c_TooMany) "limit" = some none
  kv_LETTER_LIMIT : mg "LETTER_LIMIT" = some (Value.int 4 A.t_LETTER_LIMIT)
  kv_PEOPLE_LIMIT : mg "PEOPLE_LIMIT" = some (Value.int 5 A.t_PEOPLE_LIMIT)
  kv_SELECTION_LIMIT : mg "SELECTION_LIMIT" = some (Value.int 7 A.t_SELECTION_LIMIT)
  z_len : mg "len" = none
  z_int : mg "int" = none
  z_abs : mg "abs" = none
  z_range : mg "range" = none
  z_tuple : mg "tuple" = none
  z_all : mg "all" = none
  z_enumerate : mg "enumerate" = none
  z_list : mg "list" = none
  z_isinstance : mg "isinstance" = none
  z_bool : mg "bool" = none
  z_str : mg "str" = none
  z_sum : mg "sum" = none
  z_sorted : mg "sorted" = none
  z_reversed : mg "reversed" = none
  z_super : mg "super" = none
section
variable {P : Program} {w : World} {K : PySem.W.Frag} {mg : Str → Option Value} {base : Heap} {A : Ad}
theorem x_BadCount (T : Tx P K mg A) : FnOk P w K mg base (L2.CX P w) 1 A.fx_BadCount A.dx_BadCount ["self", "number"] (spEx A.c_BadCount ["number"]) :=
  fnx_of (k := 0) (N := ["self", "number", "__class__"]) T.x_BadCount (NdefX.nscope_by (by kernel_rfl)) rfl rfl rfl rfl T.z_super (by kernel_rfl) (by kernel_rfl) T.top (fun _ _ _ => rfl) (fun _ _ _ => rfl) (fun _ _ _ => rfl) (fun F' A outer s H E e1 e2 => keep1 e1 rfl rfl (by kernel_rfl) (by kernel_rfl) rfl) (keep1_t T.x_BadCount.T T.xn_BadCount_number)
theorem x_BadHolder (T : Tx P K mg A) : FnOk P w K mg base (L2.CX P w) 1 A.fx_BadHolder A.dx_BadHolder ["self", "letter"] (spEx A.c_BadHolder ["letter"]) :=
  fnx_of (k := 0) (N := ["self", "letter", "__class__"]) T.x_BadHolder (NdefX.nscope_by (by kernel_rfl)) rfl rfl rfl rfl T.z_super (by kernel_rfl) (by kernel_rfl) T.top (fun _ _ _ => rfl) (fun _ _ _ => rfl) (fun _ _ _ => rfl) (fun F' A outer s H E e1 e2 => keep1 e1 rfl rfl (by kernel_rfl) (by kernel_rfl) rfl) (keep1_t T.x_BadHolder.T T.xn_BadHolder_letter)
theorem x_TooMany (T : Tx P K mg A) : FnOk P w K mg base (L2.CX P w) 1 A.fx_TooMany A.dx_TooMany ["self", "limit"] (spEx A.c_TooMany ["limit"]) :=
  fnx_of (k := 0) (N := ["self", "limit", "__class__"]) T.x_TooMany (NdefX.nscope_by (by kernel_rfl)) rfl rfl rfl rfl T.z_super (by kernel_rfl) (by kernel_rfl) T.top (fun _ _ _ => rfl) (fun _ _ _ => rfl) (fun _ _ _ => rfl) (fun F' A outer s H E e1 e2 => keep1 e1 rfl rfl (by kernel_rfl) (by kernel_rfl) rfl) (keep1_t T.x_TooMany.T T.xn_TooMany_limit)
theorem sc__law_cell : FnScope ["script", "k"] ["script", "k"] (defScope s__law_cell) := ⟨rfl, rfl, rfl, by decide +kernel, rfl, by decide +kernel, by decide +kernel⟩
def g__law_cell : DEnv → SRes := (sSeq (sIf (eB (e2 dLt (eVar 1) (eL bLen (eCons (eVar 0) eNil)))) (sRet ((([0] ++ [1]) ++ []) ++ []) (eL bAbs (eCons (eL bInt (eCons (e2 dIx (eVar 0) (eVar 1)) eNil)) eNil))) sNil) (sRet [] (eC (.int 0))))
def m__law_cell : List D → Res D := mOf 2 false g__law_cell
theorem w__law_cell (T : Tx P K mg A) : FnD P w K mg base 1 A.f__law_cell A.d__law_cell ["script", "k"] false m__law_cell := fnd_of T.F__law_cell sc__law_cell fun cdv A outer s H E hr => (sds_cons (sd_if (ptd_cmp op_lt od_intb (pd_var 1) (pd_B call_lenA cd_len T.z_len (pad_cons (pd_var 0) pad_nil)) (by first | exact nomark _ | rfl)) (sds_one (sd_ret (pd_B call_abs cd_abs T.z_abs (pad_cons (pd_T call_int1 cd_int T.z_int (pad_cons (pd_ix (pd_var 0) (pd_var 1)) pad_nil)) pad_nil)))) sds_nil) (sds_one (sd_ret pd_int)))
theorem sc__law_numbers : FnScope ["script", "at", "count", "radix", "cell", "numbers", "left", "k", "mixed"] ["script", "at", "count", "radix"] (defScope s__law_numbers) := ⟨rfl, rfl, rfl, by decide +kernel, rfl, by decide +kernel, by decide +kernel⟩
def b__law_numbers_1 : DEnv → SRes := (sIf (eB (e2 dGt (eVar 6) (eC (.int 0)))) (sSeq (sApp false (([6] ++ []) ++ [3]) 5 (e2 dMod (eL bInt (eCons (eVar 6) eNil)) (eVar 3))) (sAsg false ([6] ++ [3]) 6 (e2 dDiv (eVar 6) (eVar 3)))) (sSeq (sAsg false (((((([4] ++ []) ++ ([] ++ [1])) ++ []) ++ ((([] ++ [7]) ++ ([] ++ [1])) ++ [])) ++ []) ++ []) 8 (e2 dMod (eL bInt (eCons (e2 dMul (e2 dAdd (e2 dAdd (e2 dMod (eVar 4) (eC (.int 999983))) (e2 dMul (eC (.int 37)) (eVar 1))) (eC (.int 1))) (e2 dAdd (e2 dAdd (e2 dMul (eC (.int 7919)) (eVar 7)) (e2 dMul (eC (.int 611)) (eVar 1))) (eC (.int 104729)))) eNil)) (eC (.int 1000003)))) (sApp false (((([8] ++ ([8] ++ [])) ++ []) ++ []) ++ [3]) 5 (e2 dMod (e2 dMod (eL bInt (eCons (e2 dMul (eVar 8) (e2 dAdd (eVar 8) (eC (.int 31)))) eNil)) (eC (.int 1000033))) (eVar 3)))))
def g__law_numbers : DEnv → SRes := (sSeq (sAsg false ([0] ++ ([1] ++ [])) 4 (eL (callN 2 m__law_cell) (eCons (eVar 0) (eCons (eVar 1) eNil)))) (sSeq (sAsgF false [] 5 (eLst eNil)) (sSeq (sAsg false [4] 6 (eVar 4)) (sSeq (sIf (eB (e2 dLt (eVar 6) (e2 dPow (eC (.int 10)) (eC (.int 18))))) (sAsg false [] 6 (eC (.int 0))) sNil) (sSeq (sForR [7] (eL rng1 (eCons (eVar 2) eNil)) g1 b__law_numbers_1) (sRetO 5))))))
def m__law_numbers : List D → Res D := mOf 9 true g__law_numbers
theorem w__law_numbers (T : Tx P K mg A) : FnD P w K mg base 2 A.f__law_numbers A.d__law_numbers ["script", "at", "count", "radix"] true m__law_numbers := fnd_of T.F__law_numbers sc__law_numbers fun cdv A outer s H E hr => (sds_cons (sd_asg false (i := 4) sc__law_numbers.nd (pd_call (ps := ["script", "k"]) (takes_of rfl rfl rfl rfl) hr (by decide) (w__law_cell T) T.m__law_cell T.F__law_cell.kp T.b__law_cell (pad_cons (pd_var 0) (pad_cons (pd_var 1) pad_nil)))) (sds_cons (sd_asgF false (i := 5) sc__law_numbers.nd (pf_lst pad_nil)) (sds_cons (sd_asg false (i := 6) sc__law_numbers.nd (pd_var 4)) (sds_cons (sd_if (ptd_cmp op_lt od_intb (pd_var 6) (pd_bin op_pow od_pow pd_int pd_int) (by first | exact nomark _ | rfl)) (sds_one (sd_asg false (i := 6) sc__law_numbers.nd pd_int)) sds_nil) (sds_cons (sd_forR (S := ([2] ++ [])) (passes_of rfl) rfl (id_range1 T.z_range (pad_cons (pd_var 2) pad_nil)) (gd_name sc__law_numbers.nd) (sds_one (sd_if (ptd_cmp op_gt od_intb (pd_var 6) pd_int (by first | exact nomark _ | rfl)) (sds_cons (sd_app false 5 (pd_bin op_mod od_mod (pd_T call_int1 cd_int T.z_int (pad_cons (pd_var 6) pad_nil)) (pd_var 3))) (sds_one (sd_asg false (i := 6) sc__law_numbers.nd (pd_bin op_fdiv od_div (pd_var 6) (pd_var 3))))) (sds_cons (sd_asg false (i := 8) sc__law_numbers.nd (pd_bin op_mod od_mod (pd_T call_int1 cd_int T.z_int (pad_cons (pd_bin op_mul od_mul (pd_bin op_addA od_add (pd_bin op_addA od_add (pd_bin op_mod od_mod (pd_var 4) pd_int) (pd_bin op_mul od_mul pd_int (pd_var 1))) pd_int) (pd_bin op_addA od_add (pd_bin op_addA od_add (pd_bin op_mul od_mul pd_int (pd_var 7)) (pd_bin op_mul od_mul pd_int (pd_var 1))) pd_int)) pad_nil)) pd_int)) (sds_one (sd_app false 5 (pd_bin op_mod od_mod (pd_bin op_mod od_mod (pd_T call_int1 cd_int T.z_int (pad_cons (pd_bin op_mul od_mul (pd_var 8) (pd_bin op_addA od_add (pd_var 8) pd_int)) pad_nil)) pd_int) (pd_var 3)))))))) (sds_one (sd_retO 5)))))))
theorem sc__law_holders : FnScope ["script", "at", "n", "people", "holders", "number"] ["script", "at", "n", "people"] (defScope s__law_holders) := ⟨rfl, rfl, rfl, by decide +kernel, rfl, by decide +kernel, by decide +kernel⟩
def b__law_holders_1 : DEnv → SRes := (sIf (eB (e2 dEq (eVar 5) (eVar 3))) (sApp false [] 4 (eC .non)) (sApp false [5] 4 (eVar 5)))
def g__law_holders : DEnv → SRes := (sSeq (sAsgF false [] 4 (eLst eNil)) (sSeq (sFor ([0] ++ ([1] ++ ([2] ++ (([3] ++ []) ++ [])))) [5] (eL (callF 4 m__law_numbers) (eCons (eVar 0) (eCons (eVar 1) (eCons (eVar 2) (eCons (e2 dAdd (eVar 3) (eC (.int 1))) eNil))))) g1 b__law_holders_1) (sRetO 4)))
def m__law_holders : List D → Res D := mOf 6 true g__law_holders
theorem w__law_holders (T : Tx P K mg A) : FnD P w K mg base 3 A.f__law_holders A.d__law_holders ["script", "at", "n", "people"] true m__law_holders := fnd_of T.F__law_holders sc__law_holders fun cdv A outer s H E hr => (sds_cons (sd_asgF false (i := 4) sc__law_holders.nd (pf_lst pad_nil)) (sds_cons (sd_for (passes_of rfl) rfl (id_new (pf_call (ps := ["script", "at", "count", "radix"]) (takes_of rfl rfl rfl rfl) hr (by decide) (w__law_numbers T) T.m__law_numbers T.F__law_numbers.kp T.b__law_numbers (pad_cons (pd_var 0) (pad_cons (pd_var 1) (pad_cons (pd_var 2) (pad_cons (pd_bin op_addA od_add (pd_var 3) pd_int) pad_nil)))))) (gd_name sc__law_holders.nd) (sds_one (sd_if (ptd_cmp (op_eqD hr.units) od_eq (pd_var 5) (pd_var 3) (by first | exact nomark _ | rfl)) (sds_one (sd_app false 4 pd_non)) (sds_one (sd_app false 4 (pd_var 5)))))) (sds_one (sd_retO 4))))
theorem sc__law_state : FnScope ["script", "at", "n", "menu", "number"] ["script", "at", "n"] (defScope s__law_state) := ⟨rfl, rfl, rfl, by decide +kernel, rfl, by decide +kernel, by decide +kernel⟩
def l__law_state_1 : DEnv → Res D := (e2 dIx (eVar 3) (eVar 4))
def g__law_state : DEnv → SRes := (sSeq (sAsg false ([] ++ ([] ++ ([] ++ ([] ++ ([] ++ []))))) 3 (eTup (eCons (eC (.bl false)) (eCons (eC (.bl true)) (eCons (eC (.bl false)) (eCons (eC (.bl true)) (eCons (eC .non) eNil))))))) (sSeq (sIf (eB (e2 dEq (e2 dMod (eL (callN 2 m__law_cell) (eCons (eVar 0) (eCons (e2 dAdd (eVar 1) (eC (.int 1))) eNil))) (eC (.int 4))) (eC (.int 3)))) (sAsg false ([] ++ ([] ++ ([] ++ ([] ++ ([] ++ []))))) 3 (eTup (eCons (eC (.bl false)) (eCons (eC (.bl true)) (eCons (eC (.bl true)) (eCons (eC (.bl false)) (eCons (eC (.bl true)) eNil))))))) sNil) (sRet ((([0] ++ ([1] ++ ([2] ++ ([] ++ [])))) ++ minus ([] ++ ([3] ++ [4])) [4]) ++ []) (eL bTuple (eCons (eFz (eLc [4] (eL (callF 4 m__law_numbers) (eCons (eVar 0) (eCons (eVar 1) (eCons (eVar 2) (eCons (eC (.int 5)) eNil))))) g1 tYesD l__law_state_1)) eNil)))))
def m__law_state : List D → Res D := mOf 5 false g__law_state
theorem w__law_state (T : Tx P K mg A) : FnD P w K mg base 3 A.f__law_state A.d__law_state ["script", "at", "n"] false m__law_state := fnd_of T.F__law_state sc__law_state fun cdv A outer s H E hr => (sds_cons (sd_asg false (i := 3) sc__law_state.nd (pd_tup (pad_cons pd_bl (pad_cons pd_bl (pad_cons pd_bl (pad_cons pd_bl (pad_cons pd_non pad_nil))))))) (sds_cons (sd_if (ptd_cmp (op_eqD hr.units) od_eq (pd_bin op_mod od_mod (pd_call (ps := ["script", "k"]) (takes_of rfl rfl rfl rfl) hr (by decide) (w__law_cell T) T.m__law_cell T.F__law_cell.kp T.b__law_cell (pad_cons (pd_var 0) (pad_cons (pd_bin op_addA od_add (pd_var 1) pd_int) pad_nil))) pd_int) pd_int (by first | exact nomark _ | rfl)) (sds_one (sd_asg false (i := 3) sc__law_state.nd (pd_tup (pad_cons pd_bl (pad_cons pd_bl (pad_cons pd_bl (pad_cons pd_bl (pad_cons pd_bl pad_nil)))))))) sds_nil) (sds_one (sd_ret (pd_T call_tuple_of cd_tuple T.z_tuple (pad_cons (pd_fz (pf_lc rfl sc__law_state.nd (id_new (pf_call (ps := ["script", "at", "count", "radix"]) (takes_of rfl rfl rfl rfl) hr (by decide) (w__law_numbers T) T.m__law_numbers T.F__law_numbers.kp T.b__law_numbers (pad_cons (pd_var 0) (pad_cons (pd_var 1) (pad_cons (pd_var 2) (pad_cons pd_int pad_nil)))))) (blkOk_by (own := [("number", 4)]) (by kernel_rfl)) rfl (fun s H C cl fp => (gd_name sc__law_state.nd)) (fun s H C cl fp => ptsd_nil) (fun s H C cl fp => (pd_ix (pd_var 3) (pd_var 4))))) pad_nil))))))
theorem sc__law_cube : FnScope ["state", "prop", "world", "k"] ["state"] (defScope s__law_cube) := ⟨rfl, rfl, rfl, by decide +kernel, rfl, by decide +kernel, by decide +kernel⟩
def l__law_cube_1 : DEnv → Res D := (eOrV (e2 dIsN (e2 dIx (eVar 0) (eVar 3)) (eC .non)) (e2 dEq (e2 dIx (eVar 0) (eVar 3)) (e2 dEq (e2 dAnd (e2 dShr (eVar 2) (eVar 3)) (eC (.int 1))) (eC (.int 1)))))
def b__law_cube_1 : DEnv → SRes := (sIf (eTru (eL bAll (eCons (eFz (eLc [3] (eL rng1 (eCons (eL bLen (eCons (eVar 0) eNil)) eNil)) g1 tYesD l__law_cube_1)) eNil))) (sAsg false ([1] ++ ([] ++ [2])) 1 (e2 dOr (eVar 1) (e2 dShl (eC (.int 1)) (eVar 2)))) sNil)
def g__law_cube : DEnv → SRes := (sSeq (sAsg false [] 1 (eC (.int 0))) (sSeq (sForR [2] (eL rng1 (eCons (e2 dShl (eC (.int 1)) (eL bLen (eCons (eVar 0) eNil))) eNil)) g1 b__law_cube_1) (sRet [1] (eVar 1))))
def m__law_cube : List D → Res D := mOf 4 false g__law_cube
theorem w__law_cube (T : Tx P K mg A) : FnD P w K mg base 1 A.f__law_cube A.d__law_cube ["state"] false m__law_cube := fnd_of T.F__law_cube sc__law_cube fun cdv A outer s H E hr => (sds_cons (sd_asg false (i := 1) sc__law_cube.nd pd_int) (sds_cons (sd_forR (S := (([] ++ ([0] ++ [])) ++ [])) (passes_of rfl) rfl (id_range1 T.z_range (pad_cons (pd_bin op_shl od_shl pd_int (pd_B call_lenA cd_len T.z_len (pad_cons (pd_var 0) pad_nil))) pad_nil)) (gd_name sc__law_cube.nd) (sds_one (sd_if (ptd_tru (pd_B (cr_all rfl) cd_all T.z_all (pad_cons (pd_fz (pf_lc rfl sc__law_cube.nd (id_of0 (id_range1 T.z_range (pad_cons (pd_B call_lenA cd_len T.z_len (pad_cons (pd_var 0) pad_nil)) pad_nil))) (blkOk_by (own := [("k", 3)]) (by kernel_rfl)) rfl (fun s H C cl fp => (gd_name sc__law_cube.nd)) (fun s H C cl fp => ptsd_nil) (fun s H C cl fp => (pd_or (pd_cmp op_isN od_isN (pd_ix (pd_var 0) (pd_var 3)) pd_non (by first | exact nomark _ | rfl)) (pd_one (pd_cmp (op_eqD hr.units) od_eq (pd_ix (pd_var 0) (pd_var 3)) (pd_cmp (op_eqD hr.units) od_eq (pd_bin op_and od_and (pd_bin op_shr od_shr (pd_var 2) (pd_var 3)) pd_int) pd_int (by first | exact nomark _ | rfl)) (by first | exact nomark _ | rfl))))))) pad_nil))) (sds_one (sd_asg false (i := 1) sc__law_cube.nd (pd_bin op_or od_orr (pd_var 1) (pd_bin op_shl od_shl pd_int (pd_var 2))))) sds_nil))) (sds_one (sd_ret (pd_var 1)))))
theorem sc__law_given : FnScope ["state", "letter", "value"] ["state", "letter", "value"] (defScope s__law_given) := ⟨rfl, rfl, rfl, by decide +kernel, rfl, by decide +kernel, by decide +kernel⟩
def g__law_given : DEnv → SRes := (sRet ((([0] ++ [] ++ [1]) ++ ([2] ++ [])) ++ ([0] ++ ([1] ++ []) ++ [])) (e2 dAdd (e2 dAdd (e3 dSl (eVar 0) eNoP (eP (eVar 1))) (eTup (eCons (eVar 2) eNil))) (e3 dSl (eVar 0) (eP (e2 dAdd (eVar 1) (eC (.int 1)))) eNoP)))
def m__law_given : List D → Res D := mOf 3 false g__law_given
theorem w__law_given (T : Tx P K mg A) : FnD P w K mg base 1 A.f__law_given A.d__law_given ["state", "letter", "value"] false m__law_given := fnd_of T.F__law_given sc__law_given fun cdv A outer s H E hr => (sds_one (sd_ret (pd_bin op_addA od_add (pd_bin op_addA od_add (pd_sl (pd_var 0) pod_none (pod_some (pd_var 1))) (pd_tup (pad_cons (pd_var 2) pad_nil))) (pd_sl (pd_var 0) (pod_some (pd_bin op_addA od_add (pd_var 1) pd_int)) pod_none))))
theorem sc__law_flipped : FnScope ["state", "letter"] ["state", "letter"] (defScope s__law_flipped) := ⟨rfl, rfl, rfl, by decide +kernel, rfl, by decide +kernel, by decide +kernel⟩
def g__law_flipped : DEnv → SRes := (sSeq (sIf (eB (e2 dIsN (e2 dIx (eVar 0) (eVar 1)) (eC .non))) (sRet ([0] ++ ([1] ++ ([] ++ []))) (eL (callN 3 m__law_given) (eCons (eVar 0) (eCons (eVar 1) (eCons (eC (.bl true)) eNil))))) sNil) (sRet ([0] ++ ([1] ++ (([0] ++ [1]) ++ []))) (eL (callN 3 m__law_given) (eCons (eVar 0) (eCons (eVar 1) (eCons (eNotV (e2 dIx (eVar 0) (eVar 1))) eNil))))))
def m__law_flipped : List D → Res D := mOf 2 false g__law_flipped
theorem w__law_flipped (T : Tx P K mg A) : FnD P w K mg base 2 A.f__law_flipped A.d__law_flipped ["state", "letter"] false m__law_flipped := fnd_of T.F__law_flipped sc__law_flipped fun cdv A outer s H E hr => (sds_cons (sd_if (ptd_cmp op_isN od_isN (pd_ix (pd_var 0) (pd_var 1)) pd_non (by first | exact nomark _ | rfl)) (sds_one (sd_ret (pd_call (ps := ["state", "letter", "value"]) (takes_of rfl rfl rfl rfl) hr (by decide) (w__law_given T) T.m__law_given T.F__law_given.kp T.b__law_given (pad_cons (pd_var 0) (pad_cons (pd_var 1) (pad_cons pd_bl pad_nil)))))) sds_nil) (sds_one (sd_ret (pd_call (ps := ["state", "letter", "value"]) (takes_of rfl rfl rfl rfl) hr (by decide) (w__law_given T) T.m__law_given T.F__law_given.kp T.b__law_given (pad_cons (pd_var 0) (pad_cons (pd_var 1) (pad_cons (pd_not (pd_ix (pd_var 0) (pd_var 1))) pad_nil)))))))
theorem sc__law_claim : FnScope ["script", "at", "state", "n", "top", "drawn", "letters", "kind", "one", "two", "other", "spread"] ["script", "at", "state"] (defScope s__law_claim) := ⟨rfl, rfl, rfl, by decide +kernel, rfl, by decide +kernel, by decide +kernel⟩
def g__law_claim : DEnv → SRes := (sSeq (sAsg false ([2] ++ []) 3 (eL bLen (eCons (eVar 2) eNil))) (sSeq (sAsg false ([] ++ ([] ++ [3])) 4 (e2 dShl (eC (.int 1)) (e2 dShl (eC (.int 1)) (eVar 3)))) (sSeq (sAsg false ([0] ++ ([1] ++ ([] ++ ([4] ++ [])))) 5 (eFz (eL (callF 4 m__law_numbers) (eCons (eVar 0) (eCons (eVar 1) (eCons (eC (.int 3)) (eCons (eVar 4) eNil))))))) (sSeq (sAsg false ([0] ++ (([1] ++ []) ++ ([] ++ ([3] ++ [])))) 6 (eFz (eL (callF 4 m__law_numbers) (eCons (eVar 0) (eCons (e2 dAdd (eVar 1) (eC (.int 1))) (eCons (eC (.int 2)) (eCons (eVar 3) eNil))))))) (sSeq (sAsg false (([0] ++ (([1] ++ []) ++ [])) ++ []) 7 (e2 dMod (eL (callN 2 m__law_cell) (eCons (eVar 0) (eCons (e2 dAdd (eVar 1) (eC (.int 2))) eNil))) (eC (.int 8)))) (sSeq (sAsg false (([2] ++ (([6] ++ []) ++ [])) ++ []) 8 (eL (callN 1 m__law_cube) (eCons (eL (callN 2 m__law_flipped) (eCons (eVar 2) (eCons (e2 dIx (eVar 6) (eC (.int 0))) eNil))) eNil))) (sSeq (sAsg false ((([2] ++ (([6] ++ []) ++ [])) ++ (([6] ++ []) ++ [])) ++ []) 9 (eL (callN 1 m__law_cube) (eCons (eL (callN 2 m__law_flipped) (eCons (eL (callN 2 m__law_flipped) (eCons (eVar 2) (eCons (e2 dIx (eVar 6) (eC (.int 0))) eNil))) (eCons (e2 dIx (eVar 6) (eC (.int 1))) eNil))) eNil))) (sSeq (sAsg false (([2] ++ (([6] ++ []) ++ [])) ++ []) 10 (eL (callN 1 m__law_cube) (eCons (eL (callN 2 m__law_flipped) (eCons (eVar 2) (eCons (e2 dIx (eVar 6) (eC (.int 1))) eNil))) eNil))) (sSeq (sAsg false ((([5] ++ []) ++ ([5] ++ [])) ++ ([5] ++ [])) 11 (e2 dAnd (e2 dAnd (e2 dIx (eVar 5) (eC (.int 0))) (e2 dIx (eVar 5) (eC (.int 1)))) (e2 dIx (eVar 5) (eC (.int 2))))) (sSeq (sIf (eB (e2 dLt (eVar 7) (eC (.int 2)))) (sRet ([8] ++ [11]) (e2 dOr (eVar 8) (eVar 11))) sNil) (sSeq (sIf (eB (e2 dEq (eVar 7) (eC (.int 2)))) (sRet ([9] ++ [11]) (e2 dOr (eVar 9) (eVar 11))) sNil) (sSeq (sIf (eB (e2 dEq (eVar 7) (eC (.int 3)))) (sRet [9] (eVar 9)) sNil) (sSeq (sIf (eB (e2 dEq (eVar 7) (eC (.int 4)))) (sRet ([8] ++ [10]) (e2 dOr (eVar 8) (eVar 10))) sNil) (sSeq (sIf (eB (e2 dEq (eVar 7) (eC (.int 5)))) (sRet ([5] ++ []) (e2 dIx (eVar 5) (eC (.int 0)))) sNil) (sSeq (sIf (eB (e2 dEq (eVar 7) (eC (.int 6)))) (sRet (([2] ++ []) ++ (([5] ++ []) ++ ([5] ++ []))) (e2 dOr (eL (callN 1 m__law_cube) (eCons (eVar 2) eNil)) (e2 dAnd (e2 dIx (eVar 5) (eC (.int 0))) (e2 dIx (eVar 5) (eC (.int 1)))))) sNil) (sSeq (sIf (eB (e2 dEq (e2 dMod (e2 dDiv (eL (callN 2 m__law_cell) (eCons (eVar 0) (eCons (e2 dAdd (eVar 1) (eC (.int 2))) eNil))) (eC (.int 8))) (eC (.int 2))) (eC (.int 1)))) (sRet ([4] ++ []) (e2 dSub (eVar 4) (eC (.int 1)))) sNil) (sRet [] (eC (.int 0)))))))))))))))))))
def m__law_claim : List D → Res D := mOf 12 false g__law_claim
theorem w__law_claim (T : Tx P K mg A) : FnD P w K mg base 3 A.f__law_claim A.d__law_claim ["script", "at", "state"] false m__law_claim := fnd_of T.F__law_claim sc__law_claim fun cdv A outer s H E hr => (sds_cons (sd_asg false (i := 3) sc__law_claim.nd (pd_B call_lenA cd_len T.z_len (pad_cons (pd_var 2) pad_nil))) (sds_cons (sd_asg false (i := 4) sc__law_claim.nd (pd_bin op_shl od_shl pd_int (pd_bin op_shl od_shl pd_int (pd_var 3)))) (sds_cons (sd_asg false (i := 5) sc__law_claim.nd (pd_fz (pf_call (ps := ["script", "at", "count", "radix"]) (takes_of rfl rfl rfl rfl) hr (by decide) (w__law_numbers T) T.m__law_numbers T.F__law_numbers.kp T.b__law_numbers (pad_cons (pd_var 0) (pad_cons (pd_var 1) (pad_cons pd_int (pad_cons (pd_var 4) pad_nil))))))) (sds_cons (sd_asg false (i := 6) sc__law_claim.nd (pd_fz (pf_call (ps := ["script", "at", "count", "radix"]) (takes_of rfl rfl rfl rfl) hr (by decide) (w__law_numbers T) T.m__law_numbers T.F__law_numbers.kp T.b__law_numbers (pad_cons (pd_var 0) (pad_cons (pd_bin op_addA od_add (pd_var 1) pd_int) (pad_cons pd_int (pad_cons (pd_var 3) pad_nil))))))) (sds_cons (sd_asg false (i := 7) sc__law_claim.nd (pd_bin op_mod od_mod (pd_call (ps := ["script", "k"]) (takes_of rfl rfl rfl rfl) hr (by decide) (w__law_cell T) T.m__law_cell T.F__law_cell.kp T.b__law_cell (pad_cons (pd_var 0) (pad_cons (pd_bin op_addA od_add (pd_var 1) pd_int) pad_nil))) pd_int)) (sds_cons (sd_asg false (i := 8) sc__law_claim.nd (pd_call (ps := ["state"]) (takes_of rfl rfl rfl rfl) hr (by decide) (w__law_cube T) T.m__law_cube T.F__law_cube.kp T.b__law_cube (pad_cons (pd_call (ps := ["state", "letter"]) (takes_of rfl rfl rfl rfl) hr (by decide) (w__law_flipped T) T.m__law_flipped T.F__law_flipped.kp T.b__law_flipped (pad_cons (pd_var 2) (pad_cons (pd_ix (pd_var 6) pd_int) pad_nil))) pad_nil))) (sds_cons (sd_asg false (i := 9) sc__law_claim.nd (pd_call (ps := ["state"]) (takes_of rfl rfl rfl rfl) hr (by decide) (w__law_cube T) T.m__law_cube T.F__law_cube.kp T.b__law_cube (pad_cons (pd_call (ps := ["state", "letter"]) (takes_of rfl rfl rfl rfl) hr (by decide) (w__law_flipped T) T.m__law_flipped T.F__law_flipped.kp T.b__law_flipped (pad_cons (pd_call (ps := ["state", "letter"]) (takes_of rfl rfl rfl rfl) hr (by decide) (w__law_flipped T) T.m__law_flipped T.F__law_flipped.kp T.b__law_flipped (pad_cons (pd_var 2) (pad_cons (pd_ix (pd_var 6) pd_int) pad_nil))) (pad_cons (pd_ix (pd_var 6) pd_int) pad_nil))) pad_nil))) (sds_cons (sd_asg false (i := 10) sc__law_claim.nd (pd_call (ps := ["state"]) (takes_of rfl rfl rfl rfl) hr (by decide) (w__law_cube T) T.m__law_cube T.F__law_cube.kp T.b__law_cube (pad_cons (pd_call (ps := ["state", "letter"]) (takes_of rfl rfl rfl rfl) hr (by decide) (w__law_flipped T) T.m__law_flipped T.F__law_flipped.kp T.b__law_flipped (pad_cons (pd_var 2) (pad_cons (pd_ix (pd_var 6) pd_int) pad_nil))) pad_nil))) (sds_cons (sd_asg false (i := 11) sc__law_claim.nd (pd_bin op_and od_and (pd_bin op_and od_and (pd_ix (pd_var 5) pd_int) (pd_ix (pd_var 5) pd_int)) (pd_ix (pd_var 5) pd_int))) (sds_cons (sd_if (ptd_cmp op_lt od_intb (pd_var 7) pd_int (by first | exact nomark _ | rfl)) (sds_one (sd_ret (pd_bin op_or od_orr (pd_var 8) (pd_var 11)))) sds_nil) (sds_cons (sd_if (ptd_cmp (op_eqD hr.units) od_eq (pd_var 7) pd_int (by first | exact nomark _ | rfl)) (sds_one (sd_ret (pd_bin op_or od_orr (pd_var 9) (pd_var 11)))) sds_nil) (sds_cons (sd_if (ptd_cmp (op_eqD hr.units) od_eq (pd_var 7) pd_int (by first | exact nomark _ | rfl)) (sds_one (sd_ret (pd_var 9))) sds_nil) (sds_cons (sd_if (ptd_cmp (op_eqD hr.units) od_eq (pd_var 7) pd_int (by first | exact nomark _ | rfl)) (sds_one (sd_ret (pd_bin op_or od_orr (pd_var 8) (pd_var 10)))) sds_nil) (sds_cons (sd_if (ptd_cmp (op_eqD hr.units) od_eq (pd_var 7) pd_int (by first | exact nomark _ | rfl)) (sds_one (sd_ret (pd_ix (pd_var 5) pd_int))) sds_nil) (sds_cons (sd_if (ptd_cmp (op_eqD hr.units) od_eq (pd_var 7) pd_int (by first | exact nomark _ | rfl)) (sds_one (sd_ret (pd_bin op_or od_orr (pd_call (ps := ["state"]) (takes_of rfl rfl rfl rfl) hr (by decide) (w__law_cube T) T.m__law_cube T.F__law_cube.kp T.b__law_cube (pad_cons (pd_var 2) pad_nil)) (pd_bin op_and od_and (pd_ix (pd_var 5) pd_int) (pd_ix (pd_var 5) pd_int))))) sds_nil) (sds_cons (sd_if (ptd_cmp (op_eqD hr.units) od_eq (pd_bin op_mod od_mod (pd_bin op_fdiv od_div (pd_call (ps := ["script", "k"]) (takes_of rfl rfl rfl rfl) hr (by decide) (w__law_cell T) T.m__law_cell T.F__law_cell.kp T.b__law_cell (pad_cons (pd_var 0) (pad_cons (pd_bin op_addA od_add (pd_var 1) pd_int) pad_nil))) pd_int) pd_int) pd_int (by first | exact nomark _ | rfl)) (sds_one (sd_ret (pd_bin op_sub od_sub (pd_var 4) pd_int))) sds_nil) (sds_one (sd_ret pd_int))))))))))))))))))
theorem sc_Hands_init : FnScope ["self", "people", "holders", "letter", "holder"] ["self", "people", "holders"] (defScope s_Hands_init) := ⟨rfl, rfl, rfl, by decide +kernel, rfl, by decide +kernel, by decide +kernel⟩
def b_Hands_init_1 : DEnv → SRes := (sIf (eAnd (eB (e2 dNotN (eVar 4) (eC .non))) (eNot (eB (eCh dLe dLt (eC (.int 0)) (eVar 4) (eVar 1))))) (sRaise "BadHolder" ["letter"] (eCons (eVar 3) eNil)) sNil)
def g_Hands_init : DEnv → SRes := (sSeq (sIf (eNot (eB (eCh dLe dLe (eC (.int 1)) (eL bLen (eCons (eVar 2) eNil)) (eC (.int 4))))) (sRaise "BadCount" ["number"] (eCons (eL bLen (eCons (eVar 2) eNil)) eNil)) sNil) (sSeq (sIf (eNot (eB (eCh dLe dLe (eC (.int 1)) (eVar 1) (eC (.int 5))))) (sRaise "BadCount" ["number"] (eCons (eVar 1) eNil)) sNil) (sSeq (sFor ([2] ++ []) ([3] ++ ([4] ++ [])) (eL bEnumA (eCons (eVar 2) eNil)) (gT 2 (gC g1 (gC g1 gN))) b_Hands_init_1) (sSeq (sAttr false [1] ["Hands"] 0 "people" (eVar 1)) (sSeq (sAttr false ([2] ++ []) ["Hands"] 0 "holders" (eL bTuple (eCons (eVar 2) eNil))) (sAttr false ([2] ++ []) ["Hands"] 0 "n" (eL bLen (eCons (eVar 2) eNil))))))))
def m_Hands_init : List D → Res (List Str × List D) := mI 5 "Hands" g_Hands_init
theorem w_Hands_init (T : Tx P K mg A) : FnI P w K mg base 3 A.f_Hands_init A.d_Hands_init ["self", "people", "holders"] A.c_Hands m_Hands_init := fni_of (c := "Hands") T.F_Hands_init sc_Hands_init T.g_Hands fun cdv A outer s H E hr => (sds_cons (sd_if (ptd_not (ptd_chain op_le od_intb op_le od_intb pd_int (pd_B call_lenA cd_len T.z_len (pad_cons (pd_var 2) pad_nil)) (pd_glob (v := (V.int 4)) T.kv_LETTER_LIMIT ⟨_, rfl⟩ (fun _ => .int 4) rfl))) (sds_one (sd_raise (ps := ["self", "number"]) rfl (takes_of rfl rfl rfl rfl) T.x_BadCount (x_BadCount T) hr (by decide) T.bx_BadCount rfl T.g_BadCount (pad_cons (pd_B call_lenA cd_len T.z_len (pad_cons (pd_var 2) pad_nil)) pad_nil))) sds_nil) (sds_cons (sd_if (ptd_not (ptd_chain op_le od_intb op_le od_intb pd_int (pd_var 1) (pd_glob (v := (V.int 5)) T.kv_PEOPLE_LIMIT ⟨_, rfl⟩ (fun _ => .int 5) rfl))) (sds_one (sd_raise (ps := ["self", "number"]) rfl (takes_of rfl rfl rfl rfl) T.x_BadCount (x_BadCount T) hr (by decide) T.bx_BadCount rfl T.g_BadCount (pad_cons (pd_var 1) pad_nil))) sds_nil) (sds_cons (sd_for (passes_of rfl) rfl (id_enumA T.z_enumerate (pad_cons (pd_var 2) pad_nil)) (gd_tup rfl (gds_cons (gd_name sc_Hands_init.nd) (gds_cons (gd_name sc_Hands_init.nd) gds_nil))) (sds_one (sd_if (ptd_w (pwd_and (ptd_cmp op_notN od_notN (pd_var 4) pd_non (by first | exact nomark _ | rfl)) (pwd_and1 (ptd_not (ptd_chain op_le od_intb op_lt od_intb pd_int (pd_var 4) (pd_var 1)))))) (sds_one (sd_raise (ps := ["self", "letter"]) rfl (takes_of rfl rfl rfl rfl) T.x_BadHolder (x_BadHolder T) hr (by decide) T.bx_BadHolder rfl T.g_BadHolder (pad_cons (pd_var 3) pad_nil))) sds_nil))) (sds_cons (sd_attr false ["Hands"] 0 (List.forall_mem_cons.2 ⟨⟨_, _, T.d_Hands, (.head _)⟩, (fun _ h => nomatch h)⟩) (pd_var 1)) (sds_cons (sd_attr false ["Hands"] 0 (List.forall_mem_cons.2 ⟨⟨_, _, T.d_Hands, (.tail _ (.head _))⟩, (fun _ h => nomatch h)⟩) (pd_T call_tuple_of cd_tuple T.z_tuple (pad_cons (pd_var 2) pad_nil))) (sds_one (sd_attr false ["Hands"] 0 (List.forall_mem_cons.2 ⟨⟨_, _, T.d_Hands, (.tail _ (.tail _ (.head _)))⟩, (fun _ h => nomatch h)⟩) (pd_B call_lenA cd_len T.z_len (pad_cons (pd_var 2) pad_nil)))))))))
theorem sc__law_chosen : FnScope ["mask", "count", "k"] ["mask", "count"] (defScope s__law_chosen) := ⟨rfl, rfl, rfl, by decide +kernel, rfl, by decide +kernel, by decide +kernel⟩
def l__law_chosen_1 : DEnv → Res D := (eVar 2)
def g__law_chosen : DEnv → SRes := (sRet ((([1] ++ []) ++ minus (((([0] ++ [2]) ++ []) ++ []) ++ [2]) [2]) ++ []) (eL bTuple (eCons (eFz (eLc [2] (eL rng1 (eCons (eVar 1) eNil)) g1 (eB (e2 dEq (e2 dAnd (e2 dShr (eVar 0) (eVar 2)) (eC (.int 1))) (eC (.int 1)))) l__law_chosen_1)) eNil)))
def m__law_chosen : List D → Res D := mOf 3 false g__law_chosen
theorem w__law_chosen (T : Tx P K mg A) : FnD P w K mg base 1 A.f__law_chosen A.d__law_chosen ["mask", "count"] false m__law_chosen := fnd_of T.F__law_chosen sc__law_chosen fun cdv A outer s H E hr => (sds_one (sd_ret (pd_T call_tuple_of cd_tuple T.z_tuple (pad_cons (pd_fz (pf_lc rfl sc__law_chosen.nd (id_of0 (id_range1 T.z_range (pad_cons (pd_var 1) pad_nil))) (blkOk_by (own := [("k", 2)]) (by kernel_rfl)) rfl (fun s H C cl fp => (gd_name sc__law_chosen.nd)) (fun s H C cl fp => (ptsd_one (ptd_cmp (op_eqD hr.units) od_eq (pd_bin op_and od_and (pd_bin op_shr od_shr (pd_var 0) (pd_var 2)) pd_int) pd_int (by first | exact nomark _ | rfl)))) (fun s H C cl fp => (pd_var 2)))) pad_nil))))
theorem sc__law_reopened : FnScope ["state", "letters", "opened", "letter"] ["state", "letters"] (defScope s__law_reopened) := ⟨rfl, rfl, rfl, by decide +kernel, rfl, by decide +kernel, by decide +kernel⟩
def b__law_reopened_1 : DEnv → SRes := (sAsg false ([2] ++ ([3] ++ ([] ++ []))) 2 (eL (callN 3 m__law_given) (eCons (eVar 2) (eCons (eVar 3) (eCons (eC .non) eNil)))))
def g__law_reopened : DEnv → SRes := (sSeq (sAsg false [0] 2 (eVar 0)) (sSeq (sFor [1] [3] (eIt (eVar 1)) g1 b__law_reopened_1) (sRet [2] (eVar 2))))
def m__law_reopened : List D → Res D := mOf 4 false g__law_reopened
theorem w__law_reopened (T : Tx P K mg A) : FnD P w K mg base 2 A.f__law_reopened A.d__law_reopened ["state", "letters"] false m__law_reopened := fnd_of T.F__law_reopened sc__law_reopened fun cdv A outer s H E hr => (sds_cons (sd_asg false (i := 2) sc__law_reopened.nd (pd_var 0)) (sds_cons (sd_for (passes_of rfl) rfl (id_seq (pd_var 1)) (gd_name sc__law_reopened.nd) (sds_one (sd_asg false (i := 2) sc__law_reopened.nd (pd_call (ps := ["state", "letter", "value"]) (takes_of rfl rfl rfl rfl) hr (by decide) (w__law_given T) T.m__law_given T.F__law_given.kp T.b__law_given (pad_cons (pd_var 2) (pad_cons (pd_var 3) (pad_cons pd_non pad_nil))))))) (sds_one (sd_ret (pd_var 2)))))
theorem sc__law_letters : FnScope ["holders", "group", "k"] ["holders", "group"] (defScope s__law_letters) := ⟨rfl, rfl, rfl, by decide +kernel, rfl, by decide +kernel, by decide +kernel⟩
def l__law_letters_1 : DEnv → Res D := (eVar 2)
def g__law_letters : DEnv → SRes := (sRetF ((([0] ++ []) ++ []) ++ minus ((([0] ++ [2]) ++ [1]) ++ [2]) [2]) (eLc [2] (eL rng1 (eCons (eL bLen (eCons (eVar 0) eNil)) eNil)) g1 (eB (e2 dIn (e2 dIx (eVar 0) (eVar 2)) (eVar 1))) l__law_letters_1))
def m__law_letters : List D → Res D := mOf 3 true g__law_letters
theorem w__law_letters (T : Tx P K mg A) : FnD P w K mg base 1 A.f__law_letters A.d__law_letters ["holders", "group"] true m__law_letters := fnd_of T.F__law_letters sc__law_letters fun cdv A outer s H E hr => (sds_one (sd_retF (pf_lc rfl sc__law_letters.nd (id_of0 (id_range1 T.z_range (pad_cons (pd_B call_lenA cd_len T.z_len (pad_cons (pd_var 0) pad_nil)) pad_nil))) (blkOk_by (own := [("k", 2)]) (by kernel_rfl)) rfl (fun s H C cl fp => (gd_name sc__law_letters.nd)) (fun s H C cl fp => (ptsd_one (ptd_cmp (op_inA (u65 hr)) od_in (pd_ix (pd_var 0) (pd_var 2)) (pd_var 1) (by first | exact nomark _ | rfl)))) (fun s H C cl fp => (pd_var 2)))))
theorem sc__law_same : FnScope ["told", "expected", "k"] ["told", "expected"] (defScope s__law_same) := ⟨rfl, rfl, rfl, by decide +kernel, rfl, by decide +kernel, by decide +kernel⟩
def l__law_same_1 (r : List D → Res D) : DEnv → Res D := (eL (callN 2 r) (eCons (e2 dIx (eVar 0) (eVar 2)) (eCons (e2 dIx (eVar 1) (eVar 2)) eNil)))
def g__law_same (r : List D → Res D) : DEnv → SRes := (sSeq (sIf (eB (e2 dIsN (eVar 1) (eC .non))) (sRet ([0] ++ []) (e2 dIsN (eVar 0) (eC .non))) sNil) (sSeq (sIf (eTru (e1 (dIsi "bool") (eVar 1))) (sRet ([0] ++ ([0] ++ [1])) (eAndV (e1 (dIsi "bool") (eVar 0)) (e2 dEq (eVar 0) (eVar 1)))) sNil) (sSeq (sIf (eTru (e1 (dIsi "int") (eVar 1))) (sRet ([0] ++ ([0] ++ ([0] ++ [1]))) (eAndV (e1 (dIsi "int") (eVar 0)) (eAndV (eNotV (e1 (dIsi "bool") (eVar 0))) (e2 dEq (eVar 0) (eVar 1))))) sNil) (sSeq (sIf (eTru (e1 (dIsi "str") (eVar 1))) (sRet ([0] ++ ([0] ++ [1])) (eAndV (e1 (dIsi "str") (eVar 0)) (e2 dEq (eVar 0) (eVar 1)))) sNil) (sSeq (sIf (eTru (e1 (dIsi "tuple") (eVar 1))) (sIf (eNot (eTru (e1 (dIsi "tuple") (eVar 0)))) (sRet [] (eC (.bl false))) sNil) (sIf (eOr (eNot (eTru (e1 (dIsi "list") (eVar 1)))) (eNot (eTru (e1 (dIsi "list") (eVar 0))))) (sRet [] (eC (.bl false))) sNil)) (sSeq (sIf (eB (e2 dNe (eL bLen (eCons (eVar 0) eNil)) (eL bLen (eCons (eVar 1) eNil)))) (sRet [] (eC (.bl false))) sNil) (sRet (((([1] ++ []) ++ []) ++ minus ([] ++ (([0] ++ [2]) ++ (([1] ++ [2]) ++ []))) [2]) ++ []) (eL bAll (eCons (eFz (eLc [2] (eL rng1 (eCons (eL bLen (eCons (eVar 1) eNil)) eNil)) g1 tYesD (l__law_same_1 r))) eNil)))))))))
def m__law_same : Nat → List D → Res D
  | 0 => mNo
  | n + 1 => mOf 3 false (g__law_same (m__law_same n))
theorem w__law_same (T : Tx P K mg A) : ∀ n : Nat, FnD P w K mg base (0 + n) A.f__law_same A.d__law_same ["told", "expected"] false (m__law_same n)
  | 0 => fnd_no
  | n + 1 => fnd_of (k := 0 + n) T.F__law_same sc__law_same fun cdv A outer s H E hr => (sds_cons (sd_if (ptd_cmp op_isN od_isN (pd_var 1) pd_non (by first | exact nomark _ | rfl)) (sds_one (sd_ret (pd_cmp op_isN od_isN (pd_var 0) pd_non (by first | exact nomark _ | rfl)))) sds_nil) (sds_cons (sd_if (ptd_tru (pd_isi "bool" T.z_isinstance T.z_bool (pd_var 1))) (sds_one (sd_ret (pd_and (pd_isi "bool" T.z_isinstance T.z_bool (pd_var 0)) (pd_one (pd_cmp (op_eqD hr.units) od_eq (pd_var 0) (pd_var 1) (by first | exact nomark _ | rfl)))))) sds_nil) (sds_cons (sd_if (ptd_tru (pd_isi "int" T.z_isinstance T.z_int (pd_var 1))) (sds_one (sd_ret (pd_and (pd_isi "int" T.z_isinstance T.z_int (pd_var 0)) (pd_and (pd_not (pd_isi "bool" T.z_isinstance T.z_bool (pd_var 0))) (pd_one (pd_cmp (op_eqD hr.units) od_eq (pd_var 0) (pd_var 1) (by first | exact nomark _ | rfl))))))) sds_nil) (sds_cons (sd_if (ptd_tru (pd_isi "str" T.z_isinstance T.z_str (pd_var 1))) (sds_one (sd_ret (pd_and (pd_isi "str" T.z_isinstance T.z_str (pd_var 0)) (pd_one (pd_cmp (op_eqD hr.units) od_eq (pd_var 0) (pd_var 1) (by first | exact nomark _ | rfl)))))) sds_nil) (sds_cons (sd_if (ptd_tru (pd_isi "tuple" T.z_isinstance T.z_tuple (pd_var 1))) (sds_one (sd_if (ptd_not (ptd_tru (pd_isi "tuple" T.z_isinstance T.z_tuple (pd_var 0)))) (sds_one (sd_ret pd_bl)) sds_nil)) (sds_one (sd_if (ptd_w (pwd_or (ptd_not (ptd_tru (pd_isi "list" T.z_isinstance T.z_list (pd_var 1)))) (pwd_or1 (ptd_not (ptd_tru (pd_isi "list" T.z_isinstance T.z_list (pd_var 0))))))) (sds_one (sd_ret pd_bl)) sds_nil))) (sds_cons (sd_if (ptd_cmp (op_neD hr.units) od_ne (pd_B call_lenA cd_len T.z_len (pad_cons (pd_var 0) pad_nil)) (pd_B call_lenA cd_len T.z_len (pad_cons (pd_var 1) pad_nil)) (by first | exact nomark _ | rfl)) (sds_one (sd_ret pd_bl)) sds_nil) (sds_one (sd_ret (pd_B (cr_all rfl) cd_all T.z_all (pad_cons (pd_fz (pf_lc rfl sc__law_same.nd (id_of0 (id_range1 T.z_range (pad_cons (pd_B call_lenA cd_len T.z_len (pad_cons (pd_var 1) pad_nil)) pad_nil))) (blkOk_by (own := [("k", 2)]) (by kernel_rfl)) rfl (fun s H C cl fp => (gd_name sc__law_same.nd)) (fun s H C cl fp => ptsd_nil) (fun s H C cl fp => (pd_call (ps := ["told", "expected"]) (by exact takes0) hr (Nat.le_refl _) (w__law_same T n) T.m__law_same T.F__law_same.kp T.b__law_same (pad_cons (pd_ix (pd_var 0) (pd_var 2)) (pad_cons (pd_ix (pd_var 1) (pd_var 2)) pad_nil)))))) pad_nil))))))))))
theorem sc_Hands_held : FnScope ["self", "group", "letter", "holder"] ["self", "group"] (defScope s_Hands_held) := ⟨rfl, rfl, rfl, by decide +kernel, rfl, by decide +kernel, by decide +kernel⟩
def l_Hands_held_1 : DEnv → Res D := (eVar 2)
def g_Hands_held : DEnv → SRes := (sRet ((([0] ++ []) ++ minus (([3] ++ [1]) ++ [2]) ([2] ++ ([3] ++ []))) ++ []) (eL bTuple (eCons (eFz (eLc ([2] ++ ([3] ++ [])) (eL bEnumA (eCons (e1 (dFld ["Hands"] "holders") (eVar 0)) eNil)) (gT 2 (gC g1 (gC g1 gN))) (eB (e2 dIn (eVar 3) (eVar 1))) l_Hands_held_1)) eNil)))
def m_Hands_held : List D → Res D := mOf 4 false g_Hands_held
theorem w_Hands_held (T : Tx P K mg A) : FnD P w K mg base 1 A.f_Hands_held A.d_Hands_held ["self", "group"] false m_Hands_held := fnd_of T.F_Hands_held sc_Hands_held fun cdv A outer s H E hr => (sds_one (sd_ret (pd_T call_tuple_of cd_tuple T.z_tuple (pad_cons (pd_fz (pf_lc rfl sc_Hands_held.nd (id_enumA T.z_enumerate (pad_cons (pd_fld ["Hands"] (List.forall_mem_cons.2 ⟨⟨_, _, T.d_Hands, (.tail _ (.head _))⟩, (fun _ h => nomatch h)⟩) (pd_var 0)) pad_nil)) (blkOk_by (own := [("letter", 2), ("holder", 3)]) (by kernel_rfl)) rfl (fun s H C cl fp => (gd_tup rfl (gds_cons (gd_name sc_Hands_held.nd) (gds_cons (gd_name sc_Hands_held.nd) gds_nil)))) (fun s H C cl fp => (ptsd_one (ptd_cmp (op_inA (u65 hr)) od_in (pd_var 3) (pd_var 1) (by first | exact nomark _ | rfl)))) (fun s H C cl fp => (pd_var 2)))) pad_nil))))
theorem sc_reopened : FnScope ["hands", "state", "group", "letters", "letter", "value"] ["hands", "state", "group"] (defScope s_reopened) := ⟨rfl, rfl, rfl, by decide +kernel, rfl, by decide +kernel, by decide +kernel⟩
def l_reopened_1 : DEnv → Res D := (eIf (eB (e2 dIn (eVar 4) (eVar 3))) (eC .non) (eVar 5))
def g_reopened : DEnv → SRes := (sSeq (sAsg false ([0] ++ ([2] ++ [])) 3 (eMth "Hands" "held" (callN 2 m_Hands_held) (eVar 0) (eCons (eVar 2) eNil))) (sRet ((([1] ++ []) ++ minus ([] ++ (([4] ++ [3]) ++ [] ++ [5])) ([4] ++ ([5] ++ []))) ++ []) (eL bTuple (eCons (eFz (eLc ([4] ++ ([5] ++ [])) (eL bEnumA (eCons (eVar 1) eNil)) (gT 2 (gC g1 (gC g1 gN))) tYesD l_reopened_1)) eNil))))
def m_reopened : List D → Res D := mOf 6 false g_reopened
theorem w_reopened (T : Tx P K mg A) : FnD P w K mg base 2 A.f_reopened A.d_reopened ["hands", "state", "group"] false m_reopened := fnd_of T.F_reopened sc_reopened fun cdv A outer s H E hr => (sds_cons (sd_asg false (i := 3) sc_reopened.nd (pd_meth (ps := ["self", "group"]) (takes_of rfl rfl rfl rfl) hr (by decide) T.d_Hands T.mm_Hands_held (w_Hands_held T) T.b_Hands_held (pd_var 0) (pad_cons (pd_var 2) pad_nil))) (sds_one (sd_ret (pd_T call_tuple_of cd_tuple T.z_tuple (pad_cons (pd_fz (pf_lc rfl sc_reopened.nd (id_enumA T.z_enumerate (pad_cons (pd_var 1) pad_nil)) (blkOk_by (own := [("letter", 4), ("value", 5)]) (by kernel_rfl)) rfl (fun s H C cl fp => (gd_tup rfl (gds_cons (gd_name sc_reopened.nd) (gds_cons (gd_name sc_reopened.nd) gds_nil)))) (fun s H C cl fp => ptsd_nil) (fun s H C cl fp => (pd_if (ptd_cmp (op_inA (u65 hr)) od_in (pd_var 4) (pd_var 3) (by first | exact nomark _ | rfl)) pd_non (pd_var 5))))) pad_nil)))))
theorem sc__law_settings : FnScope ["state", "letters", "made", "letter", "holds", "following", "position", "prop", "world"] ["state", "letters"] (defScope s__law_settings) := ⟨rfl, rfl, rfl, by decide +kernel, rfl, by decide +kernel, by decide +kernel⟩
def l__law_settings_1 : DEnv → Res D := (e2 dShl (eC (.int 1)) (eVar 8))
def b__law_settings_1 : DEnv → SRes := (sSeq (sApp false (([6] ++ ([3] ++ ([] ++ []))) ++ (([7] ++ ([7] ++ [4])) ++ [])) 5 (eTup (eCons (eL (callN 3 m__law_given) (eCons (eVar 6) (eCons (eVar 3) (eCons (eC (.bl false)) eNil)))) (eCons (e2 dSub (eVar 7) (e2 dAnd (eVar 7) (eVar 4))) eNil)))) (sApp false (([6] ++ ([3] ++ ([] ++ []))) ++ (([7] ++ [4]) ++ [])) 5 (eTup (eCons (eL (callN 3 m__law_given) (eCons (eVar 6) (eCons (eVar 3) (eCons (eC (.bl true)) eNil)))) (eCons (e2 dAnd (eVar 7) (eVar 4)) eNil)))))
def b__law_settings_2 : DEnv → SRes := (sIf (eB (e2 dIsN (e2 dIx (eVar 0) (eVar 3)) (eC .non))) (sSeq (sAsg false (((([] ++ ([0] ++ [])) ++ []) ++ minus (((([8] ++ [3]) ++ []) ++ []) ++ ([] ++ [8])) [8]) ++ []) 4 (eL bSum (eCons (eFz (eLc [8] (eL rng1 (eCons (e2 dShl (eC (.int 1)) (eL bLen (eCons (eVar 0) eNil))) eNil)) g1 (eB (e2 dEq (e2 dAnd (e2 dShr (eVar 8) (eVar 3)) (eC (.int 1))) (eC (.int 1)))) l__law_settings_1)) eNil))) (sSeq (sAsgF false [] 5 (eLst eNil)) (sSeq (sFor [2] ([6] ++ ([7] ++ [])) (eIt (eVar 2)) (gT 2 (gC g1 (gC g1 gN))) b__law_settings_1) (sAsgF true ([5] ++ []) 2 (eL bList (eCons (eVar 5) eNil)))))) sNil)
def g__law_settings : DEnv → SRes := (sSeq (sAsgF false (([0] ++ (([0] ++ []) ++ [])) ++ []) 2 (eLst (eCons (eTup (eCons (eVar 0) (eCons (eL (callN 1 m__law_cube) (eCons (eVar 0) eNil)) eNil))) eNil))) (sSeq (sFor [1] [3] (eIt (eVar 1)) g1 b__law_settings_2) (sRetO 2)))
def m__law_settings : List D → Res D := mOf 9 true g__law_settings
theorem w__law_settings (T : Tx P K mg A) : FnD P w K mg base 2 A.f__law_settings A.d__law_settings ["state", "letters"] true m__law_settings := fnd_of T.F__law_settings sc__law_settings fun cdv A outer s H E hr => (sds_cons (sd_asgF false (i := 2) sc__law_settings.nd (pf_lst (pad_cons (pd_tup (pad_cons (pd_var 0) (pad_cons (pd_call (ps := ["state"]) (takes_of rfl rfl rfl rfl) hr (by decide) (w__law_cube T) T.m__law_cube T.F__law_cube.kp T.b__law_cube (pad_cons (pd_var 0) pad_nil)) pad_nil))) pad_nil))) (sds_cons (sd_for (passes_of rfl) rfl (id_seq (pd_var 1)) (gd_name sc__law_settings.nd) (sds_one (sd_if (ptd_cmp op_isN od_isN (pd_ix (pd_var 0) (pd_var 3)) pd_non (by first | exact nomark _ | rfl)) (sds_cons (sd_asg false (i := 4) sc__law_settings.nd (pd_B (cr_sum rfl) cd_sum T.z_sum (pad_cons (pd_fz (pf_lc rfl sc__law_settings.nd (id_of0 (id_range1 T.z_range (pad_cons (pd_bin op_shl od_shl pd_int (pd_B call_lenA cd_len T.z_len (pad_cons (pd_var 0) pad_nil))) pad_nil))) (blkOk_by (own := [("world", 8)]) (by kernel_rfl)) rfl (fun s H C cl fp => (gd_name sc__law_settings.nd)) (fun s H C cl fp => (ptsd_one (ptd_cmp (op_eqD hr.units) od_eq (pd_bin op_and od_and (pd_bin op_shr od_shr (pd_var 8) (pd_var 3)) pd_int) pd_int (by first | exact nomark _ | rfl)))) (fun s H C cl fp => (pd_bin op_shl od_shl pd_int (pd_var 8))))) pad_nil))) (sds_cons (sd_asgF false (i := 5) sc__law_settings.nd (pf_lst pad_nil)) (sds_cons (sd_for (passes_of rfl) rfl (id_seq (pd_var 2)) (gd_tup rfl (gds_cons (gd_name sc__law_settings.nd) (gds_cons (gd_name sc__law_settings.nd) gds_nil))) (sds_cons (sd_app false 5 (pd_tup (pad_cons (pd_call (ps := ["state", "letter", "value"]) (takes_of rfl rfl rfl rfl) hr (by decide) (w__law_given T) T.m__law_given T.F__law_given.kp T.b__law_given (pad_cons (pd_var 6) (pad_cons (pd_var 3) (pad_cons pd_bl pad_nil)))) (pad_cons (pd_bin op_sub od_sub (pd_var 7) (pd_bin op_and od_and (pd_var 7) (pd_var 4))) pad_nil)))) (sds_one (sd_app false 5 (pd_tup (pad_cons (pd_call (ps := ["state", "letter", "value"]) (takes_of rfl rfl rfl rfl) hr (by decide) (w__law_given T) T.m__law_given T.F__law_given.kp T.b__law_given (pad_cons (pd_var 6) (pad_cons (pd_var 3) (pad_cons pd_bl pad_nil)))) (pad_cons (pd_bin op_and od_and (pd_var 7) (pd_var 4)) pad_nil))))))) (sds_one (sd_asgF true (i := 2) sc__law_settings.nd (pf_T call_list_of cf_list T.z_list (pad_cons (pd_var 5) pad_nil))))))) sds_nil))) (sds_one (sd_retO 2))))
theorem sc__law_first_kept : FnScope ["state", "letters", "claim", "position", "prop"] ["state", "letters", "claim"] (defScope s__law_first_kept) := ⟨rfl, rfl, rfl, by decide +kernel, rfl, by decide +kernel, by decide +kernel⟩
def b__law_first_kept_1 : DEnv → SRes := (sIf (eB (e2 dEq (e2 dAnd (eVar 4) (eVar 2)) (eVar 4))) (sRet [3] (eVar 3)) sNil)
def g__law_first_kept : DEnv → SRes := (sSeq (sFor ([0] ++ ([1] ++ [])) ([3] ++ ([4] ++ [])) (eL (callF 2 m__law_settings) (eCons (eVar 0) (eCons (eVar 1) eNil))) (gT 2 (gC g1 (gC g1 gN))) b__law_first_kept_1) (sRet [] (eC .non)))
def m__law_first_kept : List D → Res D := mOf 5 false g__law_first_kept
theorem w__law_first_kept (T : Tx P K mg A) : FnD P w K mg base 3 A.f__law_first_kept A.d__law_first_kept ["state", "letters", "claim"] false m__law_first_kept := fnd_of T.F__law_first_kept sc__law_first_kept fun cdv A outer s H E hr => (sds_cons (sd_for (passes_of rfl) rfl (id_new (pf_call (ps := ["state", "letters"]) (takes_of rfl rfl rfl rfl) hr (by decide) (w__law_settings T) T.m__law_settings T.F__law_settings.kp T.b__law_settings (pad_cons (pd_var 0) (pad_cons (pd_var 1) pad_nil)))) (gd_tup rfl (gds_cons (gd_name sc__law_first_kept.nd) (gds_cons (gd_name sc__law_first_kept.nd) gds_nil))) (sds_one (sd_if (ptd_cmp (op_eqD hr.units) od_eq (pd_bin op_and od_and (pd_var 4) (pd_var 2)) (pd_var 4) (by first | exact nomark _ | rfl)) (sds_one (sd_ret (pd_var 3))) sds_nil))) (sds_one (sd_ret pd_non)))
theorem sc__law_least_groups : FnScope ["people", "good", "kept", "mask", "pairs", "pair", "other"] ["people", "good"] (defScope s__law_least_groups) := ⟨rfl, rfl, rfl, by decide +kernel, rfl, by decide +kernel, by decide +kernel⟩
def l__law_least_groups_1 : DEnv → Res D := (e2 dNe (e2 dAnd (eVar 6) (eVar 3)) (eVar 6))
def b__law_least_groups_1 : DEnv → SRes := (sIf (eAnd (eTru (e2 dIx (eVar 1) (eVar 3))) (eTru (eL bAll (eCons (eFz (eLc [6] (eIt (eVar 2)) g1 tYesD l__law_least_groups_1)) eNil)))) (sApp false [3] 2 (eVar 3)) sNil)
def l__law_least_groups_2 : DEnv → Res D := (eTup (eCons (eL bLen (eCons (eL (callN 2 m__law_chosen) (eCons (eVar 3) (eCons (eVar 0) eNil))) eNil)) (eCons (eL (callN 2 m__law_chosen) (eCons (eVar 3) (eCons (eVar 0) eNil))) eNil)))
def l__law_least_groups_3 : DEnv → Res D := (e2 dIx (eVar 5) (eC (.int 1)))
def g__law_least_groups : DEnv → SRes := (sSeq (sAsgF false [] 2 (eLst eNil)) (sSeq (sForR [3] (eL rng1 (eCons (e2 dShl (eC (.int 1)) (eVar 0)) eNil)) g1 b__law_least_groups_1) (sSeq (sAsg false (([2] ++ minus ([] ++ ((([3] ++ ([0] ++ [])) ++ []) ++ (([3] ++ ([0] ++ [])) ++ []))) [3]) ++ []) 4 (eFz (eL bSorted (eCons (eFz (eLc [3] (eIt (eVar 2)) g1 tYesD l__law_least_groups_2)) eNil)))) (sRetF ([4] ++ minus ([] ++ ([5] ++ [])) [5]) (eLc [5] (eIt (eVar 4)) g1 tYesD l__law_least_groups_3)))))
def m__law_least_groups : List D → Res D := mOf 7 true g__law_least_groups
theorem w__law_least_groups (T : Tx P K mg A) : FnD P w K mg base 2 A.f__law_least_groups A.d__law_least_groups ["people", "good"] true m__law_least_groups := fnd_of T.F__law_least_groups sc__law_least_groups fun cdv A outer s H E hr => (sds_cons (sd_asgF false (i := 2) sc__law_least_groups.nd (pf_lst pad_nil)) (sds_cons (sd_forR (S := (([] ++ [0]) ++ [])) (passes_of rfl) rfl (id_range1 T.z_range (pad_cons (pd_bin op_shl od_shl pd_int (pd_var 0)) pad_nil)) (gd_name sc__law_least_groups.nd) (sds_one (sd_if (ptd_w (pwd_and (ptd_tru (pd_ix (pd_var 1) (pd_var 3))) (pwd_and1 (ptd_tru (pd_B (cr_all rfl) cd_all T.z_all (pad_cons (pd_fz (pf_lc rfl sc__law_least_groups.nd (id_seq (pd_var 2)) (blkOk_by (own := [("other", 6)]) (by kernel_rfl)) rfl (fun s H C cl fp => (gd_name sc__law_least_groups.nd)) (fun s H C cl fp => ptsd_nil) (fun s H C cl fp => (pd_cmp (op_neD hr.units) od_ne (pd_bin op_and od_and (pd_var 6) (pd_var 3)) (pd_var 6) (by first | exact nomark _ | rfl))))) pad_nil)))))) (sds_one (sd_app false 2 (pd_var 3))) sds_nil))) (sds_cons (sd_asg false (i := 4) sc__law_least_groups.nd (pd_fz (pf_B (cr_sortL (u65 hr)) cf_sorted T.z_sorted (pad_cons (pd_fz (pf_lc rfl sc__law_least_groups.nd (id_seq (pd_var 2)) (blkOk_by (own := [("mask", 3)]) (by kernel_rfl)) rfl (fun s H C cl fp => (gd_name sc__law_least_groups.nd)) (fun s H C cl fp => ptsd_nil) (fun s H C cl fp => (pd_tup (pad_cons (pd_B call_lenA cd_len T.z_len (pad_cons (pd_call (ps := ["mask", "count"]) (by exact takes0) hr (by decide) (w__law_chosen T) T.m__law_chosen T.F__law_chosen.kp T.b__law_chosen (pad_cons (pd_var 3) (pad_cons (pd_var 0) pad_nil))) pad_nil)) (pad_cons (pd_call (ps := ["mask", "count"]) (by exact takes0) hr (by decide) (w__law_chosen T) T.m__law_chosen T.F__law_chosen.kp T.b__law_chosen (pad_cons (pd_var 3) (pad_cons (pd_var 0) pad_nil))) pad_nil)))))) pad_nil)))) (sds_one (sd_retF (pf_lc rfl sc__law_least_groups.nd (id_seq (pd_var 4)) (blkOk_by (own := [("pair", 5)]) (by kernel_rfl)) rfl (fun s H C cl fp => (gd_name sc__law_least_groups.nd)) (fun s H C cl fp => ptsd_nil) (fun s H C cl fp => (pd_ix (pd_var 5) pd_int))))))))
theorem sc__law_blame : FnScope ["people", "holders", "state", "claim", "good", "mask", "letters"] ["people", "holders", "state", "claim"] (defScope s__law_blame) := ⟨rfl, rfl, rfl, by decide +kernel, rfl, by decide +kernel, by decide +kernel⟩
def b__law_blame_1 : DEnv → SRes := (sSeq (sAsg false ([1] ++ (([5] ++ ([0] ++ [])) ++ [])) 6 (eFz (eL (callF 2 m__law_letters) (eCons (eVar 1) (eCons (eL (callN 2 m__law_chosen) (eCons (eVar 5) (eCons (eVar 0) eNil))) eNil))))) (sApp false ((([2] ++ ([6] ++ [])) ++ ([6] ++ ([3] ++ []))) ++ []) 4 (e2 dNotN (eL (callN 3 m__law_first_kept) (eCons (eL (callN 2 m__law_reopened) (eCons (eVar 2) (eCons (eVar 6) eNil))) (eCons (eVar 6) (eCons (eVar 3) eNil)))) (eC .non))))
def g__law_blame : DEnv → SRes := (sSeq (sAsgF false [] 4 (eLst eNil)) (sSeq (sForR [5] (eL rng1 (eCons (e2 dShl (eC (.int 1)) (eVar 0)) eNil)) g1 b__law_blame_1) (sRetF ([0] ++ ([4] ++ [])) (eL (callF 2 m__law_least_groups) (eCons (eVar 0) (eCons (eVar 4) eNil))))))
def m__law_blame : List D → Res D := mOf 7 true g__law_blame
theorem w__law_blame (T : Tx P K mg A) : FnD P w K mg base 4 A.f__law_blame A.d__law_blame ["people", "holders", "state", "claim"] true m__law_blame := fnd_of T.F__law_blame sc__law_blame fun cdv A outer s H E hr => (sds_cons (sd_asgF false (i := 4) sc__law_blame.nd (pf_lst pad_nil)) (sds_cons (sd_forR (S := (([] ++ [0]) ++ [])) (passes_of rfl) rfl (id_range1 T.z_range (pad_cons (pd_bin op_shl od_shl pd_int (pd_var 0)) pad_nil)) (gd_name sc__law_blame.nd) (sds_cons (sd_asg false (i := 6) sc__law_blame.nd (pd_fz (pf_call (ps := ["holders", "group"]) (takes_of rfl rfl rfl rfl) hr (by decide) (w__law_letters T) T.m__law_letters T.F__law_letters.kp T.b__law_letters (pad_cons (pd_var 1) (pad_cons (pd_call (ps := ["mask", "count"]) (takes_of rfl rfl rfl rfl) hr (by decide) (w__law_chosen T) T.m__law_chosen T.F__law_chosen.kp T.b__law_chosen (pad_cons (pd_var 5) (pad_cons (pd_var 0) pad_nil))) pad_nil))))) (sds_one (sd_app false 4 (pd_cmp op_notN od_notN (pd_call (ps := ["state", "letters", "claim"]) (takes_of rfl rfl rfl rfl) hr (by decide) (w__law_first_kept T) T.m__law_first_kept T.F__law_first_kept.kp T.b__law_first_kept (pad_cons (pd_call (ps := ["state", "letters"]) (takes_of rfl rfl rfl rfl) hr (by decide) (w__law_reopened T) T.m__law_reopened T.F__law_reopened.kp T.b__law_reopened (pad_cons (pd_var 2) (pad_cons (pd_var 6) pad_nil))) (pad_cons (pd_var 6) (pad_cons (pd_var 3) pad_nil)))) pd_non (by first | exact nomark _ | rfl)))))) (sds_one (sd_retF (pf_call (ps := ["people", "good"]) (takes_of rfl rfl rfl rfl) hr (by decide) (w__law_least_groups T) T.m__law_least_groups T.F__law_least_groups.kp T.b__law_least_groups (pad_cons (pd_var 0) (pad_cons (pd_var 4) pad_nil)))))))
theorem sc_in_order : FnScope ["found", "pairs", "pair", "chosen"] ["found"] (defScope s_in_order) := ⟨rfl, rfl, rfl, by decide +kernel, rfl, by decide +kernel, by decide +kernel⟩
def l_in_order_1 : DEnv → Res D := (eTup (eCons (eL bLen (eCons (eVar 3) eNil)) (eCons (eVar 3) eNil)))
def l_in_order_2 : DEnv → Res D := (e2 dIx (eVar 2) (eC (.int 1)))
def g_in_order : DEnv → SRes := (sSeq (sAsg false ([0] ++ minus ([] ++ (([3] ++ []) ++ ([3] ++ []))) [3]) 1 (eFz (eSsc [3] (eIt (eVar 0)) g1 tYesD l_in_order_1))) (sRetF ([1] ++ minus ([] ++ ([2] ++ [])) [2]) (eLc [2] (eIt (eVar 1)) g1 tYesD l_in_order_2)))
def m_in_order : List D → Res D := mOf 4 true g_in_order
theorem w_in_order (T : Tx P K mg A) : FnD P w K mg base 1 A.f_in_order A.d_in_order ["found"] true m_in_order := fnd_of T.F_in_order sc_in_order fun cdv A outer s H E hr => (sds_cons (sd_asg false (i := 1) sc_in_order.nd (pd_fz (pf_ssc rfl (u65 hr) T.z_sorted sc_in_order.nd (id_seq (pd_var 0)) (blkOk_by (own := [("chosen", 3)]) (by kernel_rfl)) rfl (fun s H C cl fp => (gd_name sc_in_order.nd)) (fun s H C cl fp => ptsd_nil) (fun s H C cl fp => (pd_tup (pad_cons (pd_B call_lenA cd_len T.z_len (pad_cons (pd_var 3) pad_nil)) (pad_cons (pd_var 3) pad_nil))))))) (sds_one (sd_retF (pf_lc rfl sc_in_order.nd (id_seq (pd_var 1)) (blkOk_by (own := [("pair", 2)]) (by kernel_rfl)) rfl (fun s H C cl fp => (gd_name sc_in_order.nd)) (fun s H C cl fp => ptsd_nil) (fun s H C cl fp => (pd_ix (pd_var 2) pd_int))))))
theorem sc_mask_of : FnScope ["chosen", "mask", "number"] ["chosen"] (defScope s_mask_of) := ⟨rfl, rfl, rfl, by decide +kernel, rfl, by decide +kernel, by decide +kernel⟩
def b_mask_of_1 : DEnv → SRes := (sAsg false ([1] ++ ([] ++ [2])) 1 (e2 dOr (eVar 1) (e2 dShl (eC (.int 1)) (eVar 2))))
def g_mask_of : DEnv → SRes := (sSeq (sAsg false [] 1 (eC (.int 0))) (sSeq (sFor [0] [2] (eIt (eVar 0)) g1 b_mask_of_1) (sRet [1] (eVar 1))))
def m_mask_of : List D → Res D := mOf 3 false g_mask_of
theorem w_mask_of (T : Tx P K mg A) : FnD P w K mg base 1 A.f_mask_of A.d_mask_of ["chosen"] false m_mask_of := fnd_of T.F_mask_of sc_mask_of fun cdv A outer s H E hr => (sds_cons (sd_asg false (i := 1) sc_mask_of.nd pd_int) (sds_cons (sd_for (passes_of rfl) rfl (id_seq (pd_var 0)) (gd_name sc_mask_of.nd) (sds_one (sd_asg false (i := 1) sc_mask_of.nd (pd_bin op_or od_orr (pd_var 1) (pd_bin op_shl od_shl pd_int (pd_var 2)))))) (sds_one (sd_ret (pd_var 1)))))
theorem sc_least : FnScope ["found", "kept", "masks", "chosen", "mask", "smaller"] ["found"] (defScope s_least) := ⟨rfl, rfl, rfl, by decide +kernel, rfl, by decide +kernel, by decide +kernel⟩
def l_least_1 : DEnv → Res D := (e2 dNe (e2 dAnd (eVar 4) (eVar 5)) (eVar 5))
def b_least_1 : DEnv → SRes := (sSeq (sAsg false ([3] ++ []) 4 (eL (callN 1 m_mask_of) (eCons (eVar 3) eNil))) (sIf (eTru (eL bAll (eCons (eFz (eLc [5] (eIt (eVar 2)) g1 tYesD l_least_1)) eNil))) (sSeq (sApp false [3] 1 (eVar 3)) (sApp false [4] 2 (eVar 4))) sNil))
def g_least : DEnv → SRes := (sSeq (sAsgF false [] 1 (eLst eNil)) (sSeq (sAsgF false [] 2 (eLst eNil)) (sSeq (sFor ([0] ++ []) [3] (eL (callF 1 m_in_order) (eCons (eVar 0) eNil)) g1 b_least_1) (sRetO 1))))
def m_least : List D → Res D := mOf 6 true g_least
theorem w_least (T : Tx P K mg A) : FnD P w K mg base 2 A.f_least A.d_least ["found"] true m_least := fnd_of T.F_least sc_least fun cdv A outer s H E hr => (sds_cons (sd_asgF false (i := 1) sc_least.nd (pf_lst pad_nil)) (sds_cons (sd_asgF false (i := 2) sc_least.nd (pf_lst pad_nil)) (sds_cons (sd_for (passes_of rfl) rfl (id_new (pf_call (ps := ["found"]) (takes_of rfl rfl rfl rfl) hr (by decide) (w_in_order T) T.m_in_order T.F_in_order.kp T.b_in_order (pad_cons (pd_var 0) pad_nil))) (gd_name sc_least.nd) (sds_cons (sd_asg false (i := 4) sc_least.nd (pd_call (ps := ["chosen"]) (takes_of rfl rfl rfl rfl) hr (by decide) (w_mask_of T) T.m_mask_of T.F_mask_of.kp T.b_mask_of (pad_cons (pd_var 3) pad_nil))) (sds_one (sd_if (ptd_tru (pd_B (cr_all rfl) cd_all T.z_all (pad_cons (pd_fz (pf_lc rfl sc_least.nd (id_seq (pd_var 2)) (blkOk_by (own := [("smaller", 5)]) (by kernel_rfl)) rfl (fun s H C cl fp => (gd_name sc_least.nd)) (fun s H C cl fp => ptsd_nil) (fun s H C cl fp => (pd_cmp (op_neD hr.units) od_ne (pd_bin op_and od_and (pd_var 4) (pd_var 5)) (pd_var 5) (by first | exact nomark _ | rfl))))) pad_nil))) (sds_cons (sd_app false 1 (pd_var 3)) (sds_one (sd_app false 2 (pd_var 4)))) sds_nil)))) (sds_one (sd_retO 1)))))
theorem sc_selections : FnScope ["count", "found", "size", "chosen"] ["count"] (defScope s_selections) := ⟨rfl, rfl, rfl, by decide +kernel, rfl, by decide +kernel, by decide +kernel⟩
def b_selections_1 : DEnv → SRes := (sApp false [3] 1 (eVar 3))
def b_selections_2 : DEnv → SRes := (sForR [3] (eComb (eVar 0) (eVar 2)) g1 b_selections_1)
def g_selections : DEnv → SRes := (sSeq (sIf (eB (e2 dGt (eVar 0) (eC (.int 7)))) (sRaise "TooMany" ["limit"] (eCons (eC (.int 7)) eNil)) sNil) (sSeq (sAsgF false [] 1 (eLst eNil)) (sSeq (sForR [2] (eL rng1 (eCons (e2 dAdd (eVar 0) (eC (.int 1))) eNil)) g1 b_selections_2) (sRetO 1))))
def m_selections : List D → Res D := mOf 4 true g_selections
theorem w_selections (T : Tx P K mg A) : FnD P w K mg base 3 A.f_selections A.d_selections ["count"] true m_selections := fnd_of T.F_selections sc_selections fun cdv A outer s H E hr => (sds_cons (sd_if (ptd_cmp op_gt od_intb (pd_var 0) (pd_glob (v := (V.int 7)) T.kv_SELECTION_LIMIT ⟨_, rfl⟩ (fun _ => .int 7) rfl) (by first | exact nomark _ | rfl)) (sds_one (sd_raise (ps := ["self", "limit"]) rfl (takes_of rfl rfl rfl rfl) T.x_TooMany (x_TooMany T) hr (by decide) T.bx_TooMany rfl T.g_TooMany (pad_cons (pd_glob (v := (V.int 7)) T.kv_SELECTION_LIMIT ⟨_, rfl⟩ (fun _ => .int 7) rfl) pad_nil))) sds_nil) (sds_cons (sd_asgF false (i := 1) sc_selections.nd (pf_lst pad_nil)) (sds_cons (sd_forR (S := (([0] ++ []) ++ [])) (passes_of rfl) rfl (id_range1 T.z_range (pad_cons (pd_bin op_addA od_add (pd_var 0) pd_int) pad_nil)) (gd_name sc_selections.nd) (sds_one (sd_forR (S := ([0] ++ [2])) (passes_of rfl) rfl (id_comb rfl T.z_combinations T.z_range (pd_var 0) (pd_var 2)) (gd_name sc_selections.nd) (sds_one (sd_app false 1 (pd_var 3)))))) (sds_one (sd_retO 1)))))
theorem sc_settings : GScope ["hands", "state", "group", "letters", "number", "chosen", "letter", "place"] ["hands", "state", "group"] (defScope s_settings) := ⟨rfl, rfl, rfl, by decide +kernel, rfl, by decide +kernel, by decide +kernel⟩
def b_settings_1 : DEnv → SRes := (sStL false ((([4] ++ [7]) ++ []) ++ []) [6] 5 (eVar 6) (e2 dEq (e2 dAnd (e2 dShr (eVar 4) (eVar 7)) (eC (.int 1))) (eC (.int 1))))
def b_settings_2 : DEnv → GRes := (gSeq (gPl (sAsgF false ([1] ++ []) 5 (eL bList (eCons (eVar 1) eNil)))) (gSeq (gPl (sFor ([3] ++ []) ([7] ++ ([6] ++ [])) (eL bEnumR (eCons (eVar 3) eNil)) (gT 2 (gC g1 (gC g1 gN))) b_settings_1)) (gSeq (gYd2 (eL bTuple (eCons (eVar 5) eNil))) gNil)))
def l_settings_1 : DEnv → Res D := (eVar 6)
def g_settings : DEnv → GRes := (gSeq (gPl (sAsg false (([0] ++ ([2] ++ [])) ++ minus ((([1] ++ [6]) ++ []) ++ [6]) [6]) 3 (eFz (eLc [6] (eIt (eMth "Hands" "held" (callN 2 m_Hands_held) (eVar 0) (eCons (eVar 2) eNil))) g1 (eB (e2 dIsN (e2 dIx (eVar 1) (eVar 6)) (eC .non))) l_settings_1)))) (gSeq (gFor (([] ++ ([3] ++ [])) ++ []) [4] (eL rng1 (eCons (e2 dShl (eC (.int 1)) (eL bLen (eCons (eVar 3) eNil))) eNil)) g1 b_settings_2) gNil))
def m_settings : List D → Res (List D) := mG 8 g_settings
theorem w_settings (T : Tx P K mg A) : FnW P w K mg base 1 A.f_settings A.d_settings "settings" "settings" s_settings ["hands", "state", "group", "letters", "number", "chosen", "letter", "place"] ["hands", "state", "group"] g_settings := ⟨T.F_settings, sc_settings, fun cdv A outer s H pn ok out cap B its hr hz => (gsd2_cons (gsd2_pl (fun s0 b0 hb0 => (sd_asgLcZ false (i := 3) rfl sc_settings.nd (id_seq (pd_meth (ps := ["self", "group"]) (by exact takes0) hr (by decide) T.d_Hands T.mm_Hands_held (w_Hands_held T) T.b_Hands_held (pd_var 0) (pad_cons (pd_var 2) pad_nil))) (blkOk_by (own := [("letter", 6)]) (by kernel_rfl)) rfl (fun s H C cl fp => (gd_name sc_settings.nd)) (fun s H C cl fp => (ptsd_one (ptd_cmp op_isN od_isN (pd_ix (pd_var 1) (pd_var 6)) pd_non (by first | exact nomark _ | rfl)))) (fun s H C cl fp => (pd_var 6))))) (gsd2_cons (gsd2_for (S := (([] ++ ([3] ++ [])) ++ [])) hz (fun _ _ _ => PassesOwn.never) rfl (fun s0 b0 hb0 => (id_of0 (id_range1 T.z_range (pad_cons (pd_bin op_shl od_shl pd_int (pd_B call_lenA cd_len T.z_len (pad_cons (pd_var 3) pad_nil))) pad_nil)))) (fun s0 b0 hb0 => (gd_name sc_settings.nd)) g1_len (gsd2_cons (gsd2_pl (fun s0 b0 hb0 => (sd_asgF false (i := 5) sc_settings.nd (pf_T call_list_of cf_list T.z_list (pad_cons (pd_var 1) pad_nil))))) (gsd2_cons (gsd2_pl (fun s0 b0 hb0 => (sd_for PassesOwn.never rfl (id_enumR T.z_enumerate T.z_reversed (pad_cons (pd_var 3) pad_nil)) (gd_tup rfl (gds_cons (gd_name sc_settings.nd) (gds_cons (gd_name sc_settings.nd) gds_nil))) (sds_one (sd_stL false 5 (pd_var 6) (pd_cmp (op_eqD hr.units) od_eq (pd_bin op_and od_and (pd_bin op_shr od_shr (pd_var 4) (pd_var 7)) pd_int) pd_int (by first | exact nomark _ | rfl))))))) (gsd2_cons (gsd2_yield (S := ([5] ++ [])) hz (fun s0 b0 hb0 => (pd_T call_tuple_of cd_tuple T.z_tuple (pad_cons (pd_var 5) pad_nil)))) gsd2_nil)))) gsd2_nil))⟩
theorem sc_within : FnScope ["first", "second"] ["first", "second"] (defScope s_within) := ⟨rfl, rfl, rfl, by decide +kernel, rfl, by decide +kernel, by decide +kernel⟩
def g_within : DEnv → SRes := (sRet (([0] ++ [1]) ++ [0]) (e2 dEq (e2 dAnd (eVar 0) (eVar 1)) (eVar 0)))
def m_within : List D → Res D := mOf 2 false g_within
theorem w_within (T : Tx P K mg A) : FnD P w K mg base 1 A.f_within A.d_within ["first", "second"] false m_within := fnd_of T.F_within sc_within fun cdv A outer s H E hr => (sds_one (sd_ret (pd_cmp (op_eqD hr.units) od_eq (pd_bin op_and od_and (pd_var 0) (pd_var 1)) (pd_var 0) (by first | exact nomark _ | rfl))))
theorem sc_prop_of : FnScope ["worlds", "prop", "world"] ["worlds"] (defScope s_prop_of) := ⟨rfl, rfl, rfl, by decide +kernel, rfl, by decide +kernel, by decide +kernel⟩
def b_prop_of_1 : DEnv → SRes := (sAsg false ([1] ++ ([] ++ [2])) 1 (e2 dOr (eVar 1) (e2 dShl (eC (.int 1)) (eVar 2))))
def g_prop_of : DEnv → SRes := (sSeq (sAsg false [] 1 (eC (.int 0))) (sSeq (sFor [0] [2] (eIt (eVar 0)) g1 b_prop_of_1) (sRet [1] (eVar 1))))
def m_prop_of : List D → Res D := mOf 3 false g_prop_of
theorem w_prop_of (T : Tx P K mg A) : FnD P w K mg base 1 A.f_prop_of A.d_prop_of ["worlds"] false m_prop_of := fnd_of T.F_prop_of sc_prop_of fun cdv A outer s H E hr => (sds_cons (sd_asg false (i := 1) sc_prop_of.nd pd_int) (sds_cons (sd_for (passes_of rfl) rfl (id_seq (pd_var 0)) (gd_name sc_prop_of.nd) (sds_one (sd_asg false (i := 1) sc_prop_of.nd (pd_bin op_or od_orr (pd_var 1) (pd_bin op_shl od_shl pd_int (pd_var 2)))))) (sds_one (sd_ret (pd_var 1)))))
theorem sc_cube : FnScope ["state", "worlds", "letter", "value", "holding", "world"] ["state"] (defScope s_cube) := ⟨rfl, rfl, rfl, by decide +kernel, rfl, by decide +kernel, by decide +kernel⟩
def l_cube_1 : DEnv → Res D := (e2 dOr (eVar 5) (e2 dShl (eC (.int 1)) (eVar 2)))
def b_cube_1 : DEnv → SRes := (sSeq (sAsg false ([1] ++ minus ([] ++ ([5] ++ ([] ++ [2]))) [5]) 4 (eFz (eLc [5] (eIt (eVar 1)) g1 tYesD l_cube_1))) (sIf (eB (e2 dIsN (eVar 3) (eC .non))) (sAsg false ([1] ++ [4]) 1 (eFz (e2 dCatL (eVar 1) (eVar 4)))) (sIf (eTru (eVar 3)) (sAsg false [4] 1 (eVar 4)) sNil)))
def g_cube : DEnv → SRes := (sSeq (sAsg false ([] ++ []) 1 (eFz (eLst (eCons (eC (.int 0)) eNil)))) (sSeq (sFor ([0] ++ []) ([2] ++ ([3] ++ [])) (eL bEnumA (eCons (eVar 0) eNil)) (gT 2 (gC g1 (gC g1 gN))) b_cube_1) (sRet ([1] ++ []) (eL (callN 1 m_prop_of) (eCons (eVar 1) eNil)))))
def m_cube : List D → Res D := mOf 6 false g_cube
theorem w_cube (T : Tx P K mg A) : FnD P w K mg base 2 A.f_cube A.d_cube ["state"] false m_cube := fnd_of T.F_cube sc_cube fun cdv A outer s H E hr => (sds_cons (sd_asg false (i := 1) sc_cube.nd (pd_fz (pf_lst (pad_cons pd_int pad_nil)))) (sds_cons (sd_for (passes_of rfl) rfl (id_enumA T.z_enumerate (pad_cons (pd_var 0) pad_nil)) (gd_tup rfl (gds_cons (gd_name sc_cube.nd) (gds_cons (gd_name sc_cube.nd) gds_nil))) (sds_cons (sd_asgLcZ false (i := 4) rfl sc_cube.nd (id_seq (pd_var 1)) (blkOk_by (own := [("world", 5)]) (by kernel_rfl)) rfl (fun s H C cl fp => (gd_name sc_cube.nd)) (fun s H C cl fp => ptsd_nil) (fun s H C cl fp => (pd_bin op_or od_orr (pd_var 5) (pd_bin op_shl od_shl pd_int (pd_var 2))))) (sds_one (sd_if (ptd_cmp op_isN od_isN (pd_var 3) pd_non (by first | exact nomark _ | rfl)) (sds_one (sd_asg false (i := 1) sc_cube.nd (pd_fz (pf_bin op_catS of_catL (pd_var 1) (pd_var 4))))) (sds_one (sd_if (ptd_tru (pd_var 3)) (sds_one (sd_asg false (i := 1) sc_cube.nd (pd_var 4))) sds_nil)))))) (sds_one (sd_ret (pd_call (ps := ["worlds"]) (takes_of rfl rfl rfl rfl) hr (by decide) (w_prop_of T) T.m_prop_of T.F_prop_of.kp T.b_prop_of (pad_cons (pd_var 1) pad_nil))))))
theorem sc_can_keep : FnScope ["hands", "state", "group", "claim", "chosen"] ["hands", "state", "group", "claim"] (defScope s_can_keep) := ⟨rfl, rfl, rfl, by decide +kernel, rfl, by decide +kernel, by decide +kernel⟩
def b_can_keep_1 : DEnv → SRes := (sIf (eTru (eL (callN 2 m_within) (eCons (eL (callN 1 m_cube) (eCons (eVar 4) eNil)) (eCons (eVar 3) eNil)))) (sRet [4] (eVar 4)) sNil)
def g_can_keep : DEnv → SRes := (sSeq (quiet (sForGe 4 3 m_settings (eCons (eVar 0) (eCons (eVar 1) (eCons (eVar 2) eNil))) b_can_keep_1)) (sRet [] (eC .non)))
def m_can_keep : List D → Res D := mOf 5 false g_can_keep
theorem w_can_keep (T : Tx P K mg A) : FnD P w K mg base 5 A.f_can_keep A.d_can_keep ["hands", "state", "group", "claim"] false m_can_keep := fnd_of T.F_can_keep sc_can_keep fun cdv A outer s H E hr => (sds_cons (sd_quiet (sd_forG (fun _ _ z => z) hr (by decide) (w_settings T) T.m_settings T.F_settings.kp T.b_settings (pad_cons (pd_var 0) (pad_cons (pd_var 1) (pad_cons (pd_var 2) pad_nil))) (gd_name sc_can_keep.nd) (sds_one (sd_if (ptd_tru (pd_call (ps := ["first", "second"]) (by exact takes0) hr (by decide) (w_within T) T.m_within T.F_within.kp T.b_within (pad_cons (pd_call (ps := ["state"]) (by exact takes0) hr (by decide) (w_cube T) T.m_cube T.F_cube.kp T.b_cube (pad_cons (pd_var 4) pad_nil)) (pad_cons (pd_var 3) pad_nil)))) (sds_one (sd_ret (pd_var 4))) sds_nil)) (keep_if ret_no) (st_fr rfl rfl) (st_sub rfl rfl))) (sds_one (sd_ret pd_non)))
theorem sc_could_keep : FnScope ["hands", "state", "group", "claim"] ["hands", "state", "group", "claim"] (defScope s_could_keep) := ⟨rfl, rfl, rfl, by decide +kernel, rfl, by decide +kernel, by decide +kernel⟩
def g_could_keep : DEnv → SRes := (sRet (([0] ++ (([0] ++ ([1] ++ ([2] ++ []))) ++ ([2] ++ ([3] ++ [])))) ++ []) (e2 dNotN (eL (callN 4 m_can_keep) (eCons (eVar 0) (eCons (eL (callN 3 m_reopened) (eCons (eVar 0) (eCons (eVar 1) (eCons (eVar 2) eNil)))) (eCons (eVar 2) (eCons (eVar 3) eNil))))) (eC .non)))
def m_could_keep : List D → Res D := mOf 4 false g_could_keep
theorem w_could_keep (T : Tx P K mg A) : FnD P w K mg base 6 A.f_could_keep A.d_could_keep ["hands", "state", "group", "claim"] false m_could_keep := fnd_of T.F_could_keep sc_could_keep fun cdv A outer s H E hr => (sds_one (sd_ret (pd_cmp op_notN od_notN (pd_call (ps := ["hands", "state", "group", "claim"]) (takes_of rfl rfl rfl rfl) hr (by decide) (w_can_keep T) T.m_can_keep T.F_can_keep.kp T.b_can_keep (pad_cons (pd_var 0) (pad_cons (pd_call (ps := ["hands", "state", "group"]) (takes_of rfl rfl rfl rfl) hr (by decide) (w_reopened T) T.m_reopened T.F_reopened.kp T.b_reopened (pad_cons (pd_var 0) (pad_cons (pd_var 1) (pad_cons (pd_var 2) pad_nil)))) (pad_cons (pd_var 2) (pad_cons (pd_var 3) pad_nil))))) pd_non (by first | exact nomark _ | rfl))))
theorem sc_blame : FnScope ["hands", "state", "claim", "group"] ["hands", "state", "claim"] (defScope s_blame) := ⟨rfl, rfl, rfl, by decide +kernel, rfl, by decide +kernel, by decide +kernel⟩
def l_blame_1 : DEnv → Res D := (eVar 3)
def g_blame : DEnv → SRes := (sRetF ((([0] ++ []) ++ minus (([0] ++ ([1] ++ ([3] ++ ([2] ++ [])))) ++ [3]) [3]) ++ []) (eL (callF 1 m_least) (eCons (eFz (eLc [3] (eL (callF 1 m_selections) (eCons (e1 (dFld ["Hands"] "people") (eVar 0)) eNil)) g1 (eTru (eL (callN 4 m_could_keep) (eCons (eVar 0) (eCons (eVar 1) (eCons (eVar 3) (eCons (eVar 2) eNil)))))) l_blame_1)) eNil)))
def m_blame : List D → Res D := mOf 4 true g_blame
theorem w_blame (T : Tx P K mg A) : FnD P w K mg base 7 A.f_blame A.d_blame ["hands", "state", "claim"] true m_blame := fnd_of T.F_blame sc_blame fun cdv A outer s H E hr => (sds_one (sd_retF (pf_call (ps := ["found"]) (takes_of rfl rfl rfl rfl) hr (by decide) (w_least T) T.m_least T.F_least.kp T.b_least (pad_cons (pd_fz (pf_lc rfl sc_blame.nd (id_new (pf_call (ps := ["count"]) (takes_of rfl rfl rfl rfl) hr (by decide) (w_selections T) T.m_selections T.F_selections.kp T.b_selections (pad_cons (pd_fld ["Hands"] (List.forall_mem_cons.2 ⟨⟨_, _, T.d_Hands, (.head _)⟩, (fun _ h => nomatch h)⟩) (pd_var 0)) pad_nil))) (blkOk_by (own := [("group", 3)]) (by kernel_rfl)) rfl (fun s H C cl fp => (gd_name sc_blame.nd)) (fun s H C cl fp => (ptsd_one (ptd_tru (pd_call (ps := ["hands", "state", "group", "claim"]) (by exact takes0) hr (by decide) (w_could_keep T) T.m_could_keep T.F_could_keep.kp T.b_could_keep (pad_cons (pd_var 0) (pad_cons (pd_var 1) (pad_cons (pd_var 3) (pad_cons (pd_var 2) pad_nil)))))))) (fun s H C cl fp => (pd_var 3)))) pad_nil))))
theorem sc__law_could : FnScope ["hands", "holders", "state", "group", "claim", "told"] ["hands", "holders", "state", "group", "claim"] (defScope s__law_could) := ⟨rfl, rfl, rfl, by decide +kernel, rfl, by decide +kernel, by decide +kernel⟩
def g__law_could : DEnv → SRes := (sSeq (sAsg false ([0] ++ ([2] ++ ([3] ++ []))) 5 (eL (callN 3 m_reopened) (eCons (eVar 0) (eCons (eVar 2) (eCons (eVar 3) eNil))))) (sSeq (sIf (eNot (eTru (eL (callN 2 (m__law_same 8)) (eCons (eVar 5) (eCons (eL (callN 2 m__law_reopened) (eCons (eVar 2) (eCons (eFz (eL (callF 2 m__law_letters) (eCons (eVar 1) (eCons (eVar 3) eNil)))) eNil))) eNil))))) (sRet [] (eC .non)) sNil) (sRet (([0] ++ ([5] ++ ([3] ++ ([4] ++ [])))) ++ []) (e2 dNotN (eL (callN 4 m_can_keep) (eCons (eVar 0) (eCons (eVar 5) (eCons (eVar 3) (eCons (eVar 4) eNil))))) (eC .non)))))
def m__law_could : List D → Res D := mOf 6 false g__law_could
theorem w__law_could (T : Tx P K mg A) : FnD P w K mg base 9 A.f__law_could A.d__law_could ["hands", "holders", "state", "group", "claim"] false m__law_could := fnd_of T.F__law_could sc__law_could fun cdv A outer s H E hr => (sds_cons (sd_asg false (i := 5) sc__law_could.nd (pd_call (ps := ["hands", "state", "group"]) (takes_of rfl rfl rfl rfl) hr (by decide) (w_reopened T) T.m_reopened T.F_reopened.kp T.b_reopened (pad_cons (pd_var 0) (pad_cons (pd_var 2) (pad_cons (pd_var 3) pad_nil))))) (sds_cons (sd_if (ptd_not (ptd_tru (pd_call (ps := ["told", "expected"]) (takes_of rfl rfl rfl rfl) hr (by decide) (w__law_same T 8) T.m__law_same T.F__law_same.kp T.b__law_same (pad_cons (pd_var 5) (pad_cons (pd_call (ps := ["state", "letters"]) (takes_of rfl rfl rfl rfl) hr (by decide) (w__law_reopened T) T.m__law_reopened T.F__law_reopened.kp T.b__law_reopened (pad_cons (pd_var 2) (pad_cons (pd_fz (pf_call (ps := ["holders", "group"]) (takes_of rfl rfl rfl rfl) hr (by decide) (w__law_letters T) T.m__law_letters T.F__law_letters.kp T.b__law_letters (pad_cons (pd_var 1) (pad_cons (pd_var 3) pad_nil)))) pad_nil))) pad_nil))))) (sds_one (sd_ret pd_non)) sds_nil) (sds_one (sd_ret (pd_cmp op_notN od_notN (pd_call (ps := ["hands", "state", "group", "claim"]) (takes_of rfl rfl rfl rfl) hr (by decide) (w_can_keep T) T.m_can_keep T.F_can_keep.kp T.b_can_keep (pad_cons (pd_var 0) (pad_cons (pd_var 5) (pad_cons (pd_var 3) (pad_cons (pd_var 4) pad_nil))))) pd_non (by first | exact nomark _ | rfl))))))
theorem sc__law_least : FnScope ["hands", "holders", "state", "told", "claim", "chosen", "person", "fewer", "other"] ["hands", "holders", "state", "told", "claim"] (defScope s__law_least) := ⟨rfl, rfl, rfl, by decide +kernel, rfl, by decide +kernel, by decide +kernel⟩
def l__law_least_1 : DEnv → Res D := (eVar 8)
def b__law_least_1 : DEnv → SRes := (sSeq (sAsg false (([5] ++ minus (([8] ++ [6]) ++ [8]) [8]) ++ []) 7 (eL bTuple (eCons (eFz (eLc [8] (eIt (eVar 5)) g1 (eB (e2 dNe (eVar 8) (eVar 6))) l__law_least_1)) eNil))) (sIf (eB (e2 dIsNTr (eL (callN 5 m__law_could) (eCons (eVar 0) (eCons (eVar 1) (eCons (eVar 2) (eCons (eVar 7) (eCons (eVar 4) eNil)))))) (eC (.bl false)))) (sRet [] (eC (.bl false))) sNil))
def b__law_least_2 : DEnv → SRes := (sSeq (sIf (eB (e2 dIsNTr (eL (callN 5 m__law_could) (eCons (eVar 0) (eCons (eVar 1) (eCons (eVar 2) (eCons (eVar 5) (eCons (eVar 4) eNil)))))) (eC (.bl true)))) (sRet [] (eC (.bl false))) sNil) (sFor [5] [6] (eIt (eVar 5)) g1 b__law_least_1))
def g__law_least : DEnv → SRes := (sSeq (sFor [3] [5] (eIt (eVar 3)) g1 b__law_least_2) (sRet [] (eC (.bl true))))
def m__law_least : List D → Res D := mOf 9 false g__law_least
theorem w__law_least (T : Tx P K mg A) : FnD P w K mg base 10 A.f__law_least A.d__law_least ["hands", "holders", "state", "told", "claim"] false m__law_least := fnd_of T.F__law_least sc__law_least fun cdv A outer s H E hr => (sds_cons (sd_for (passes_of rfl) rfl (id_seq (pd_var 3)) (gd_name sc__law_least.nd) (sds_cons (sd_if (ptd_cmp op_isNTr od_isNTr (pd_call (ps := ["hands", "holders", "state", "group", "claim"]) (takes_of rfl rfl rfl rfl) hr (by decide) (w__law_could T) T.m__law_could T.F__law_could.kp T.b__law_could (pad_cons (pd_var 0) (pad_cons (pd_var 1) (pad_cons (pd_var 2) (pad_cons (pd_var 5) (pad_cons (pd_var 4) pad_nil)))))) pd_bl (by first | exact nomark _ | rfl)) (sds_one (sd_ret pd_bl)) sds_nil) (sds_one (sd_for (passes_of rfl) rfl (id_seq (pd_var 5)) (gd_name sc__law_least.nd) (sds_cons (sd_asg false (i := 7) sc__law_least.nd (pd_T call_tuple_of cd_tuple T.z_tuple (pad_cons (pd_fz (pf_lc rfl sc__law_least.nd (id_seq (pd_var 5)) (blkOk_by (own := [("other", 8)]) (by kernel_rfl)) rfl (fun s H C cl fp => (gd_name sc__law_least.nd)) (fun s H C cl fp => (ptsd_one (ptd_cmp (op_neD hr.units) od_ne (pd_var 8) (pd_var 6) (by first | exact nomark _ | rfl)))) (fun s H C cl fp => (pd_var 8)))) pad_nil))) (sds_one (sd_if (ptd_cmp op_isNTr od_isNTr (pd_call (ps := ["hands", "holders", "state", "group", "claim"]) (takes_of rfl rfl rfl rfl) hr (by decide) (w__law_could T) T.m__law_could T.F__law_could.kp T.b__law_could (pad_cons (pd_var 0) (pad_cons (pd_var 1) (pad_cons (pd_var 2) (pad_cons (pd_var 7) (pad_cons (pd_var 4) pad_nil)))))) pd_bl (by first | exact nomark _ | rfl)) (sds_one (sd_ret pd_bl)) sds_nil))))))) (sds_one (sd_ret pd_bl)))
theorem sc_least_groups : FnScope ["hands", "state", "claim", "groups", "group"] ["hands", "state", "claim"] (defScope s_least_groups) := ⟨rfl, rfl, rfl, by decide +kernel, rfl, by decide +kernel, by decide +kernel⟩
def l_least_groups_1 : DEnv → Res D := (eVar 4)
def g_least_groups : DEnv → SRes := (sSeq (sAsg false ([0] ++ []) 3 (eFz (eL (callF 1 m_selections) (eCons (e1 (dFld ["Hands"] "people") (eVar 0)) eNil)))) (sRetF (([3] ++ minus ((([0] ++ ([1] ++ ([4] ++ ([2] ++ [])))) ++ []) ++ [4]) [4]) ++ []) (eL (callF 1 m_least) (eCons (eFz (eLc [4] (eIt (eVar 3)) g1 (eB (e2 dNotN (eL (callN 4 m_can_keep) (eCons (eVar 0) (eCons (eVar 1) (eCons (eVar 4) (eCons (eVar 2) eNil))))) (eC .non))) l_least_groups_1)) eNil))))
def m_least_groups : List D → Res D := mOf 5 true g_least_groups
theorem w_least_groups (T : Tx P K mg A) : FnD P w K mg base 6 A.f_least_groups A.d_least_groups ["hands", "state", "claim"] true m_least_groups := fnd_of T.F_least_groups sc_least_groups fun cdv A outer s H E hr => (sds_cons (sd_asg false (i := 3) sc_least_groups.nd (pd_fz (pf_call (ps := ["count"]) (takes_of rfl rfl rfl rfl) hr (by decide) (w_selections T) T.m_selections T.F_selections.kp T.b_selections (pad_cons (pd_fld ["Hands"] (List.forall_mem_cons.2 ⟨⟨_, _, T.d_Hands, (.head _)⟩, (fun _ h => nomatch h)⟩) (pd_var 0)) pad_nil)))) (sds_one (sd_retF (pf_call (ps := ["found"]) (takes_of rfl rfl rfl rfl) hr (by decide) (w_least T) T.m_least T.F_least.kp T.b_least (pad_cons (pd_fz (pf_lc rfl sc_least_groups.nd (id_seq (pd_var 3)) (blkOk_by (own := [("group", 4)]) (by kernel_rfl)) rfl (fun s H C cl fp => (gd_name sc_least_groups.nd)) (fun s H C cl fp => (ptsd_one (ptd_cmp op_notN od_notN (pd_call (ps := ["hands", "state", "group", "claim"]) (by exact takes0) hr (by decide) (w_can_keep T) T.m_can_keep T.F_can_keep.kp T.b_can_keep (pad_cons (pd_var 0) (pad_cons (pd_var 1) (pad_cons (pd_var 4) (pad_cons (pd_var 2) pad_nil))))) pd_non (by first | exact nomark _ | rfl)))) (fun s H C cl fp => (pd_var 4)))) pad_nil)))))
theorem sc__law_now : FnScope ["people", "holders", "state", "claim", "good", "mask", "letters"] ["people", "holders", "state", "claim"] (defScope s__law_now) := ⟨rfl, rfl, rfl, by decide +kernel, rfl, by decide +kernel, by decide +kernel⟩
def b__law_now_1 : DEnv → SRes := (sSeq (sAsg false ([1] ++ (([5] ++ ([0] ++ [])) ++ [])) 6 (eFz (eL (callF 2 m__law_letters) (eCons (eVar 1) (eCons (eL (callN 2 m__law_chosen) (eCons (eVar 5) (eCons (eVar 0) eNil))) eNil))))) (sApp false (([2] ++ ([6] ++ ([3] ++ []))) ++ []) 4 (e2 dNotN (eL (callN 3 m__law_first_kept) (eCons (eVar 2) (eCons (eVar 6) (eCons (eVar 3) eNil)))) (eC .non))))
def g__law_now : DEnv → SRes := (sSeq (sAsgF false [] 4 (eLst eNil)) (sSeq (sForR [5] (eL rng1 (eCons (e2 dShl (eC (.int 1)) (eVar 0)) eNil)) g1 b__law_now_1) (sRetF ([0] ++ ([4] ++ [])) (eL (callF 2 m__law_least_groups) (eCons (eVar 0) (eCons (eVar 4) eNil))))))
def m__law_now : List D → Res D := mOf 7 true g__law_now
theorem w__law_now (T : Tx P K mg A) : FnD P w K mg base 4 A.f__law_now A.d__law_now ["people", "holders", "state", "claim"] true m__law_now := fnd_of T.F__law_now sc__law_now fun cdv A outer s H E hr => (sds_cons (sd_asgF false (i := 4) sc__law_now.nd (pf_lst pad_nil)) (sds_cons (sd_forR (S := (([] ++ [0]) ++ [])) (passes_of rfl) rfl (id_range1 T.z_range (pad_cons (pd_bin op_shl od_shl pd_int (pd_var 0)) pad_nil)) (gd_name sc__law_now.nd) (sds_cons (sd_asg false (i := 6) sc__law_now.nd (pd_fz (pf_call (ps := ["holders", "group"]) (takes_of rfl rfl rfl rfl) hr (by decide) (w__law_letters T) T.m__law_letters T.F__law_letters.kp T.b__law_letters (pad_cons (pd_var 1) (pad_cons (pd_call (ps := ["mask", "count"]) (takes_of rfl rfl rfl rfl) hr (by decide) (w__law_chosen T) T.m__law_chosen T.F__law_chosen.kp T.b__law_chosen (pad_cons (pd_var 5) (pad_cons (pd_var 0) pad_nil))) pad_nil))))) (sds_one (sd_app false 4 (pd_cmp op_notN od_notN (pd_call (ps := ["state", "letters", "claim"]) (takes_of rfl rfl rfl rfl) hr (by decide) (w__law_first_kept T) T.m__law_first_kept T.F__law_first_kept.kp T.b__law_first_kept (pad_cons (pd_var 2) (pad_cons (pd_var 6) (pad_cons (pd_var 3) pad_nil)))) pd_non (by first | exact nomark _ | rfl)))))) (sds_one (sd_retF (pf_call (ps := ["people", "good"]) (takes_of rfl rfl rfl rfl) hr (by decide) (w__law_least_groups T) T.m__law_least_groups T.F__law_least_groups.kp T.b__law_least_groups (pad_cons (pd_var 0) (pad_cons (pd_var 4) pad_nil)))))))
theorem sc__law_one_within : FnScope ["found", "group", "chosen", "person"] ["found", "group"] (defScope s__law_one_within) := ⟨rfl, rfl, rfl, by decide +kernel, rfl, by decide +kernel, by decide +kernel⟩
def l__law_one_within_1 : DEnv → Res D := (e2 dIn (eVar 3) (eVar 1))
def b__law_one_within_1 : DEnv → SRes := (sIf (eTru (eL bAll (eCons (eFz (eLc [3] (eIt (eVar 2)) g1 tYesD l__law_one_within_1)) eNil))) (sRet [] (eC (.bl true))) sNil)
def g__law_one_within : DEnv → SRes := (sSeq (sFor [0] [2] (eIt (eVar 0)) g1 b__law_one_within_1) (sRet [] (eC (.bl false))))
def m__law_one_within : List D → Res D := mOf 4 false g__law_one_within
theorem w__law_one_within (T : Tx P K mg A) : FnD P w K mg base 1 A.f__law_one_within A.d__law_one_within ["found", "group"] false m__law_one_within := fnd_of T.F__law_one_within sc__law_one_within fun cdv A outer s H E hr => (sds_cons (sd_for (passes_of rfl) rfl (id_seq (pd_var 0)) (gd_name sc__law_one_within.nd) (sds_one (sd_if (ptd_tru (pd_B (cr_all rfl) cd_all T.z_all (pad_cons (pd_fz (pf_lc rfl sc__law_one_within.nd (id_seq (pd_var 2)) (blkOk_by (own := [("person", 3)]) (by kernel_rfl)) rfl (fun s H C cl fp => (gd_name sc__law_one_within.nd)) (fun s H C cl fp => ptsd_nil) (fun s H C cl fp => (pd_cmp (op_inA (u65 hr)) od_in (pd_var 3) (pd_var 1) (by first | exact nomark _ | rfl))))) pad_nil))) (sds_one (sd_ret pd_bl)) sds_nil))) (sds_one (sd_ret pd_bl)))
theorem sc_law : FnScope ["script", "start", "menu", "n", "people", "holders", "state", "claim", "drawn", "hands", "mask", "expected", "told", "kept", "letters", "able", "now", "wider", "more", "persons", "opened", "chosen"] ["script"] (defScope s_law) := ⟨rfl, rfl, rfl, by decide +kernel, rfl, by decide +kernel, by decide +kernel⟩
def b_law_1 : DEnv → SRes := (sSeq (sAsg false ([10] ++ ([4] ++ [])) 19 (eL (callN 2 m__law_chosen) (eCons (eVar 10) (eCons (eVar 4) eNil)))) (sSeq (sAsg false ([6] ++ (([5] ++ ([19] ++ [])) ++ [])) 20 (eL (callN 2 m__law_reopened) (eCons (eVar 6) (eCons (eFz (eL (callF 2 m__law_letters) (eCons (eVar 5) (eCons (eVar 19) eNil)))) eNil)))) (sIf (eNot (eTru (eL (callN 2 (m__law_same 8)) (eCons (eL (callN 3 m_reopened) (eCons (eVar 9) (eCons (eVar 6) (eCons (eVar 19) eNil)))) (eCons (eVar 20) eNil))))) (sRet [] (eC (.bl false))) sNil)))
def l_law_1 : DEnv → Res D := (eL (callN 2 m__law_one_within) (eCons (eVar 12) (eCons (eVar 21) eNil)))
def l_law_2 : DEnv → Res D := (eL (callN 2 m__law_one_within) (eCons (eVar 18) (eCons (eVar 21) eNil)))
def g_law : DEnv → SRes := (sSeq (sAsg false ([0] ++ ([] ++ [])) 1 (eL (callN 2 m__law_cell) (eCons (eVar 0) (eCons (eC (.int 0)) eNil)))) (sSeq (sAsg false ([] ++ ([] ++ ([] ++ ([] ++ ([] ++ []))))) 2 (eTup (eCons (eC (.int 3)) (eCons (eC (.int 2)) (eCons (eC (.int 4)) (eCons (eC (.int 1)) (eCons (eC (.int 4)) eNil))))))) (sSeq (sAsg false ([2] ++ ([1] ++ [])) 3 (e2 dIx (eVar 2) (e2 dMod (eVar 1) (eC (.int 5))))) (sSeq (sAsg false ([] ++ (([] ++ ([1] ++ [])) ++ [])) 4 (e2 dAdd (eC (.int 1)) (e2 dMod (e2 dAdd (eC (.int 2)) (e2 dDiv (eVar 1) (eC (.int 5)))) (eC (.int 5))))) (sSeq (sAsg false ([0] ++ ([] ++ ([3] ++ ([4] ++ [])))) 5 (eFz (eL (callF 4 m__law_holders) (eCons (eVar 0) (eCons (eC (.int 1)) (eCons (eVar 3) (eCons (eVar 4) eNil))))))) (sSeq (sAsg false ([0] ++ ([] ++ ([3] ++ []))) 6 (eL (callN 3 m__law_state) (eCons (eVar 0) (eCons (eC (.int 2)) (eCons (eVar 3) eNil))))) (sSeq (sAsg false ([0] ++ ([] ++ ([6] ++ []))) 7 (eL (callN 3 m__law_claim) (eCons (eVar 0) (eCons (eC (.int 4)) (eCons (eVar 6) eNil))))) (sSeq (sAsg false ([0] ++ ([] ++ ([] ++ (([] ++ ([] ++ [3])) ++ [])))) 8 (eFz (eL (callF 4 m__law_numbers) (eCons (eVar 0) (eCons (eC (.int 7)) (eCons (eC (.int 2)) (eCons (e2 dShl (eC (.int 1)) (e2 dShl (eC (.int 1)) (eVar 3))) eNil))))))) (sSeq (sAsg false ([4] ++ (([5] ++ []) ++ [])) 9 (eL (mkD "Hands" 3 m_Hands_init) (eCons (eVar 4) (eCons (eFz (eL bList (eCons (eVar 5) eNil))) eNil)))) (sSeq (sForR [10] (eL rng1 (eCons (e2 dShl (eC (.int 1)) (eVar 4)) eNil)) g1 b_law_1) (sSeq (sAsg false ([4] ++ ([5] ++ ([6] ++ ([7] ++ [])))) 11 (eFz (eL (callF 4 m__law_blame) (eCons (eVar 4) (eCons (eVar 5) (eCons (eVar 6) (eCons (eVar 7) eNil))))))) (sSeq (sAsgF false ([9] ++ ([6] ++ ([7] ++ []))) 12 (eL (callF 3 m_blame) (eCons (eVar 9) (eCons (eVar 6) (eCons (eVar 7) eNil))))) (sSeq (sIf (eNot (eTru (eL (callN 2 (m__law_same 8)) (eCons (eVar 12) (eCons (eVar 11) eNil))))) (sRet [] (eC (.bl false))) sNil) (sSeq (sAsg false ((([6] ++ []) ++ [7]) ++ ([6] ++ [])) 13 (e2 dEq (e2 dAnd (eL (callN 1 m__law_cube) (eCons (eVar 6) eNil)) (eVar 7)) (eL (callN 1 m__law_cube) (eCons (eVar 6) eNil)))) (sSeq (sIf (eB (e2 dNe (e2 dEq (eVar 12) (eFz (eLst (eCons (eTup eNil) eNil)))) (eVar 13))) (sRet [] (eC (.bl false))) sNil) (sSeq (sAsg false ([5] ++ ([4] ++ [])) 14 (eFz (eL (callF 2 m__law_letters) (eCons (eVar 5) (eCons (e1 tupRg (eVar 4)) eNil))))) (sSeq (sAsg false ((([6] ++ ([14] ++ [])) ++ ([14] ++ ([7] ++ []))) ++ []) 15 (e2 dNotN (eL (callN 3 m__law_first_kept) (eCons (eL (callN 2 m__law_reopened) (eCons (eVar 6) (eCons (eVar 14) eNil))) (eCons (eVar 14) (eCons (eVar 7) eNil)))) (eC .non))) (sSeq (sIf (eOr (eB (e2 dEq (e2 dEq (eL bLen (eCons (eVar 12) eNil)) (eC (.int 0))) (eVar 15))) (eNot (eTru (eL (callN 5 m__law_least) (eCons (eVar 9) (eCons (eVar 5) (eCons (eVar 6) (eCons (eVar 12) (eCons (eVar 7) eNil))))))))) (sRet [] (eC (.bl false))) sNil) (sSeq (sAsg false ([9] ++ ([6] ++ ([7] ++ []))) 16 (eFz (eL (callF 3 m_least_groups) (eCons (eVar 9) (eCons (eVar 6) (eCons (eVar 7) eNil)))))) (sSeq (sIf (eNot (eTru (eL (callN 2 (m__law_same 8)) (eCons (eVar 16) (eCons (eFz (eL (callF 4 m__law_now) (eCons (eVar 4) (eCons (eVar 5) (eCons (eVar 6) (eCons (eVar 7) eNil)))))) eNil))))) (sRet [] (eC (.bl false))) sNil) (sSeq (sIf (eNot (eTru (eL bAll (eCons (eFz (eLc [21] (eIt (eVar 16)) g1 tYesD l_law_1)) eNil)))) (sRet [] (eC (.bl false))) sNil) (sSeq (sAsg false ([7] ++ (([8] ++ []) ++ ([8] ++ []))) 17 (e2 dOr (eVar 7) (e2 dAnd (e2 dIx (eVar 8) (eC (.int 0))) (e2 dIx (eVar 8) (eC (.int 1)))))) (sSeq (sAsg false ([9] ++ ([6] ++ ([17] ++ []))) 18 (eFz (eL (callF 3 m_blame) (eCons (eVar 9) (eCons (eVar 6) (eCons (eVar 17) eNil)))))) (sSeq (sIf (eNot (eTru (eL (callN 2 (m__law_same 8)) (eCons (eVar 18) (eCons (eFz (eL (callF 4 m__law_blame) (eCons (eVar 4) (eCons (eVar 5) (eCons (eVar 6) (eCons (eVar 17) eNil)))))) eNil))))) (sRet [] (eC (.bl false))) sNil) (sSeq (sIf (eNot (eTru (eL bAll (eCons (eFz (eLc [21] (eIt (eVar 12)) g1 tYesD l_law_2)) eNil)))) (sRet [] (eC (.bl false))) sNil) (sSeq (sApp false ([] ++ []) 12 (eTup (eCons (eC (.int 9)) eNil))) (sRet (([9] ++ ([6] ++ ([7] ++ []))) ++ ([11] ++ [])) (eL (callN 2 (m__law_same 8)) (eCons (eFz (eL (callF 3 m_blame) (eCons (eVar 9) (eCons (eVar 6) (eCons (eVar 7) eNil))))) (eCons (eVar 11) eNil))))))))))))))))))))))))))))))
def m_law : List D → Res D := mOf 22 false g_law
theorem w_law (T : Tx P K mg A) : FnD P w K mg base 11 A.f_law A.d_law ["script"] false m_law := fnd_of T.F_law sc_law fun cdv A outer s H E hr => (sds_cons (sd_asg false (i := 1) sc_law.nd (pd_call (ps := ["script", "k"]) (takes_of rfl rfl rfl rfl) hr (by decide) (w__law_cell T) T.m__law_cell T.F__law_cell.kp T.b__law_cell (pad_cons (pd_var 0) (pad_cons pd_int pad_nil)))) (sds_cons (sd_asg false (i := 2) sc_law.nd (pd_tup (pad_cons pd_int (pad_cons pd_int (pad_cons pd_int (pad_cons pd_int (pad_cons pd_int pad_nil))))))) (sds_cons (sd_asg false (i := 3) sc_law.nd (pd_ix (pd_var 2) (pd_bin op_mod od_mod (pd_var 1) pd_int))) (sds_cons (sd_asg false (i := 4) sc_law.nd (pd_bin op_addA od_add pd_int (pd_bin op_mod od_mod (pd_bin op_addA od_add pd_int (pd_bin op_fdiv od_div (pd_var 1) pd_int)) pd_int))) (sds_cons (sd_asg false (i := 5) sc_law.nd (pd_fz (pf_call (ps := ["script", "at", "n", "people"]) (takes_of rfl rfl rfl rfl) hr (by decide) (w__law_holders T) T.m__law_holders T.F__law_holders.kp T.b__law_holders (pad_cons (pd_var 0) (pad_cons pd_int (pad_cons (pd_var 3) (pad_cons (pd_var 4) pad_nil))))))) (sds_cons (sd_asg false (i := 6) sc_law.nd (pd_call (ps := ["script", "at", "n"]) (takes_of rfl rfl rfl rfl) hr (by decide) (w__law_state T) T.m__law_state T.F__law_state.kp T.b__law_state (pad_cons (pd_var 0) (pad_cons pd_int (pad_cons (pd_var 3) pad_nil))))) (sds_cons (sd_asg false (i := 7) sc_law.nd (pd_call (ps := ["script", "at", "state"]) (takes_of rfl rfl rfl rfl) hr (by decide) (w__law_claim T) T.m__law_claim T.F__law_claim.kp T.b__law_claim (pad_cons (pd_var 0) (pad_cons pd_int (pad_cons (pd_var 6) pad_nil))))) (sds_cons (sd_asg false (i := 8) sc_law.nd (pd_fz (pf_call (ps := ["script", "at", "count", "radix"]) (takes_of rfl rfl rfl rfl) hr (by decide) (w__law_numbers T) T.m__law_numbers T.F__law_numbers.kp T.b__law_numbers (pad_cons (pd_var 0) (pad_cons pd_int (pad_cons pd_int (pad_cons (pd_bin op_shl od_shl pd_int (pd_bin op_shl od_shl pd_int (pd_var 3))) pad_nil))))))) (sds_cons (sd_asg false (i := 9) sc_law.nd (pd_make (ps := ["self", "people", "holders"]) (takes_of rfl rfl rfl rfl) hr (by decide) T.mk_Hands (w_Hands_init T) T.g_Hands T.b_Hands_init (pad_cons (pd_var 4) (pad_cons (pd_fz (pf_T call_list_of cf_list T.z_list (pad_cons (pd_var 5) pad_nil))) pad_nil)))) (sds_cons (sd_forR (S := (([] ++ [4]) ++ [])) (passes_of rfl) rfl (id_range1 T.z_range (pad_cons (pd_bin op_shl od_shl pd_int (pd_var 4)) pad_nil)) (gd_name sc_law.nd) (sds_cons (sd_asg false (i := 19) sc_law.nd (pd_call (ps := ["mask", "count"]) (takes_of rfl rfl rfl rfl) hr (by decide) (w__law_chosen T) T.m__law_chosen T.F__law_chosen.kp T.b__law_chosen (pad_cons (pd_var 10) (pad_cons (pd_var 4) pad_nil)))) (sds_cons (sd_asg false (i := 20) sc_law.nd (pd_call (ps := ["state", "letters"]) (takes_of rfl rfl rfl rfl) hr (by decide) (w__law_reopened T) T.m__law_reopened T.F__law_reopened.kp T.b__law_reopened (pad_cons (pd_var 6) (pad_cons (pd_fz (pf_call (ps := ["holders", "group"]) (takes_of rfl rfl rfl rfl) hr (by decide) (w__law_letters T) T.m__law_letters T.F__law_letters.kp T.b__law_letters (pad_cons (pd_var 5) (pad_cons (pd_var 19) pad_nil)))) pad_nil)))) (sds_one (sd_if (ptd_not (ptd_tru (pd_call (ps := ["told", "expected"]) (takes_of rfl rfl rfl rfl) hr (by decide) (w__law_same T 8) T.m__law_same T.F__law_same.kp T.b__law_same (pad_cons (pd_call (ps := ["hands", "state", "group"]) (takes_of rfl rfl rfl rfl) hr (by decide) (w_reopened T) T.m_reopened T.F_reopened.kp T.b_reopened (pad_cons (pd_var 9) (pad_cons (pd_var 6) (pad_cons (pd_var 19) pad_nil)))) (pad_cons (pd_var 20) pad_nil))))) (sds_one (sd_ret pd_bl)) sds_nil))))) (sds_cons (sd_asg false (i := 11) sc_law.nd (pd_fz (pf_call (ps := ["people", "holders", "state", "claim"]) (takes_of rfl rfl rfl rfl) hr (by decide) (w__law_blame T) T.m__law_blame T.F__law_blame.kp T.b__law_blame (pad_cons (pd_var 4) (pad_cons (pd_var 5) (pad_cons (pd_var 6) (pad_cons (pd_var 7) pad_nil))))))) (sds_cons (sd_asgF false (i := 12) sc_law.nd (pf_call (ps := ["hands", "state", "claim"]) (takes_of rfl rfl rfl rfl) hr (by decide) (w_blame T) T.m_blame T.F_blame.kp T.b_blame (pad_cons (pd_var 9) (pad_cons (pd_var 6) (pad_cons (pd_var 7) pad_nil))))) (sds_cons (sd_if (ptd_not (ptd_tru (pd_call (ps := ["told", "expected"]) (takes_of rfl rfl rfl rfl) hr (by decide) (w__law_same T 8) T.m__law_same T.F__law_same.kp T.b__law_same (pad_cons (pd_var 12) (pad_cons (pd_var 11) pad_nil))))) (sds_one (sd_ret pd_bl)) sds_nil) (sds_cons (sd_asg false (i := 13) sc_law.nd (pd_cmp (op_eqD hr.units) od_eq (pd_bin op_and od_and (pd_call (ps := ["state"]) (takes_of rfl rfl rfl rfl) hr (by decide) (w__law_cube T) T.m__law_cube T.F__law_cube.kp T.b__law_cube (pad_cons (pd_var 6) pad_nil)) (pd_var 7)) (pd_call (ps := ["state"]) (takes_of rfl rfl rfl rfl) hr (by decide) (w__law_cube T) T.m__law_cube T.F__law_cube.kp T.b__law_cube (pad_cons (pd_var 6) pad_nil)) (by first | exact nomark _ | rfl))) (sds_cons (sd_if (ptd_cmp (op_neD hr.units) od_ne (pd_cmp (op_eqD hr.units) od_eq (pd_var 12) (pd_fz (pf_lst (pad_cons (pd_tup pad_nil) pad_nil))) (by first | exact nomark _ | rfl)) (pd_var 13) (by first | exact nomark _ | rfl)) (sds_one (sd_ret pd_bl)) sds_nil) (sds_cons (sd_asg false (i := 14) sc_law.nd (pd_fz (pf_call (ps := ["holders", "group"]) (takes_of rfl rfl rfl rfl) hr (by decide) (w__law_letters T) T.m__law_letters T.F__law_letters.kp T.b__law_letters (pad_cons (pd_var 5) (pad_cons (pd_tupRg rfl T.z_tuple T.z_range (pd_var 4)) pad_nil))))) (sds_cons (sd_asg false (i := 15) sc_law.nd (pd_cmp op_notN od_notN (pd_call (ps := ["state", "letters", "claim"]) (takes_of rfl rfl rfl rfl) hr (by decide) (w__law_first_kept T) T.m__law_first_kept T.F__law_first_kept.kp T.b__law_first_kept (pad_cons (pd_call (ps := ["state", "letters"]) (takes_of rfl rfl rfl rfl) hr (by decide) (w__law_reopened T) T.m__law_reopened T.F__law_reopened.kp T.b__law_reopened (pad_cons (pd_var 6) (pad_cons (pd_var 14) pad_nil))) (pad_cons (pd_var 14) (pad_cons (pd_var 7) pad_nil)))) pd_non (by first | exact nomark _ | rfl))) (sds_cons (sd_if (ptd_w (pwd_or (ptd_cmp (op_eqD hr.units) od_eq (pd_cmp (op_eqD hr.units) od_eq (pd_B call_lenA cd_len T.z_len (pad_cons (pd_var 12) pad_nil)) pd_int (by first | exact nomark _ | rfl)) (pd_var 15) (by first | exact nomark _ | rfl)) (pwd_or1 (ptd_not (ptd_tru (pd_call (ps := ["hands", "holders", "state", "told", "claim"]) (takes_of rfl rfl rfl rfl) hr (by decide) (w__law_least T) T.m__law_least T.F__law_least.kp T.b__law_least (pad_cons (pd_var 9) (pad_cons (pd_var 5) (pad_cons (pd_var 6) (pad_cons (pd_var 12) (pad_cons (pd_var 7) pad_nil))))))))))) (sds_one (sd_ret pd_bl)) sds_nil) (sds_cons (sd_asg false (i := 16) sc_law.nd (pd_fz (pf_call (ps := ["hands", "state", "claim"]) (takes_of rfl rfl rfl rfl) hr (by decide) (w_least_groups T) T.m_least_groups T.F_least_groups.kp T.b_least_groups (pad_cons (pd_var 9) (pad_cons (pd_var 6) (pad_cons (pd_var 7) pad_nil)))))) (sds_cons (sd_if (ptd_not (ptd_tru (pd_call (ps := ["told", "expected"]) (takes_of rfl rfl rfl rfl) hr (by decide) (w__law_same T 8) T.m__law_same T.F__law_same.kp T.b__law_same (pad_cons (pd_var 16) (pad_cons (pd_fz (pf_call (ps := ["people", "holders", "state", "claim"]) (takes_of rfl rfl rfl rfl) hr (by decide) (w__law_now T) T.m__law_now T.F__law_now.kp T.b__law_now (pad_cons (pd_var 4) (pad_cons (pd_var 5) (pad_cons (pd_var 6) (pad_cons (pd_var 7) pad_nil)))))) pad_nil))))) (sds_one (sd_ret pd_bl)) sds_nil) (sds_cons (sd_if (ptd_not (ptd_tru (pd_B (cr_all rfl) cd_all T.z_all (pad_cons (pd_fz (pf_lc rfl sc_law.nd (id_seq (pd_var 16)) (blkOk_by (own := [("chosen", 21)]) (by kernel_rfl)) rfl (fun s H C cl fp => (gd_name sc_law.nd)) (fun s H C cl fp => ptsd_nil) (fun s H C cl fp => (pd_call (ps := ["found", "group"]) (by exact takes0) hr (by decide) (w__law_one_within T) T.m__law_one_within T.F__law_one_within.kp T.b__law_one_within (pad_cons (pd_var 12) (pad_cons (pd_var 21) pad_nil)))))) pad_nil)))) (sds_one (sd_ret pd_bl)) sds_nil) (sds_cons (sd_asg false (i := 17) sc_law.nd (pd_bin op_or od_orr (pd_var 7) (pd_bin op_and od_and (pd_ix (pd_var 8) pd_int) (pd_ix (pd_var 8) pd_int)))) (sds_cons (sd_asg false (i := 18) sc_law.nd (pd_fz (pf_call (ps := ["hands", "state", "claim"]) (takes_of rfl rfl rfl rfl) hr (by decide) (w_blame T) T.m_blame T.F_blame.kp T.b_blame (pad_cons (pd_var 9) (pad_cons (pd_var 6) (pad_cons (pd_var 17) pad_nil)))))) (sds_cons (sd_if (ptd_not (ptd_tru (pd_call (ps := ["told", "expected"]) (takes_of rfl rfl rfl rfl) hr (by decide) (w__law_same T 8) T.m__law_same T.F__law_same.kp T.b__law_same (pad_cons (pd_var 18) (pad_cons (pd_fz (pf_call (ps := ["people", "holders", "state", "claim"]) (takes_of rfl rfl rfl rfl) hr (by decide) (w__law_blame T) T.m__law_blame T.F__law_blame.kp T.b__law_blame (pad_cons (pd_var 4) (pad_cons (pd_var 5) (pad_cons (pd_var 6) (pad_cons (pd_var 17) pad_nil)))))) pad_nil))))) (sds_one (sd_ret pd_bl)) sds_nil) (sds_cons (sd_if (ptd_not (ptd_tru (pd_B (cr_all rfl) cd_all T.z_all (pad_cons (pd_fz (pf_lc rfl sc_law.nd (id_seq (pd_var 12)) (blkOk_by (own := [("chosen", 21)]) (by kernel_rfl)) rfl (fun s H C cl fp => (gd_name sc_law.nd)) (fun s H C cl fp => ptsd_nil) (fun s H C cl fp => (pd_call (ps := ["found", "group"]) (by exact takes0) hr (by decide) (w__law_one_within T) T.m__law_one_within T.F__law_one_within.kp T.b__law_one_within (pad_cons (pd_var 18) (pad_cons (pd_var 21) pad_nil)))))) pad_nil)))) (sds_one (sd_ret pd_bl)) sds_nil) (sds_cons (sd_app false 12 (pd_tup (pad_cons pd_int pad_nil))) (sds_one (sd_ret (pd_call (ps := ["told", "expected"]) (takes_of rfl rfl rfl rfl) hr (by decide) (w__law_same T 8) T.m__law_same T.F__law_same.kp T.b__law_same (pad_cons (pd_fz (pf_call (ps := ["hands", "state", "claim"]) (takes_of rfl rfl rfl rfl) hr (by decide) (w_blame T) T.m_blame T.F_blame.kp T.b_blame (pad_cons (pd_var 9) (pad_cons (pd_var 6) (pad_cons (pd_var 7) pad_nil))))) (pad_cons (pd_var 11) pad_nil)))))))))))))))))))))))))))))))
end
/-! ### what the top has written -/
theorem all_mk {l : PySem.W.OpenLaw} {w : World} {K : PySem.W.Frag} {h : Heap} {mg : Str → Option Value} {fa : Addr} (X : K.In h) (G : h.Ns mainGlobals mg) (hfa : mg "law" = some (.ref fa))
    {C_Hands : Addr}
    {f1 : Addr} {od1 an1 : Option Addr} {sl1 : Array (Option Value)} {oc1 kV1 dc1 pm1 cd1 ct1 : Value}
    {f2 : Addr} {od2 an2 : Option Addr} {sl2 : Array (Option Value)} {oc2 kV2 dc2 pm2 cd2 ct2 : Value}
    {f3 : Addr} {od3 an3 : Option Addr} {sl3 : Array (Option Value)} {oc3 kV3 dc3 pm3 cd3 ct3 : Value}
    {f4 : Addr} {od4 an4 : Option Addr} {sl4 : Array (Option Value)} {oc4 kV4 dc4 pm4 cd4 ct4 : Value}
    {f5 : Addr} {od5 an5 : Option Addr} {sl5 : Array (Option Value)} {oc5 kV5 dc5 pm5 cd5 ct5 : Value}
    {f6 : Addr} {od6 an6 : Option Addr} {sl6 : Array (Option Value)} {oc6 kV6 dc6 pm6 cd6 ct6 : Value}
    {f7 : Addr} {od7 an7 : Option Addr} {sl7 : Array (Option Value)} {oc7 kV7 dc7 pm7 cd7 ct7 : Value}
    {f8 : Addr} {od8 an8 : Option Addr} {sl8 : Array (Option Value)} {oc8 kV8 dc8 pm8 cd8 ct8 : Value}
    {f9 : Addr} {od9 an9 : Option Addr} {sl9 : Array (Option Value)} {oc9 kV9 dc9 pm9 cd9 ct9 : Value}
    {f10 : Addr} {od10 an10 : Option Addr} {sl10 : Array (Option Value)} {oc10 kV10 dc10 pm10 cd10 ct10 : Value}
    {f11 : Addr} {od11 an11 : Option Addr} {sl11 : Array (Option Value)} {oc11 kV11 dc11 pm11 cd11 ct11 : Value}
    {f12 : Addr} {od12 an12 : Option Addr} {sl12 : Array (Option Value)} {oc12 kV12 dc12 pm12 cd12 ct12 : Value}
    {f13 : Addr} {od13 an13 : Option Addr} {sl13 : Array (Option Value)} {oc13 kV13 dc13 pm13 cd13 ct13 : Value}
    {f14 : Addr} {od14 an14 : Option Addr} {sl14 : Array (Option Value)} {oc14 kV14 dc14 pm14 cd14 ct14 : Value}
    {f15 : Addr} {od15 an15 : Option Addr} {sl15 : Array (Option Value)} {oc15 kV15 dc15 pm15 cd15 ct15 : Value}
    {f16 : Addr} {od16 an16 : Option Addr} {sl16 : Array (Option Value)} {oc16 kV16 dc16 pm16 cd16 ct16 : Value}
    {f17 : Addr} {od17 an17 : Option Addr} {sl17 : Array (Option Value)} {oc17 kV17 dc17 pm17 cd17 ct17 : Value}
    {f18 : Addr} {od18 an18 : Option Addr} {sl18 : Array (Option Value)} {oc18 kV18 dc18 pm18 cd18 ct18 : Value}
    {f19 : Addr} {od19 an19 : Option Addr} {sl19 : Array (Option Value)} {oc19 kV19 dc19 pm19 cd19 ct19 : Value}
    {f20 : Addr} {od20 an20 : Option Addr} {sl20 : Array (Option Value)} {oc20 kV20 dc20 pm20 cd20 ct20 : Value}
    {f21 : Addr} {od21 an21 : Option Addr} {sl21 : Array (Option Value)} {oc21 kV21 dc21 pm21 cd21 ct21 : Value}
    {f22 : Addr} {od22 an22 : Option Addr} {sl22 : Array (Option Value)} {oc22 kV22 dc22 pm22 cd22 ct22 : Value}
    {f23 : Addr} {od23 an23 : Option Addr} {sl23 : Array (Option Value)} {oc23 kV23 dc23 pm23 cd23 ct23 : Value}
    {f24 : Addr} {od24 an24 : Option Addr} {sl24 : Array (Option Value)} {oc24 kV24 dc24 pm24 cd24 ct24 : Value}
    {f25 : Addr} {od25 an25 : Option Addr} {sl25 : Array (Option Value)} {oc25 kV25 dc25 pm25 cd25 ct25 : Value}
    {f26 : Addr} {od26 an26 : Option Addr} {sl26 : Array (Option Value)} {oc26 kV26 dc26 pm26 cd26 ct26 : Value}
    {f27 : Addr} {od27 an27 : Option Addr} {sl27 : Array (Option Value)} {oc27 kV27 dc27 pm27 cd27 ct27 : Value}
    {f28 : Addr} {od28 an28 : Option Addr} {sl28 : Array (Option Value)} {oc28 kV28 dc28 pm28 cd28 ct28 : Value}
    {f29 : Addr} {od29 an29 : Option Addr} {sl29 : Array (Option Value)} {oc29 kV29 dc29 pm29 cd29 ct29 : Value}
    {f30 : Addr} {od30 an30 : Option Addr} {sl30 : Array (Option Value)} {oc30 kV30 dc30 pm30 cd30 ct30 : Value}
    {f31 : Addr} {od31 an31 : Option Addr} {sl31 : Array (Option Value)} {oc31 kV31 dc31 pm31 cd31 ct31 : Value}
    {f32 : Addr} {od32 an32 : Option Addr} {sl32 : Array (Option Value)} {oc32 kV32 dc32 pm32 cd32 ct32 : Value}
    {f33 : Addr} {od33 an33 : Option Addr} {sl33 : Array (Option Value)} {oc33 kV33 dc33 pm33 cd33 ct33 : Value}
    {f34 : Addr} {od34 an34 : Option Addr} {sl34 : Array (Option Value)} {oc34 kV34 dc34 pm34 cd34 ct34 : Value}
    {f35 : Addr} {od35 an35 : Option Addr} {sl35 : Array (Option Value)} {oc35 kV35 dc35 pm35 cd35 ct35 : Value}
    {f36 : Addr} {od36 an36 : Option Addr} {sl36 : Array (Option Value)} {oc36 kV36 dc36 pm36 cd36 ct36 : Value}
    {C_BadCount : Addr}
    {fx_BadCount cda_BadCount cc_BadCount : Addr} {odx_BadCount cld_BadCount : Option Addr} {slx_BadCount csl_BadCount : Array (Option Value)} {ocx_BadCount dcx_BadCount pmx_BadCount ctx_BadCount ccl_BadCount of1_BadCount : Value} {of2_BadCount oo1_BadCount : Option Addr} {of3_BadCount : Array Value} {of4_BadCount oo3_BadCount : Array (Option Value)} {of5_BadCount : Tok} {oo2_BadCount : ClassData}
    {C_BadHolder : Addr}
    {fx_BadHolder cda_BadHolder cc_BadHolder : Addr} {odx_BadHolder cld_BadHolder : Option Addr} {slx_BadHolder csl_BadHolder : Array (Option Value)} {ocx_BadHolder dcx_BadHolder pmx_BadHolder ctx_BadHolder ccl_BadHolder of1_BadHolder : Value} {of2_BadHolder oo1_BadHolder : Option Addr} {of3_BadHolder : Array Value} {of4_BadHolder oo3_BadHolder : Array (Option Value)} {of5_BadHolder : Tok} {oo2_BadHolder : ClassData}
    {C_TooMany : Addr}
    {fx_TooMany cda_TooMany cc_TooMany : Addr} {odx_TooMany cld_TooMany : Option Addr} {slx_TooMany csl_TooMany : Array (Option Value)} {ocx_TooMany dcx_TooMany pmx_TooMany ctx_TooMany ccl_TooMany of1_TooMany : Value} {of2_TooMany oo1_TooMany : Option Addr} {of3_TooMany : Array Value} {of4_TooMany oo3_TooMany : Array (Option Value)} {of5_TooMany : Tok} {oo2_TooMany : ClassData}
    {Tk_LETTER_LIMIT : Tok}
    {Tk_PEOPLE_LIMIT : Tok}
    {Tk_SELECTION_LIMIT : Tok}
    (aC_Hands : PySem.W.nsIn K mainGlobals "Hands" = some (some (.ref C_Hands)))
    (a1 : PySem.W.nsIn K mainGlobals "_law_cell" = some (some (.ref f1)))
    (l1 : K.lookup f1 = some ⟨oc1, od1, .func (PySem.W.fnOf "_law_cell" "_law_cell" (defArgs s__law_cell) (defBody s__law_cell) (defScope s__law_cell) .none kV1 dc1 pm1 an1 cd1 ct1), sl1⟩)
    (c1 : PySem.W.codeIn K cd1 "_law_cell" = true)
    (k1 : PySem.W.keepIn K (.ref f1) = true)
    (a2 : PySem.W.nsIn K mainGlobals "_law_numbers" = some (some (.ref f2)))
    (l2 : K.lookup f2 = some ⟨oc2, od2, .func (PySem.W.fnOf "_law_numbers" "_law_numbers" (defArgs s__law_numbers) (defBody s__law_numbers) (defScope s__law_numbers) .none kV2 dc2 pm2 an2 cd2 ct2), sl2⟩)
    (c2 : PySem.W.codeIn K cd2 "_law_numbers" = true)
    (k2 : PySem.W.keepIn K (.ref f2) = true)
    (a3 : PySem.W.nsIn K mainGlobals "_law_holders" = some (some (.ref f3)))
    (l3 : K.lookup f3 = some ⟨oc3, od3, .func (PySem.W.fnOf "_law_holders" "_law_holders" (defArgs s__law_holders) (defBody s__law_holders) (defScope s__law_holders) .none kV3 dc3 pm3 an3 cd3 ct3), sl3⟩)
    (c3 : PySem.W.codeIn K cd3 "_law_holders" = true)
    (k3 : PySem.W.keepIn K (.ref f3) = true)
    (a4 : PySem.W.nsIn K mainGlobals "_law_state" = some (some (.ref f4)))
    (l4 : K.lookup f4 = some ⟨oc4, od4, .func (PySem.W.fnOf "_law_state" "_law_state" (defArgs s__law_state) (defBody s__law_state) (defScope s__law_state) .none kV4 dc4 pm4 an4 cd4 ct4), sl4⟩)
    (c4 : PySem.W.codeIn K cd4 "_law_state" = true)
    (k4 : PySem.W.keepIn K (.ref f4) = true)
    (a5 : PySem.W.nsIn K mainGlobals "_law_cube" = some (some (.ref f5)))
    (l5 : K.lookup f5 = some ⟨oc5, od5, .func (PySem.W.fnOf "_law_cube" "_law_cube" (defArgs s__law_cube) (defBody s__law_cube) (defScope s__law_cube) .none kV5 dc5 pm5 an5 cd5 ct5), sl5⟩)
    (c5 : PySem.W.codeIn K cd5 "_law_cube" = true)
    (k5 : PySem.W.keepIn K (.ref f5) = true)
    (a6 : PySem.W.nsIn K mainGlobals "_law_given" = some (some (.ref f6)))
    (l6 : K.lookup f6 = some ⟨oc6, od6, .func (PySem.W.fnOf "_law_given" "_law_given" (defArgs s__law_given) (defBody s__law_given) (defScope s__law_given) .none kV6 dc6 pm6 an6 cd6 ct6), sl6⟩)
    (c6 : PySem.W.codeIn K cd6 "_law_given" = true)
    (k6 : PySem.W.keepIn K (.ref f6) = true)
    (a7 : PySem.W.nsIn K mainGlobals "_law_flipped" = some (some (.ref f7)))
    (l7 : K.lookup f7 = some ⟨oc7, od7, .func (PySem.W.fnOf "_law_flipped" "_law_flipped" (defArgs s__law_flipped) (defBody s__law_flipped) (defScope s__law_flipped) .none kV7 dc7 pm7 an7 cd7 ct7), sl7⟩)
    (c7 : PySem.W.codeIn K cd7 "_law_flipped" = true)
    (k7 : PySem.W.keepIn K (.ref f7) = true)
    (a8 : PySem.W.nsIn K mainGlobals "_law_claim" = some (some (.ref f8)))
    (l8 : K.lookup f8 = some ⟨oc8, od8, .func (PySem.W.fnOf "_law_claim" "_law_claim" (defArgs s__law_claim) (defBody s__law_claim) (defScope s__law_claim) .none kV8 dc8 pm8 an8 cd8 ct8), sl8⟩)
    (c8 : PySem.W.codeIn K cd8 "_law_claim" = true)
    (k8 : PySem.W.keepIn K (.ref f8) = true)
    (a9 : PySem.W.findIn K (.ref C_Hands) "__init__" = some (some (.ref f9)))
    (l9 : K.lookup f9 = some ⟨oc9, od9, .func (PySem.W.fnOf "__init__" "Hands.__init__" (defArgs s_Hands_init) (defBody s_Hands_init) (defScope s_Hands_init) .none kV9 dc9 pm9 an9 cd9 ct9), sl9⟩)
    (c9 : PySem.W.codeIn K cd9 "Hands.__init__" = true)
    (k9 : PySem.W.keepIn K (.ref f9) = true)
    (i9 : PySem.W.isFn K (.ref f9) = true)
    (mk_Hands : PySem.W.makesIn K C_Hands = true)
    (kc_Hands : PySem.W.keepIn K (.ref C_Hands) = true)
    (a10 : PySem.W.nsIn K mainGlobals "_law_chosen" = some (some (.ref f10)))
    (l10 : K.lookup f10 = some ⟨oc10, od10, .func (PySem.W.fnOf "_law_chosen" "_law_chosen" (defArgs s__law_chosen) (defBody s__law_chosen) (defScope s__law_chosen) .none kV10 dc10 pm10 an10 cd10 ct10), sl10⟩)
    (c10 : PySem.W.codeIn K cd10 "_law_chosen" = true)
    (k10 : PySem.W.keepIn K (.ref f10) = true)
    (a11 : PySem.W.nsIn K mainGlobals "_law_reopened" = some (some (.ref f11)))
    (l11 : K.lookup f11 = some ⟨oc11, od11, .func (PySem.W.fnOf "_law_reopened" "_law_reopened" (defArgs s__law_reopened) (defBody s__law_reopened) (defScope s__law_reopened) .none kV11 dc11 pm11 an11 cd11 ct11), sl11⟩)
    (c11 : PySem.W.codeIn K cd11 "_law_reopened" = true)
    (k11 : PySem.W.keepIn K (.ref f11) = true)
    (a12 : PySem.W.nsIn K mainGlobals "_law_letters" = some (some (.ref f12)))
    (l12 : K.lookup f12 = some ⟨oc12, od12, .func (PySem.W.fnOf "_law_letters" "_law_letters" (defArgs s__law_letters) (defBody s__law_letters) (defScope s__law_letters) .none kV12 dc12 pm12 an12 cd12 ct12), sl12⟩)
    (c12 : PySem.W.codeIn K cd12 "_law_letters" = true)
    (k12 : PySem.W.keepIn K (.ref f12) = true)
    (a13 : PySem.W.nsIn K mainGlobals "_law_same" = some (some (.ref f13)))
    (l13 : K.lookup f13 = some ⟨oc13, od13, .func (PySem.W.fnOf "_law_same" "_law_same" (defArgs s__law_same) (defBody s__law_same) (defScope s__law_same) .none kV13 dc13 pm13 an13 cd13 ct13), sl13⟩)
    (c13 : PySem.W.codeIn K cd13 "_law_same" = true)
    (k13 : PySem.W.keepIn K (.ref f13) = true)
    (a14 : PySem.W.findIn K (.ref C_Hands) "held" = some (some (.ref f14)))
    (l14 : K.lookup f14 = some ⟨oc14, od14, .func (PySem.W.fnOf "held" "Hands.held" (defArgs s_Hands_held) (defBody s_Hands_held) (defScope s_Hands_held) .none kV14 dc14 pm14 an14 cd14 ct14), sl14⟩)
    (c14 : PySem.W.codeIn K cd14 "Hands.held" = true)
    (k14 : PySem.W.keepIn K (.ref f14) = true)
    (i14 : PySem.W.isFn K (.ref f14) = true)
    (a15 : PySem.W.nsIn K mainGlobals "reopened" = some (some (.ref f15)))
    (l15 : K.lookup f15 = some ⟨oc15, od15, .func (PySem.W.fnOf "reopened" "reopened" (defArgs s_reopened) (defBody s_reopened) (defScope s_reopened) .none kV15 dc15 pm15 an15 cd15 ct15), sl15⟩)
    (c15 : PySem.W.codeIn K cd15 "reopened" = true)
    (k15 : PySem.W.keepIn K (.ref f15) = true)
    (a16 : PySem.W.nsIn K mainGlobals "_law_settings" = some (some (.ref f16)))
    (l16 : K.lookup f16 = some ⟨oc16, od16, .func (PySem.W.fnOf "_law_settings" "_law_settings" (defArgs s__law_settings) (defBody s__law_settings) (defScope s__law_settings) .none kV16 dc16 pm16 an16 cd16 ct16), sl16⟩)
    (c16 : PySem.W.codeIn K cd16 "_law_settings" = true)
    (k16 : PySem.W.keepIn K (.ref f16) = true)
    (a17 : PySem.W.nsIn K mainGlobals "_law_first_kept" = some (some (.ref f17)))
    (l17 : K.lookup f17 = some ⟨oc17, od17, .func (PySem.W.fnOf "_law_first_kept" "_law_first_kept" (defArgs s__law_first_kept) (defBody s__law_first_kept) (defScope s__law_first_kept) .none kV17 dc17 pm17 an17 cd17 ct17), sl17⟩)
    (c17 : PySem.W.codeIn K cd17 "_law_first_kept" = true)
    (k17 : PySem.W.keepIn K (.ref f17) = true)
    (a18 : PySem.W.nsIn K mainGlobals "_law_least_groups" = some (some (.ref f18)))
    (l18 : K.lookup f18 = some ⟨oc18, od18, .func (PySem.W.fnOf "_law_least_groups" "_law_least_groups" (defArgs s__law_least_groups) (defBody s__law_least_groups) (defScope s__law_least_groups) .none kV18 dc18 pm18 an18 cd18 ct18), sl18⟩)
    (c18 : PySem.W.codeIn K cd18 "_law_least_groups" = true)
    (k18 : PySem.W.keepIn K (.ref f18) = true)
    (a19 : PySem.W.nsIn K mainGlobals "_law_blame" = some (some (.ref f19)))
    (l19 : K.lookup f19 = some ⟨oc19, od19, .func (PySem.W.fnOf "_law_blame" "_law_blame" (defArgs s__law_blame) (defBody s__law_blame) (defScope s__law_blame) .none kV19 dc19 pm19 an19 cd19 ct19), sl19⟩)
    (c19 : PySem.W.codeIn K cd19 "_law_blame" = true)
    (k19 : PySem.W.keepIn K (.ref f19) = true)
    (a20 : PySem.W.nsIn K mainGlobals "in_order" = some (some (.ref f20)))
    (l20 : K.lookup f20 = some ⟨oc20, od20, .func (PySem.W.fnOf "in_order" "in_order" (defArgs s_in_order) (defBody s_in_order) (defScope s_in_order) .none kV20 dc20 pm20 an20 cd20 ct20), sl20⟩)
    (c20 : PySem.W.codeIn K cd20 "in_order" = true)
    (k20 : PySem.W.keepIn K (.ref f20) = true)
    (a21 : PySem.W.nsIn K mainGlobals "mask_of" = some (some (.ref f21)))
    (l21 : K.lookup f21 = some ⟨oc21, od21, .func (PySem.W.fnOf "mask_of" "mask_of" (defArgs s_mask_of) (defBody s_mask_of) (defScope s_mask_of) .none kV21 dc21 pm21 an21 cd21 ct21), sl21⟩)
    (c21 : PySem.W.codeIn K cd21 "mask_of" = true)
    (k21 : PySem.W.keepIn K (.ref f21) = true)
    (a22 : PySem.W.nsIn K mainGlobals "least" = some (some (.ref f22)))
    (l22 : K.lookup f22 = some ⟨oc22, od22, .func (PySem.W.fnOf "least" "least" (defArgs s_least) (defBody s_least) (defScope s_least) .none kV22 dc22 pm22 an22 cd22 ct22), sl22⟩)
    (c22 : PySem.W.codeIn K cd22 "least" = true)
    (k22 : PySem.W.keepIn K (.ref f22) = true)
    (a23 : PySem.W.nsIn K mainGlobals "selections" = some (some (.ref f23)))
    (l23 : K.lookup f23 = some ⟨oc23, od23, .func (PySem.W.fnOf "selections" "selections" (defArgs s_selections) (defBody s_selections) (defScope s_selections) .none kV23 dc23 pm23 an23 cd23 ct23), sl23⟩)
    (c23 : PySem.W.codeIn K cd23 "selections" = true)
    (k23 : PySem.W.keepIn K (.ref f23) = true)
    (a24 : PySem.W.nsIn K mainGlobals "settings" = some (some (.ref f24)))
    (l24 : K.lookup f24 = some ⟨oc24, od24, .func (PySem.W.fnOf "settings" "settings" (defArgs s_settings) (defBody s_settings) (defScope s_settings) .none kV24 dc24 pm24 an24 cd24 ct24), sl24⟩)
    (c24 : PySem.W.codeIn K cd24 "settings" = true)
    (k24 : PySem.W.keepIn K (.ref f24) = true)
    (a25 : PySem.W.nsIn K mainGlobals "within" = some (some (.ref f25)))
    (l25 : K.lookup f25 = some ⟨oc25, od25, .func (PySem.W.fnOf "within" "within" (defArgs s_within) (defBody s_within) (defScope s_within) .none kV25 dc25 pm25 an25 cd25 ct25), sl25⟩)
    (c25 : PySem.W.codeIn K cd25 "within" = true)
    (k25 : PySem.W.keepIn K (.ref f25) = true)
    (a26 : PySem.W.nsIn K mainGlobals "prop_of" = some (some (.ref f26)))
    (l26 : K.lookup f26 = some ⟨oc26, od26, .func (PySem.W.fnOf "prop_of" "prop_of" (defArgs s_prop_of) (defBody s_prop_of) (defScope s_prop_of) .none kV26 dc26 pm26 an26 cd26 ct26), sl26⟩)
    (c26 : PySem.W.codeIn K cd26 "prop_of" = true)
    (k26 : PySem.W.keepIn K (.ref f26) = true)
    (a27 : PySem.W.nsIn K mainGlobals "cube" = some (some (.ref f27)))
    (l27 : K.lookup f27 = some ⟨oc27, od27, .func (PySem.W.fnOf "cube" "cube" (defArgs s_cube) (defBody s_cube) (defScope s_cube) .none kV27 dc27 pm27 an27 cd27 ct27), sl27⟩)
    (c27 : PySem.W.codeIn K cd27 "cube" = true)
    (k27 : PySem.W.keepIn K (.ref f27) = true)
    (a28 : PySem.W.nsIn K mainGlobals "can_keep" = some (some (.ref f28)))
    (l28 : K.lookup f28 = some ⟨oc28, od28, .func (PySem.W.fnOf "can_keep" "can_keep" (defArgs s_can_keep) (defBody s_can_keep) (defScope s_can_keep) .none kV28 dc28 pm28 an28 cd28 ct28), sl28⟩)
    (c28 : PySem.W.codeIn K cd28 "can_keep" = true)
    (k28 : PySem.W.keepIn K (.ref f28) = true)
    (a29 : PySem.W.nsIn K mainGlobals "could_keep" = some (some (.ref f29)))
    (l29 : K.lookup f29 = some ⟨oc29, od29, .func (PySem.W.fnOf "could_keep" "could_keep" (defArgs s_could_keep) (defBody s_could_keep) (defScope s_could_keep) .none kV29 dc29 pm29 an29 cd29 ct29), sl29⟩)
    (c29 : PySem.W.codeIn K cd29 "could_keep" = true)
    (k29 : PySem.W.keepIn K (.ref f29) = true)
    (a30 : PySem.W.nsIn K mainGlobals "blame" = some (some (.ref f30)))
    (l30 : K.lookup f30 = some ⟨oc30, od30, .func (PySem.W.fnOf "blame" "blame" (defArgs s_blame) (defBody s_blame) (defScope s_blame) .none kV30 dc30 pm30 an30 cd30 ct30), sl30⟩)
    (c30 : PySem.W.codeIn K cd30 "blame" = true)
    (k30 : PySem.W.keepIn K (.ref f30) = true)
    (a31 : PySem.W.nsIn K mainGlobals "_law_could" = some (some (.ref f31)))
    (l31 : K.lookup f31 = some ⟨oc31, od31, .func (PySem.W.fnOf "_law_could" "_law_could" (defArgs s__law_could) (defBody s__law_could) (defScope s__law_could) .none kV31 dc31 pm31 an31 cd31 ct31), sl31⟩)
    (c31 : PySem.W.codeIn K cd31 "_law_could" = true)
    (k31 : PySem.W.keepIn K (.ref f31) = true)
    (a32 : PySem.W.nsIn K mainGlobals "_law_least" = some (some (.ref f32)))
    (l32 : K.lookup f32 = some ⟨oc32, od32, .func (PySem.W.fnOf "_law_least" "_law_least" (defArgs s__law_least) (defBody s__law_least) (defScope s__law_least) .none kV32 dc32 pm32 an32 cd32 ct32), sl32⟩)
    (c32 : PySem.W.codeIn K cd32 "_law_least" = true)
    (k32 : PySem.W.keepIn K (.ref f32) = true)
    (a33 : PySem.W.nsIn K mainGlobals "least_groups" = some (some (.ref f33)))
    (l33 : K.lookup f33 = some ⟨oc33, od33, .func (PySem.W.fnOf "least_groups" "least_groups" (defArgs s_least_groups) (defBody s_least_groups) (defScope s_least_groups) .none kV33 dc33 pm33 an33 cd33 ct33), sl33⟩)
    (c33 : PySem.W.codeIn K cd33 "least_groups" = true)
    (k33 : PySem.W.keepIn K (.ref f33) = true)
    (a34 : PySem.W.nsIn K mainGlobals "_law_now" = some (some (.ref f34)))
    (l34 : K.lookup f34 = some ⟨oc34, od34, .func (PySem.W.fnOf "_law_now" "_law_now" (defArgs s__law_now) (defBody s__law_now) (defScope s__law_now) .none kV34 dc34 pm34 an34 cd34 ct34), sl34⟩)
    (c34 : PySem.W.codeIn K cd34 "_law_now" = true)
    (k34 : PySem.W.keepIn K (.ref f34) = true)
    (a35 : PySem.W.nsIn K mainGlobals "_law_one_within" = some (some (.ref f35)))
    (l35 : K.lookup f35 = some ⟨oc35, od35, .func (PySem.W.fnOf "_law_one_within" "_law_one_within" (defArgs s__law_one_within) (defBody s__law_one_within) (defScope s__law_one_within) .none kV35 dc35 pm35 an35 cd35 ct35), sl35⟩)
    (c35 : PySem.W.codeIn K cd35 "_law_one_within" = true)
    (k35 : PySem.W.keepIn K (.ref f35) = true)
    (a36 : PySem.W.nsIn K mainGlobals "law" = some (some (.ref f36)))
    (l36 : K.lookup f36 = some ⟨oc36, od36, .func (PySem.W.fnOf "law" "law" (defArgs s_law) (defBody s_law) (defScope s_law) .none kV36 dc36 pm36 an36 cd36 ct36), sl36⟩)
    (c36 : PySem.W.codeIn K cd36 "law" = true)
    (k36 : PySem.W.keepIn K (.ref f36) = true)
    (pg_Hands : PySem.W.plainGet K C_Hands Str.empty = true)
    (hd_Hands : PySem.W.hasDictIn K C_Hands = true)
    (po_Hands : PySem.W.plainOver K C_Hands = true)
    (sa_Hands : PySem.W.findIn K (.ref C_Hands) "__setattr__" = some (some (.builtin "object.__setattr__")))
    (n_Hands_n : PySem.W.findIn K (.ref C_Hands) "n" = some none)
    (n_Hands_holders : PySem.W.findIn K (.ref C_Hands) "holders" = some none)
    (n_Hands_people : PySem.W.findIn K (.ref C_Hands) "people" = some none)
    (z_combinations : PySem.W.nsIn K mainGlobals "combinations" = some (some (.type "itertools.combinations")))
    (qt_top : (l.prog.main.scope.names.lookup ("super" : Str)).isSome = false)
    (qt_file : l.prog.main.file = "/claim/cut.py")
    (th_any : PySem.W.nsIn K cStatics "thirdparty.any" = some none)
    (aC_BadCount : PySem.W.nsIn K mainGlobals "BadCount" = some (some (.ref C_BadCount)))
    (xk_BadCount : PySem.W.keepIn K (.ref C_BadCount) = true)
    (xe_BadCount : PySem.W.subIn K (.ref C_BadCount) (.type "BaseException") = some true)
    (xt_BadCount : PySem.W.typeIn K (.ref C_BadCount) = some (.type "type"))
    (ix_BadCount : PySem.W.findIn K (.ref C_BadCount) "__init__" = some (some (.ref fx_BadCount)))
    (lx_BadCount : K.lookup fx_BadCount = some ⟨ocx_BadCount, odx_BadCount, .func (PySem.W.fnX "__init__" "BadCount.__init__" (defArgs s_BadCount_init) (defBody s_BadCount_init) (defScope s_BadCount_init) [("__class__", cc_BadCount)] .none .none dcx_BadCount pmx_BadCount none (.ref cda_BadCount) ctx_BadCount), slx_BadCount⟩)
    (cx_BadCount : PySem.W.codeIn K (.ref cda_BadCount) "BadCount.__init__" = true)
    (lf_BadCount : K.lookup cda_BadCount = some ⟨of1_BadCount, of2_BadCount, .fields of3_BadCount, of4_BadCount⟩)
    (qt_f_BadCount : of3_BadCount[2]? = some (.str "/claim/cut.py" of5_BadCount))
    (lc_BadCount : K.lookup cc_BadCount = some ⟨ccl_BadCount, cld_BadCount, .cell (some (.ref C_BadCount)), csl_BadCount⟩)
    (lo_BadCount : K.lookup C_BadCount = some ⟨.type "type", oo1_BadCount, .cls oo2_BadCount, oo3_BadCount⟩)
    (qt_o_BadCount : oexOk C_BadCount oo2_BadCount oo3_BadCount = true)
    (sx_BadCount : PySem.W.findIn K (.ref C_BadCount) "__setattr__" = some (some (.builtin "object.__setattr__")))
    (ms_BadCount : PySem.W.mroIn K C_BadCount (.ref C_BadCount) = some true)
    (si_BadCount : PySem.W.ks_superIn K C_BadCount C_BadCount "__init__" = some (some (.builtin "ValueError.__init__")))
    (sb_BadCount : PySem.W.subIn K (.ref C_BadCount) (.type "ValueError") = some true)
    (tx_BadCount : PySem.W.typeIn K (.ref fx_BadCount) = some (.type "function"))
    (xn_BadCount_number : PySem.W.findIn K (.ref C_BadCount) "number" = some none)
    (aC_BadHolder : PySem.W.nsIn K mainGlobals "BadHolder" = some (some (.ref C_BadHolder)))
    (xk_BadHolder : PySem.W.keepIn K (.ref C_BadHolder) = true)
    (xe_BadHolder : PySem.W.subIn K (.ref C_BadHolder) (.type "BaseException") = some true)
    (xt_BadHolder : PySem.W.typeIn K (.ref C_BadHolder) = some (.type "type"))
    (ix_BadHolder : PySem.W.findIn K (.ref C_BadHolder) "__init__" = some (some (.ref fx_BadHolder)))
    (lx_BadHolder : K.lookup fx_BadHolder = some ⟨ocx_BadHolder, odx_BadHolder, .func (PySem.W.fnX "__init__" "BadHolder.__init__" (defArgs s_BadHolder_init) (defBody s_BadHolder_init) (defScope s_BadHolder_init) [("__class__", cc_BadHolder)] .none .none dcx_BadHolder pmx_BadHolder none (.ref cda_BadHolder) ctx_BadHolder), slx_BadHolder⟩)
    (cx_BadHolder : PySem.W.codeIn K (.ref cda_BadHolder) "BadHolder.__init__" = true)
    (lf_BadHolder : K.lookup cda_BadHolder = some ⟨of1_BadHolder, of2_BadHolder, .fields of3_BadHolder, of4_BadHolder⟩)
    (qt_f_BadHolder : of3_BadHolder[2]? = some (.str "/claim/cut.py" of5_BadHolder))
    (lc_BadHolder : K.lookup cc_BadHolder = some ⟨ccl_BadHolder, cld_BadHolder, .cell (some (.ref C_BadHolder)), csl_BadHolder⟩)
    (lo_BadHolder : K.lookup C_BadHolder = some ⟨.type "type", oo1_BadHolder, .cls oo2_BadHolder, oo3_BadHolder⟩)
    (qt_o_BadHolder : oexOk C_BadHolder oo2_BadHolder oo3_BadHolder = true)
    (sx_BadHolder : PySem.W.findIn K (.ref C_BadHolder) "__setattr__" = some (some (.builtin "object.__setattr__")))
    (ms_BadHolder : PySem.W.mroIn K C_BadHolder (.ref C_BadHolder) = some true)
    (si_BadHolder : PySem.W.ks_superIn K C_BadHolder C_BadHolder "__init__" = some (some (.builtin "ValueError.__init__")))
    (sb_BadHolder : PySem.W.subIn K (.ref C_BadHolder) (.type "ValueError") = some true)
    (tx_BadHolder : PySem.W.typeIn K (.ref fx_BadHolder) = some (.type "function"))
    (xn_BadHolder_letter : PySem.W.findIn K (.ref C_BadHolder) "letter" = some none)
    (aC_TooMany : PySem.W.nsIn K mainGlobals "TooMany" = some (some (.ref C_TooMany)))
    (xk_TooMany : PySem.W.keepIn K (.ref C_TooMany) = true)
    (xe_TooMany : PySem.W.subIn K (.ref C_TooMany) (.type "BaseException") = some true)
    (xt_TooMany : PySem.W.typeIn K (.ref C_TooMany) = some (.type "type"))
    (ix_TooMany : PySem.W.findIn K (.ref C_TooMany) "__init__" = some (some (.ref fx_TooMany)))
    (lx_TooMany : K.lookup fx_TooMany = some ⟨ocx_TooMany, odx_TooMany, .func (PySem.W.fnX "__init__" "TooMany.__init__" (defArgs s_TooMany_init) (defBody s_TooMany_init) (defScope s_TooMany_init) [("__class__", cc_TooMany)] .none .none dcx_TooMany pmx_TooMany none (.ref cda_TooMany) ctx_TooMany), slx_TooMany⟩)
    (cx_TooMany : PySem.W.codeIn K (.ref cda_TooMany) "TooMany.__init__" = true)
    (lf_TooMany : K.lookup cda_TooMany = some ⟨of1_TooMany, of2_TooMany, .fields of3_TooMany, of4_TooMany⟩)
    (qt_f_TooMany : of3_TooMany[2]? = some (.str "/claim/cut.py" of5_TooMany))
    (lc_TooMany : K.lookup cc_TooMany = some ⟨ccl_TooMany, cld_TooMany, .cell (some (.ref C_TooMany)), csl_TooMany⟩)
    (lo_TooMany : K.lookup C_TooMany = some ⟨.type "type", oo1_TooMany, .cls oo2_TooMany, oo3_TooMany⟩)
    (qt_o_TooMany : oexOk C_TooMany oo2_TooMany oo3_TooMany = true)
    (sx_TooMany : PySem.W.findIn K (.ref C_TooMany) "__setattr__" = some (some (.builtin "object.__setattr__")))
    (ms_TooMany : PySem.W.mroIn K C_TooMany (.ref C_TooMany) = some true)
    (si_TooMany : PySem.W.ks_superIn K C_TooMany C_TooMany "__init__" = some (some (.builtin "ValueError.__init__")))
    (sb_TooMany : PySem.W.subIn K (.ref C_TooMany) (.type "ValueError") = some true)
    (tx_TooMany : PySem.W.typeIn K (.ref fx_TooMany) = some (.type "function"))
    (xn_TooMany_limit : PySem.W.findIn K (.ref C_TooMany) "limit" = some none)
    (kv_LETTER_LIMIT : PySem.W.nsIn K mainGlobals "LETTER_LIMIT" = some (some (Value.int 4 Tk_LETTER_LIMIT)))
    (kv_PEOPLE_LIMIT : PySem.W.nsIn K mainGlobals "PEOPLE_LIMIT" = some (some (Value.int 5 Tk_PEOPLE_LIMIT)))
    (kv_SELECTION_LIMIT : PySem.W.nsIn K mainGlobals "SELECTION_LIMIT" = some (some (Value.int 7 Tk_SELECTION_LIMIT)))
    (z_len : PySem.W.nsIn K mainGlobals "len" = some none)
    (z_int : PySem.W.nsIn K mainGlobals "int" = some none)
    (z_abs : PySem.W.nsIn K mainGlobals "abs" = some none)
    (z_range : PySem.W.nsIn K mainGlobals "range" = some none)
    (z_tuple : PySem.W.nsIn K mainGlobals "tuple" = some none)
    (z_all : PySem.W.nsIn K mainGlobals "all" = some none)
    (z_enumerate : PySem.W.nsIn K mainGlobals "enumerate" = some none)
    (z_list : PySem.W.nsIn K mainGlobals "list" = some none)
    (z_isinstance : PySem.W.nsIn K mainGlobals "isinstance" = some none)
    (z_bool : PySem.W.nsIn K mainGlobals "bool" = some none)
    (z_str : PySem.W.nsIn K mainGlobals "str" = some none)
    (z_sum : PySem.W.nsIn K mainGlobals "sum" = some none)
    (z_sorted : PySem.W.nsIn K mainGlobals "sorted" = some none)
    (z_reversed : PySem.W.nsIn K mainGlobals "reversed" = some none)
    (z_super : PySem.W.nsIn K mainGlobals "super" = some none)
    (M : ∀ ns : List Int, ns.length ≤ 63 → (∀ z ∈ ns, Builtin.Int.intBits z ≤ 1048576) → m_law [.lst (ns.map .int)] = .ok (.bl true)) :
    ∃ fd : FuncData, (∀ (s : Shared) (v : Value), BindsTo s fd ⟨[v], []⟩ [("script", v)]) ∧ ∀ base : Heap, K.In base → base.Ns mainGlobals mg → FnOk l.prog w K mg base (L2.CX l.prog w) 11 fa fd ["script"] (spLaw K) := by
  have e := hfa.symm.trans (PySem.W.mg_of X G a36)
  cases e
  have F1 := fun_mk (st := s__law_cell) l1 c1 k1
  have F2 := fun_mk (st := s__law_numbers) l2 c2 k2
  have F3 := fun_mk (st := s__law_holders) l3 c3 k3
  have F4 := fun_mk (st := s__law_state) l4 c4 k4
  have F5 := fun_mk (st := s__law_cube) l5 c5 k5
  have F6 := fun_mk (st := s__law_given) l6 c6 k6
  have F7 := fun_mk (st := s__law_flipped) l7 c7 k7
  have F8 := fun_mk (st := s__law_claim) l8 c8 k8
  have F9 := fun_mk (st := s_Hands_init) l9 c9 k9
  have F10 := fun_mk (st := s__law_chosen) l10 c10 k10
  have F11 := fun_mk (st := s__law_reopened) l11 c11 k11
  have F12 := fun_mk (st := s__law_letters) l12 c12 k12
  have F13 := fun_mk (st := s__law_same) l13 c13 k13
  have F14 := fun_mk (st := s_Hands_held) l14 c14 k14
  have F15 := fun_mk (st := s_reopened) l15 c15 k15
  have F16 := fun_mk (st := s__law_settings) l16 c16 k16
  have F17 := fun_mk (st := s__law_first_kept) l17 c17 k17
  have F18 := fun_mk (st := s__law_least_groups) l18 c18 k18
  have F19 := fun_mk (st := s__law_blame) l19 c19 k19
  have F20 := fun_mk (st := s_in_order) l20 c20 k20
  have F21 := fun_mk (st := s_mask_of) l21 c21 k21
  have F22 := fun_mk (st := s_least) l22 c22 k22
  have F23 := fun_mk (st := s_selections) l23 c23 k23
  have F24 := fun_mk (st := s_settings) l24 c24 k24
  have F25 := fun_mk (st := s_within) l25 c25 k25
  have F26 := fun_mk (st := s_prop_of) l26 c26 k26
  have F27 := fun_mk (st := s_cube) l27 c27 k27
  have F28 := fun_mk (st := s_can_keep) l28 c28 k28
  have F29 := fun_mk (st := s_could_keep) l29 c29 k29
  have F30 := fun_mk (st := s_blame) l30 c30 k30
  have F31 := fun_mk (st := s__law_could) l31 c31 k31
  have F32 := fun_mk (st := s__law_least) l32 c32 k32
  have F33 := fun_mk (st := s_least_groups) l33 c33 k33
  have F34 := fun_mk (st := s__law_now) l34 c34 k34
  have F35 := fun_mk (st := s__law_one_within) l35 c35 k35
  have F36 := fun_mk (st := s_law) l36 c36 k36
  have T : Tx l.prog K mg ⟨C_Hands, f1, _, f2, _, f3, _, f4, _, f5, _, f6, _, f7, _, f8, _, f9, _, f10, _, f11, _, f12, _, f13, _, f14, _, f15, _, f16, _, f17, _, f18, _, f19, _, f20, _, f21, _, f22, _, f23, _, f24, _, f25, _, f26, _, f27, _, f28, _, f29, _, f30, _, f31, _, f32, _, f33, _, f34, _, f35, _, fa, _, C_BadCount, fx_BadCount, _, C_BadHolder, fx_BadHolder, _, C_TooMany, fx_TooMany, _, Tk_LETTER_LIMIT, Tk_PEOPLE_LIMIT, Tk_SELECTION_LIMIT⟩ := ⟨F1,
    F1.binds (ps := ["script", "k"]) fun _ _ _ _ _ _ us hl => match us, hl with | [_, _], _ => rfl,
    PySem.W.mg_of X G a1,
    F2,
    F2.binds (ps := ["script", "at", "count", "radix"]) fun _ _ _ _ _ _ us hl => match us, hl with | [_, _, _, _], _ => rfl,
    PySem.W.mg_of X G a2,
    F3,
    F3.binds (ps := ["script", "at", "n", "people"]) fun _ _ _ _ _ _ us hl => match us, hl with | [_, _, _, _], _ => rfl,
    PySem.W.mg_of X G a3,
    F4,
    F4.binds (ps := ["script", "at", "n"]) fun _ _ _ _ _ _ us hl => match us, hl with | [_, _, _], _ => rfl,
    PySem.W.mg_of X G a4,
    F5,
    F5.binds (ps := ["state"]) fun _ _ _ _ _ _ us hl => match us, hl with | [_], _ => rfl,
    PySem.W.mg_of X G a5,
    F6,
    F6.binds (ps := ["state", "letter", "value"]) fun _ _ _ _ _ _ us hl => match us, hl with | [_, _, _], _ => rfl,
    PySem.W.mg_of X G a6,
    F7,
    F7.binds (ps := ["state", "letter"]) fun _ _ _ _ _ _ us hl => match us, hl with | [_, _], _ => rfl,
    PySem.W.mg_of X G a7,
    F8,
    F8.binds (ps := ["script", "at", "state"]) fun _ _ _ _ _ _ us hl => match us, hl with | [_, _, _], _ => rfl,
    PySem.W.mg_of X G a8,
    F9,
    F9.binds (ps := ["self", "people", "holders"]) fun _ _ _ _ _ _ us hl => match us, hl with | [_, _, _], _ => rfl,
    ⟨mk_Hands, a9, i9, kc_Hands⟩,
    F10,
    F10.binds (ps := ["mask", "count"]) fun _ _ _ _ _ _ us hl => match us, hl with | [_, _], _ => rfl,
    PySem.W.mg_of X G a10,
    F11,
    F11.binds (ps := ["state", "letters"]) fun _ _ _ _ _ _ us hl => match us, hl with | [_, _], _ => rfl,
    PySem.W.mg_of X G a11,
    F12,
    F12.binds (ps := ["holders", "group"]) fun _ _ _ _ _ _ us hl => match us, hl with | [_, _], _ => rfl,
    PySem.W.mg_of X G a12,
    F13,
    F13.binds (ps := ["told", "expected"]) fun _ _ _ _ _ _ us hl => match us, hl with | [_, _], _ => rfl,
    PySem.W.mg_of X G a13,
    F14,
    F14.binds (ps := ["self", "group"]) fun _ _ _ _ _ _ us hl => match us, hl with | [_, _], _ => rfl,
    ⟨a14, i14, k14⟩,
    F15,
    F15.binds (ps := ["hands", "state", "group"]) fun _ _ _ _ _ _ us hl => match us, hl with | [_, _, _], _ => rfl,
    PySem.W.mg_of X G a15,
    F16,
    F16.binds (ps := ["state", "letters"]) fun _ _ _ _ _ _ us hl => match us, hl with | [_, _], _ => rfl,
    PySem.W.mg_of X G a16,
    F17,
    F17.binds (ps := ["state", "letters", "claim"]) fun _ _ _ _ _ _ us hl => match us, hl with | [_, _, _], _ => rfl,
    PySem.W.mg_of X G a17,
    F18,
    F18.binds (ps := ["people", "good"]) fun _ _ _ _ _ _ us hl => match us, hl with | [_, _], _ => rfl,
    PySem.W.mg_of X G a18,
    F19,
    F19.binds (ps := ["people", "holders", "state", "claim"]) fun _ _ _ _ _ _ us hl => match us, hl with | [_, _, _, _], _ => rfl,
    PySem.W.mg_of X G a19,
    F20,
    F20.binds (ps := ["found"]) fun _ _ _ _ _ _ us hl => match us, hl with | [_], _ => rfl,
    PySem.W.mg_of X G a20,
    F21,
    F21.binds (ps := ["chosen"]) fun _ _ _ _ _ _ us hl => match us, hl with | [_], _ => rfl,
    PySem.W.mg_of X G a21,
    F22,
    F22.binds (ps := ["found"]) fun _ _ _ _ _ _ us hl => match us, hl with | [_], _ => rfl,
    PySem.W.mg_of X G a22,
    F23,
    F23.binds (ps := ["count"]) fun _ _ _ _ _ _ us hl => match us, hl with | [_], _ => rfl,
    PySem.W.mg_of X G a23,
    F24,
    F24.binds (ps := ["hands", "state", "group"]) fun _ _ _ _ _ _ us hl => match us, hl with | [_, _, _], _ => rfl,
    PySem.W.mg_of X G a24,
    F25,
    F25.binds (ps := ["first", "second"]) fun _ _ _ _ _ _ us hl => match us, hl with | [_, _], _ => rfl,
    PySem.W.mg_of X G a25,
    F26,
    F26.binds (ps := ["worlds"]) fun _ _ _ _ _ _ us hl => match us, hl with | [_], _ => rfl,
    PySem.W.mg_of X G a26,
    F27,
    F27.binds (ps := ["state"]) fun _ _ _ _ _ _ us hl => match us, hl with | [_], _ => rfl,
    PySem.W.mg_of X G a27,
    F28,
    F28.binds (ps := ["hands", "state", "group", "claim"]) fun _ _ _ _ _ _ us hl => match us, hl with | [_, _, _, _], _ => rfl,
    PySem.W.mg_of X G a28,
    F29,
    F29.binds (ps := ["hands", "state", "group", "claim"]) fun _ _ _ _ _ _ us hl => match us, hl with | [_, _, _, _], _ => rfl,
    PySem.W.mg_of X G a29,
    F30,
    F30.binds (ps := ["hands", "state", "claim"]) fun _ _ _ _ _ _ us hl => match us, hl with | [_, _, _], _ => rfl,
    PySem.W.mg_of X G a30,
    F31,
    F31.binds (ps := ["hands", "holders", "state", "group", "claim"]) fun _ _ _ _ _ _ us hl => match us, hl with | [_, _, _, _, _], _ => rfl,
    PySem.W.mg_of X G a31,
    F32,
    F32.binds (ps := ["hands", "holders", "state", "told", "claim"]) fun _ _ _ _ _ _ us hl => match us, hl with | [_, _, _, _, _], _ => rfl,
    PySem.W.mg_of X G a32,
    F33,
    F33.binds (ps := ["hands", "state", "claim"]) fun _ _ _ _ _ _ us hl => match us, hl with | [_, _, _], _ => rfl,
    PySem.W.mg_of X G a33,
    F34,
    F34.binds (ps := ["people", "holders", "state", "claim"]) fun _ _ _ _ _ _ us hl => match us, hl with | [_, _, _, _], _ => rfl,
    PySem.W.mg_of X G a34,
    F35,
    F35.binds (ps := ["found", "group"]) fun _ _ _ _ _ _ us hl => match us, hl with | [_, _], _ => rfl,
    PySem.W.mg_of X G a35,
    F36,
    F36.binds (ps := ["script"]) fun _ _ _ _ _ _ us hl => match us, hl with | [_], _ => rfl,
    PySem.W.mg_of X G a36,
    PySem.W.mg_of X G aC_Hands,
    ⟨PySem.W.mg_of X G aC_Hands, ⟨pg_Hands, hd_Hands, po_Hands, sa_Hands⟩, (List.forall_mem_cons.2 ⟨n_Hands_people, (List.forall_mem_cons.2 ⟨n_Hands_holders, (List.forall_mem_cons.2 ⟨n_Hands_n, (fun _ h => nomatch h)⟩)⟩)⟩)⟩,
    PySem.W.mg_of X G z_combinations,
    qt_top,
    PySem.W.mg_of X G aC_BadCount,
    (qt_file ▸ funX_mk (st := s_BadCount_init) lx_BadCount cx_BadCount (fileIn_by lf_BadCount qt_f_BadCount) lc_BadCount (oexC_by (oexIn_by lo_BadCount qt_o_BadCount) sx_BadCount xe_BadCount xt_BadCount xk_BadCount) ms_BadCount th_any si_BadCount sb_BadCount ix_BadCount tx_BadCount),
    (funX_mk (st := s_BadCount_init) lx_BadCount cx_BadCount (fileIn_by lf_BadCount qt_f_BadCount) lc_BadCount (oexC_by (oexIn_by lo_BadCount qt_o_BadCount) sx_BadCount xe_BadCount xt_BadCount xk_BadCount) ms_BadCount th_any si_BadCount sb_BadCount ix_BadCount tx_BadCount).binds (ps := ["self", "number"]) fun _ _ _ _ _ us hl => match us, hl with | [_, _], _ => rfl,
    xn_BadCount_number,
    PySem.W.mg_of X G aC_BadHolder,
    (qt_file ▸ funX_mk (st := s_BadHolder_init) lx_BadHolder cx_BadHolder (fileIn_by lf_BadHolder qt_f_BadHolder) lc_BadHolder (oexC_by (oexIn_by lo_BadHolder qt_o_BadHolder) sx_BadHolder xe_BadHolder xt_BadHolder xk_BadHolder) ms_BadHolder th_any si_BadHolder sb_BadHolder ix_BadHolder tx_BadHolder),
    (funX_mk (st := s_BadHolder_init) lx_BadHolder cx_BadHolder (fileIn_by lf_BadHolder qt_f_BadHolder) lc_BadHolder (oexC_by (oexIn_by lo_BadHolder qt_o_BadHolder) sx_BadHolder xe_BadHolder xt_BadHolder xk_BadHolder) ms_BadHolder th_any si_BadHolder sb_BadHolder ix_BadHolder tx_BadHolder).binds (ps := ["self", "letter"]) fun _ _ _ _ _ us hl => match us, hl with | [_, _], _ => rfl,
    xn_BadHolder_letter,
    PySem.W.mg_of X G aC_TooMany,
    (qt_file ▸ funX_mk (st := s_TooMany_init) lx_TooMany cx_TooMany (fileIn_by lf_TooMany qt_f_TooMany) lc_TooMany (oexC_by (oexIn_by lo_TooMany qt_o_TooMany) sx_TooMany xe_TooMany xt_TooMany xk_TooMany) ms_TooMany th_any si_TooMany sb_TooMany ix_TooMany tx_TooMany),
    (funX_mk (st := s_TooMany_init) lx_TooMany cx_TooMany (fileIn_by lf_TooMany qt_f_TooMany) lc_TooMany (oexC_by (oexIn_by lo_TooMany qt_o_TooMany) sx_TooMany xe_TooMany xt_TooMany xk_TooMany) ms_TooMany th_any si_TooMany sb_TooMany ix_TooMany tx_TooMany).binds (ps := ["self", "limit"]) fun _ _ _ _ _ us hl => match us, hl with | [_, _], _ => rfl,
    xn_TooMany_limit,
    PySem.W.mg_of X G kv_LETTER_LIMIT,
    PySem.W.mg_of X G kv_PEOPLE_LIMIT,
    PySem.W.mg_of X G kv_SELECTION_LIMIT,
    PySem.W.mg_none_of X G z_len,
    PySem.W.mg_none_of X G z_int,
    PySem.W.mg_none_of X G z_abs,
    PySem.W.mg_none_of X G z_range,
    PySem.W.mg_none_of X G z_tuple,
    PySem.W.mg_none_of X G z_all,
    PySem.W.mg_none_of X G z_enumerate,
    PySem.W.mg_none_of X G z_list,
    PySem.W.mg_none_of X G z_isinstance,
    PySem.W.mg_none_of X G z_bool,
    PySem.W.mg_none_of X G z_str,
    PySem.W.mg_none_of X G z_sum,
    PySem.W.mg_none_of X G z_sorted,
    PySem.W.mg_none_of X G z_reversed,
    PySem.W.mg_none_of X G z_super⟩
  exact ⟨_, fun s v => .of_eq rfl, fun base _ _ => law_imp (w_law T) M⟩
end W80
set_option Elab.async false
set_option linter.all false
set_option maxRecDepth 100000
set_option maxHeartbeats 400000
namespace W80
open PySem PySem.Spec PyProof.Rows L2 DL Cb
/-! ### cubes, the law's settings: all of them -/
theorem m_cube_all : ((List.range 5).all fun n => (allSt n).all fun st => isOk (m_cube [stD st]) (nD (cubeS st)) && isOk (m__law_cube [stD st]) (nD (cubeS st))) = true := by decide +kernel
theorem m_cube_ (st : Sta) (hn : st.length ≤ 4) : m_cube [stD st] = .ok (nD (cubeS st)) := by
  have h := m_cube_all
  simp only [List.all_eq_true, Bool.and_eq_true] at h
  exact isOk_eq (h st.length (List.mem_range.mpr (by omega)) st (mem_allSt st)).1
theorem m_lcube (st : Sta) (hn : st.length ≤ 4) : m__law_cube [stD st] = .ok (nD (cubeS st)) := by
  have h := m_cube_all
  simp only [List.all_eq_true, Bool.and_eq_true] at h
  exact isOk_eq (h st.length (List.mem_range.mpr (by omega)) st (mem_allSt st)).2
def prD (p : Sta) : D := .tup [stD p, nD (cubeS p)]
def holdS (n k : Nat) : Nat := lowS n k * 2 ^ 2 ^ k
theorem holds_all : ((List.range 5).all fun n => (List.range n).all fun k => (allSt n).all fun st => !isOp st k || (decide (cubeS (st.set k (some false)) = cubeS st - (cubeS st &&& holdS n k)) && decide (cubeS (st.set k (some true)) = cubeS st &&& holdS n k))) = true := by decide +kernel
theorem holds_at {p : Sta} {k : Nat} (hn : p.length ≤ 4) (ho : p[k]? = some none) : cubeS (p.set k (some false)) = cubeS p - (cubeS p &&& holdS p.length k) ∧ cubeS (p.set k (some true)) = cubeS p &&& holdS p.length k := by
  have h := holds_all
  simp only [List.all_eq_true] at h
  have hk := (List.getElem?_eq_some_iff.mp ho).1
  have h := h p.length (List.mem_range.mpr (by omega)) k (List.mem_range.mpr hk) p (mem_allSt p)
  rw [isOp_iff.mpr ho] at h
  simpa using h
theorem hsum_all : ((List.range 5).all fun n => (List.range n).all fun k => isOk (bSum [.lst (((List.range (2 ^ n)).filter fun w => w.testBit k).map fun w => nD (2 ^ w))]) (nD (holdS n k))) = true := by decide +kernel
theorem hsum_at {n k : Nat} (hn : n ≤ 4) (hk : k < n) : bSum [.lst (((List.range (2 ^ n)).filter fun w => w.testBit k).map fun w => nD (2 ^ w))] = .ok (nD (holdS n k)) := by
  have h := hsum_all
  simp only [List.all_eq_true] at h
  exact isOk_eq (h n (List.mem_range.mpr (by omega)) k (List.mem_range.mpr hk))
theorem given_all : ((List.range 5).all fun n => (List.range n).all fun (k : Nat) => (allSt n).all fun st => [none, some false, some true].all fun v => isOk (m__law_given [stD st, .int (k : Int), oB v]) (stD (st.set k v))) = true := by decide +kernel
theorem m_given (st : Sta) (hn : st.length ≤ 4) (k : Nat) (hk : k < st.length) (v : Option Bool) : m__law_given [stD st, .int (k : Int), oB v] = .ok (stD (st.set k v)) := by
  have h := given_all
  simp only [List.all_eq_true] at h
  refine isOk_eq (h st.length (List.mem_range.mpr (by omega)) k (List.mem_range.mpr hk) st (mem_allSt st) v ?_)
  rcases v with _ | b
  · simp
  · cases b <;> simp
theorem stD_at {st : Sta} {k : Nat} {v : Option Bool} (h : st[k]? = some v) : dIx (stD st) (.int (k : Int)) = .ok (oB v) := by
  unfold stD
  rw [dIx_tup, atI_at (show (st.map oB)[k]? = some (oB v) by rw [List.getElem?_map, h]; rfl)]
theorem isN_oB (v : Option Bool) : dIsN (oB v) .non = .ok (.bl (match v with | none => true | some _ => false)) := by cases v <;> rfl
theorem nlxs_of {α : Type} {f : α → D} (b : Bool) : ∀ (l : List α), (∀ a ∈ l, (f a).nlx b = true) → nlxs b (l.map f) = true
  | [], _ => rfl
  | a :: l, h => by
    rw [List.map_cons, nlxs_cons, h a List.mem_cons_self, nlxs_of b l fun x hx => h x (List.mem_cons_of_mem _ hx)]
    rfl
theorem nlx_stD (b : Bool) (st : Sta) : (stD st).nlx b = true := by
  unfold stD
  rw [nlx_tup]
  exact nlxs_of b st fun v _ => by cases v <;> rfl
theorem nlx_prD (b : Bool) (p : Sta) : (prD p).nlx b = true := by
  unfold prD
  rw [nlx_tup, nlxs_cons, nlx_stD, nlxs_cons, nlxs_nil]
  rfl
theorem m_lset_in (st p : Sta) (hn : st.length ≤ 4) (LD MD : D) (k : Nat) (hk : k < st.length) (fl : List Sta) (hl : fl.length ≤ 1000) (hp : p.length = st.length) (ho : p[k]? = some none) (s8 : DL.Slot) :
    b__law_settings_1 [.d (stD st), .d LD, .d MD, .d (nD k), .d (nD (holdS st.length k)), .own false (fl.map prD), .d (stD p), .d (nD (cubeS p)), s8] = .nx [.d (stD st), .d LD, .d MD, .d (nD k), .d (nD (holdS st.length k)), .own false ((fl ++ [p.set k (some false), p.set k (some true)]).map prD), .d (stD p), .d (nD (cubeS p)), s8] := by
  obtain ⟨h1, h2⟩ := holds_at (p := p) (by omega) ho
  rw [hp] at h1 h2
  have g1 := m_given p (by omega) k (by omega) (some false)
  have g2 := m_given p (by omega) k (by omega) (some true)
  have a1 := dAnd_nn (cubeS p) (holdS st.length k)
  have le : cubeS p &&& holdS st.length k ≤ cubeS p := Nat.and_le_left
  have e1 : prD (p.set k (some false)) = .tup [stD (p.set k (some false)), nD (cubeS p - (cubeS p &&& holdS st.length k))] := by unfold prD; rw [h1]
  have e2 : prD (p.set k (some true)) = .tup [stD (p.set k (some true)), nD (cubeS p &&& holdS st.length k)] := by unfold prD; rw [h2]
  rw [List.map_append, show ([p.set k (some false), p.set k (some true)].map prD) = [prD (p.set k (some false)), prD (p.set k (some true))] from rfl, e1, e2]
  obtain ⟨A, hA⟩ : ∃ A, cubeS p = A := ⟨_, rfl⟩
  obtain ⟨H, hH⟩ : ∃ H, holdS st.length k = H := ⟨_, rfl⟩
  rw [hA, hH] at a1 le ⊢
  obtain ⟨M, hM⟩ : ∃ M, A &&& H = M := ⟨_, rfl⟩
  rw [hM] at a1 le ⊢
  have sb : (A : Int) - (M : Int) = ((A - M : Nat) : Int) := by omega
  have a2 : dSub (.int (A : Int)) (.int (M : Int)) = .ok (.int ((A - M : Nat) : Int)) := congrArg (fun z => Res.ok (D.int z)) sb
  have ll : (fl.map prD).length < lim := lim_lt (by rw [List.length_map]; omega)
  have ll2 : fl.length + 1 < lim := lim_lt (by omega)
  simp only [List.length_map] at ll
  obtain ⟨P, hP⟩ : ∃ P, stD p = P := ⟨_, rfl⟩
  obtain ⟨P1, hP1⟩ : ∃ P1, stD (p.set k (some false)) = P1 := ⟨_, rfl⟩
  obtain ⟨P2, hP2⟩ : ∃ P2, stD (p.set k (some true)) = P2 := ⟨_, rfl⟩
  rw [hP, hP1] at g1
  rw [hP, hP2] at g2
  rw [hP, hP1, hP2]
  have g1 : m__law_given [P, .int (k : Int), .bl false] = .ok P1 := g1
  have g2 : m__law_given [P, .int (k : Int), .bl true] = .ok P2 := g2
  unfold b__law_settings_1
  unfold nD
  simp [-dI2c_ap, -dI2_ap, g1, g2, a1, a2, ll, ll2]
theorem m_lset_turn (st : Sta) (hn : st.length ≤ 4) (LD : D) (made : List Sta) (k : Nat) (hk : k < st.length) (hl : made.length ≤ 100) (hm : ∀ p ∈ made, p.length = st.length ∧ p[k]? = st[k]?) (s4 s5 s6 s7 s8 : DL.Slot) :
    ∃ t4 t5 t6 t7 t8, b__law_settings_2 [.d (stD st), .d LD, .own false (made.map prD), .d (nD k), s4, s5, s6, s7, s8] = .nx [.d (stD st), .d LD, .own false ((if isOp st k then stepS made k else made).map prD), .d (nD k), t4, t5, t6, t7, t8] := by
  have e0 : st[k]? = some st[k] := List.getElem?_eq_getElem hk
  by_cases ho : isOp st k = true
  · have hv : st[k] = none := by rw [isOp_iff, e0] at ho; exact Option.some.inj ho
    have i1 : dIx (stD st) (nD k) = .ok .non := by rw [show nD k = .int (k : Int) from rfl, stD_at e0, hv]; rfl
    have i2 : dIsN .non .non = .ok (.bl true) := rfl
    have b3 : bLen [stD st] = .ok (.int ((st.length : Nat) : Int)) := by unfold stD; rw [bLen_tup, List.length_map]
    have p16 : 2 ^ st.length ≤ 16 := Nat.le_trans (Nat.pow_le_pow_right (by decide) hn) (by decide)
    obtain ⟨K, hK⟩ : ∃ K, 2 ^ st.length = K := ⟨_, rfl⟩
    have b1 : dShl (.int 1) (.int ((st.length : Nat) : Int)) = .ok (.int (K : Int)) := by rw [← hK]; exact dShl_1 (by omega)
    rw [hK] at p16
    have rg : rng1 [.int (K : Int)] = .ok ((List.range K).map nD) := by rw [rng1_n _ (by omega), rangeD_nat]
    have l1 : ∀ ft : DEnv → Res Bool, (∀ w : Nat, ft [.d (stD st), .d LD, .own false (made.map prD), .d (nD k), s4, s5, s6, s7, .d (nD w)] = .ok (w.testBit k)) → lcL [8] g1 ft l__law_settings_1 [.d (stD st), .d LD, .own false (made.map prD), .d (nD k), s4, s5, s6, s7, s8] ((List.range K).map nD) = .ok (((List.range K).filter fun w => w.testBit k).map fun w => nD (2 ^ w)) := fun ft q => lcL_filter nD _ (fun w => nD (2 ^ w)) _ fun w hw => ⟨q w, fun _ => by
      have hw := List.mem_range.mp hw
      have s1 := dShl_1 (k := w) (by omega)
      unfold l__law_settings_1
      unfold nD
      generalize 2 ^ w = J at s1 ⊢
      simp [-dI2c_ap, s1]⟩
    have l2 := l1 (eB (e2 dEq (e2 dAnd (e2 dShr (eVar 8) (eVar 3)) (eC (.int 1))) (eC (.int 1)))) fun w => by
      obtain ⟨q, hq⟩ : ∃ q, w / 2 ^ k = q := ⟨_, rfl⟩
      obtain ⟨r, hr⟩ : ∃ r, q &&& 1 = r := ⟨_, rfl⟩
      have a1 : dShr (nD w) (nD k) = .ok (.int (q : Int)) := hq ▸ dShr_nn w k
      have a2 : dAnd (.int (q : Int)) (.int 1) = .ok (.int (r : Int)) := hr ▸ dAnd_nn q 1
      have a3 : dEq (.int (r : Int)) (.int 1) = .ok (.bl (w.testBit k)) := by
        rw [← bit_dec, hq, hr]
        exact dEq_nn r 1
      simp [-dI2c_ap, -dI2_ap, a1, a2, a3]
    have hsm := hsum_at hn hk
    rw [hK] at hsm
    obtain ⟨W, hW⟩ : ∃ W, (((List.range K).filter fun w => w.testBit k).map fun w => nD (2 ^ w)) = W := ⟨_, rfl⟩
    have ln : W.length ≤ lim := by
      rw [← hW, List.length_map]
      refine Nat.le_trans (List.length_filter_le _ _) ?_
      rw [List.length_range]
      exact Nat.le_trans p16 (by decide)
    rw [hW] at l2 hsm
    obtain ⟨ρ', h1, s6', s7', s8', h2⟩ := forL_pre (sl := [6] ++ ([7] ++ [])) (g := gT 2 (gC g1 (gC g1 gN))) (fb := b__law_settings_1) prD (fun (pre : List Sta) ρ => ∃ s6 s7 s8, ρ = [.d (stD st), .d LD, .d (.lst (made.map prD)), .d (nD k), .d (nD (holdS st.length k)), .own false ((stepS pre k).map prD), s6, s7, s8]) made [.d (stD st), .d LD, .d (.lst (made.map prD)), .d (nD k), .d (nD (holdS st.length k)), .own false [], s6, s7, s8] ⟨_, _, _, rfl⟩ fun pre p post ρ e hR => by
      obtain ⟨s6, s7, s8, rfl⟩ := hR
      obtain ⟨q1, q2⟩ := hm p (by rw [e]; simp)
      have ls : (stepS pre k).length ≤ 1000 := by
        rw [stepS_len]
        have : made.length = pre.length + (post.length + 1) := by rw [e]; simp
        omega
      refine ⟨[stD p, nD (cubeS p)], _, rfl, .inl (m_lset_in st p hn LD (.lst (made.map prD)) k hk (stepS pre k) ls q1 (by rw [q2, e0, hv]) s8), .d (stD p), .d (nD (cubeS p)), s8, ?_⟩
      rw [stepS_app]
      rfl
    subst h2
    have lf : (stepS made k).length ≤ 1000 := by rw [stepS_len]; omega
    refine ⟨.d (nD (holdS st.length k)), .own false ((stepS made k).map prD), s6', s7', s8', ?_⟩
    unfold b__law_settings_2
    rw [if_pos ho]
    obtain ⟨S, hS⟩ : ∃ S, stD st = S := ⟨_, rfl⟩
    obtain ⟨M, hM⟩ : ∃ M, made.map prD = M := ⟨_, rfl⟩
    obtain ⟨M2, hM2⟩ : ∃ M2, (stepS made k).map prD = M2 := ⟨_, rfl⟩
    rw [hS, hM] at h1 l2
    rw [hS] at i1 b3
    rw [hM2] at h1
    rw [hS, hM, hM2]
    simp at h1
    simp [-dI2c_ap, -dI2_ap, i1, i2, b3, b1, rg, l2, okLen_le, ln, hsm, h1]
    rw [← hM2]
    exact nlxs_of _ _ fun p _ => nlx_prD _ p
  · have i1 : dIx (stD st) (nD k) = .ok (oB st[k]) := by rw [show nD k = .int (k : Int) from rfl, stD_at e0]
    have i2 : dIsN (oB st[k]) .non = .ok (.bl false) := by
      rw [isN_oB]
      rw [isOp_iff, e0] at ho
      cases hv : st[k] with
      | none => rw [hv] at ho; exact absurd rfl ho
      | some b => rfl
    refine ⟨s4, s5, s6, s7, s8, ?_⟩
    unfold b__law_settings_2
    rw [if_neg ho]
    simp [-dI2c_ap, -dI2_ap, i1, i2]
theorem m_lset (st : Sta) (hn : st.length ≤ 4) (L : List Nat) (hL : ∀ k ∈ L, k < st.length) (nd : L.Nodup) : m__law_settings [stD st, .lst (L.map nD)] = .ok (.lst ((setS st L).map prD)) := by
  have hl4 : L.length ≤ 4 := by
    have := nat_nodup_len L (List.range st.length) nd fun x hx => List.mem_range.mpr (hL x hx)
    rw [List.length_range] at this
    omega
  obtain ⟨ρ', h1, s3, s4, s5, s6, s7, s8, h2⟩ := forL_pre (sl := [3]) (g := g1) (fb := b__law_settings_2) nD (fun (pre : List Nat) ρ => ∃ s3 s4 s5 s6 s7 s8, ρ = [.d (stD st), .d (.lst (L.map nD)), .own false ((setS st pre).map prD), s3, s4, s5, s6, s7, s8]) L [.d (stD st), .d (.lst (L.map nD)), .own false [prD st], .un, .un, .un, .un, .un, .un] ⟨_, _, _, _, _, _, rfl⟩ fun pre k post ρ e hR => by
    obtain ⟨s3, s4, s5, s6, s7, s8, rfl⟩ := hR
    have hk : k < st.length := hL k (by rw [e]; simp)
    have pl : pre.length ≤ 4 := by have : L.length = pre.length + (post.length + 1) := by rw [e]; simp
                                   omega
    have hkp : k ∉ pre := fun h => by
      rw [e] at nd
      exact (List.nodup_append.mp nd).2.2 k h k List.mem_cons_self rfl
    obtain ⟨t4, t5, t6, t7, t8, q⟩ := m_lset_turn st hn (.lst (L.map nD)) (setS st pre) k hk (Nat.le_trans (setS_small pl) (by decide)) (fun p hp => ⟨(mem_setS.mp hp).1, ((mem_setS.mp hp).2 k).2 fun z => hkp z.1⟩) s4 s5 s6 s7 s8
    refine ⟨[nD k], _, rfl, .inl q, .d (nD k), t4, t5, t6, t7, t8, ?_⟩
    rw [setS_app]
  subst h2
  have hc := m_lcube st hn
  unfold m__law_settings mOf g__law_settings
  have pe : prD st = .tup [stD st, nD (cubeS st)] := rfl
  rw [pe] at h1
  simp [hc, h1]
/-! ### which letters a group holds -/
def lhM (hs : List (Option Nat)) (g : List Nat) : Nat := mk (Lh hs g)
theorem Lh_sel (hs : List (Option Nat)) (g : List Nat) (hn : hs.length ≤ 4) : Lh hs g = sel hs.length (lhM hs g) ∧ lhM hs g < 2 ^ hs.length := by
  have sub : ∀ n, n ≤ 4 → ∀ f : Nat → Bool, mk ((List.range n).filter f) < 2 ^ n ∧ ((List.range n).filter f) = sel n (mk ((List.range n).filter f)) := by
    intro n hn f
    have key : ∀ b0 b1 b2 b3 : Bool, ((List.range 5).all fun n => decide (mk ((List.range n).filter fun k => match k with | 0 => b0 | 1 => b1 | 2 => b2 | _ => b3) < 2 ^ n) && ((List.range n).filter fun k => match k with | 0 => b0 | 1 => b1 | 2 => b2 | _ => b3) == sel n (mk ((List.range n).filter fun k => match k with | 0 => b0 | 1 => b1 | 2 => b2 | _ => b3))) = true := by decide +kernel
    have h := key (f 0) (f 1) (f 2) (f 3)
    simp only [List.all_eq_true, Bool.and_eq_true, decide_eq_true_eq, beq_iff_eq] at h
    have e : (List.range n).filter f = (List.range n).filter fun k => match k with | 0 => f 0 | 1 => f 1 | 2 => f 2 | _ => f 3 := List.filter_congr fun k hk => by
      have := List.mem_range.mp hk
      match k with
      | 0 => rfl
      | 1 => rfl
      | 2 => rfl
      | 3 => rfl
      | k + 4 => omega
    rw [e]
    exact h n (List.mem_range.mpr (by omega))
  exact ⟨(sub _ hn _).2, (sub _ hn _).1⟩
theorem dIn_oN (v : Option Nat) (g : List Nat) : dInS (oN v) (.tup (g.map nD)) = .ok (match v with | some p => g.contains p | none => false) := by
  cases v with
  | some p => exact dInS_tup p g
  | none =>
    show (if ((D.non).flat && (g.map nD).all D.flat) = true then Res.ok (inSeq .non (g.map nD)) else .st) = _
    rw [flats_nD, show (D.non).flat = true from rfl, if_pos (by decide)]
    unfold inSeq
    rw [List.any_map]
    congr 1
    rw [List.any_eq_false]
    intro x _
    simp [nD, D.eqv]
theorem m_letters (hs : List (Option Nat)) (g : List Nat) (hn : hs.length ≤ 4) : m__law_letters [.lst (hs.map oN), .tup (g.map nD)] = .ok (.lst ((Lh hs g).map nD)) := by
  have l1 : lcL [2] g1 (eB (e2 dIn (e2 dIx (eVar 0) (eVar 2)) (eVar 1))) l__law_letters_1 [.d (.lst (hs.map oN)), .d (.tup (g.map nD)), .un] ((List.range hs.length).map nD) = .ok ((Lh hs g).map nD) := lcL_filter nD _ nD _ fun k hk => by
    have hk := List.mem_range.mp hk
    have e : (hs.map oN)[k]? = some (oN hs[k]) := by rw [List.getElem?_map, List.getElem?_eq_getElem hk]; rfl
    refine ⟨?_, fun _ => ?_⟩
    · simp [nD, atI_at e, dIn_oN, List.getElem?_eq_getElem hk]
      cases hs[k] <;> rfl
    · unfold l__law_letters_1
      simp
  have er : rng1 [.int ((hs.length : Nat) : Int)] = .ok ((List.range hs.length).map nD) := by rw [rng1_n _ (by omega), rangeD_nat]
  have lz : (Lh hs g).length ≤ lim := Nat.le_trans (Nat.le_trans (List.length_filter_le _ _) (by rw [List.length_range]; exact hn)) (by decide)
  unfold m__law_letters mOf g__law_letters
  simp [er, l1, okLen_le, lz]
theorem enumD_map {α : Type} (f : α → D) : ∀ (l : List α) (i : Nat), enumD i (l.map f) = (l.zipIdx i).map fun e => .tup [nD e.2, f e.1]
  | [], _ => rfl
  | a :: l, i => by
    show _ :: enumD (i + 1) (l.map f) = _
    rw [enumD_map f l (i + 1), List.zipIdx_cons, List.map_cons]
    rfl
def hdD (c : Nat) (hs : List (Option Nat)) : D := .obj "Hands" ["people", "holders", "n"] [nD c, .tup (hs.map oN), nD hs.length]
theorem m_held_ (c : Nat) (hs : List (Option Nat)) (g : List Nat) (hn : hs.length ≤ 4) : m_Hands_held [hdD c hs, .tup (g.map nD)] = .ok (.tup ((Lh hs g).map nD)) := by
  have l1 : lcL ([2] ++ ([3] ++ [])) (gT 2 (gC g1 (gC g1 gN))) (eB (e2 dIn (eVar 3) (eVar 1))) l_Hands_held_1 [.d (hdD c hs), .d (.tup (g.map nD)), .un, .un] (enumD 0 (hs.map oN)) = .ok (((hs.zipIdx).filter fun e => match e.1 with | some p => g.contains p | none => false).map fun e => nD e.2) := by
    rw [enumD_map]
    refine lcL_of (fun e : Option Nat × Nat => .tup [nD e.2, oN e.1]) _ (fun e => nD e.2) _ fun e he => ⟨[nD e.2, oN e.1], rfl, ?_, fun _ => ?_⟩
    · simp [dIn_oN]
    · unfold l_Hands_held_1
      simp
  have e2 : ((hs.zipIdx).filter fun e => match e.1 with | some p => g.contains p | none => false).map (fun e => e.2) = Lh hs g := by
    unfold Lh
    have : hs.zipIdx = (List.range hs.length).map fun k => (hs[k]?.getD none, k) := by
      apply List.ext_getElem?
      intro k
      rw [List.getElem?_zipIdx, List.getElem?_map]
      by_cases hk : k < hs.length
      · rw [List.getElem?_range hk, List.getElem?_eq_getElem hk]; simp [List.getElem?_eq_getElem hk]
      · rw [List.getElem?_eq_none (by omega), List.getElem?_eq_none (by rw [List.length_range]; omega)]; rfl
    rw [this, List.filter_map, List.map_map]
    rw [show ((fun e : Option Nat × Nat => e.2) ∘ fun k => (hs[k]?.getD none, k)) = id from rfl, List.map_id]
    refine List.filter_congr fun k hk => ?_
    have hk := List.mem_range.mp hk
    simp only [Function.comp, List.getElem?_eq_getElem hk, Option.getD_some]
    cases hs[k] <;> rfl
  have e3 : ((hs.zipIdx).filter fun e => match e.1 with | some p => g.contains p | none => false).map (fun e => nD e.2) = (Lh hs g).map nD := by
    rw [← e2, List.map_map]; rfl
  rw [e3] at l1
  have lz : (Lh hs g).length ≤ lim := Nat.le_trans (Nat.le_trans (List.length_filter_le _ _) (by rw [List.length_range]; exact hn)) (by decide)
  have f1 : dFld ["Hands"] "holders" (hdD c hs) = .ok (.tup (hs.map oN)) := rfl
  unfold m_Hands_held mOf g_Hands_held
  simp [f1, bEnumA] at l1 ⊢
  simp [l1, okLen_le, lz]
end W80
set_option Elab.async false
set_option linter.all false
set_option maxRecDepth 100000
set_option maxHeartbeats 400000
namespace W80
open PySem PySem.Spec PyProof.Rows L2 DL Cb
/-! ### the settings of a group -/
theorem sStL_ap {k : Bool} {S S2 : List Nat} {i : Nat} {fi fv : DEnv → Res D} {ρ : DEnv} : sStL k S S2 i fi fv ρ = after (fv ρ) ρ fun d => rest k S (fun b => d.nlx b) ρ fun ρ' => match ρ'[i]? with
  | some (.own _ _) => after (fi ρ') ρ' fun j => rest true S2 (fun b => j.nlx b) ρ' fun ρ'' => stL i d j ρ''
  | _ => .st := id rfl
theorem gForL_map {α : Type} {sl : List Nat} {g : D → Option (List D)} {fb : DEnv → GRes} (F out : α → D) (R : DEnv → Prop) : ∀ (l : List α) (ρ : DEnv), R ρ →
    (∀ a ρ, a ∈ l → R ρ → ∃ vs ρ', g (F a) = some vs ∧ fb (setAll ρ sl (vs.map Slot.d)) = ([out a], .nx ρ') ∧ R ρ') → ∃ ρ', gForL sl g fb (l.map F) ρ = (l.map out, .nx ρ') ∧ R ρ'
  | [], ρ, h, _ => ⟨ρ, rfl, h⟩
  | a :: l, ρ, h, q => by
    obtain ⟨vs, ρ1, h1, h2, h3⟩ := q a ρ List.mem_cons_self h
    obtain ⟨ρ', k1, k2⟩ := gForL_map F out R l ρ1 h3 fun a ρ ha => q a ρ (List.mem_cons_of_mem _ ha)
    refine ⟨ρ', ?_, k2⟩
    have e : gForL sl g fb ((a :: l).map F) ρ = (match g (F a) with
      | none => ([], .st)
      | some vs => match fb (setAll ρ sl (vs.map Slot.d)) with
        | (a, .nx ρ') => (a ++ (gForL sl g fb (l.map F) ρ').1, (gForL sl g fb (l.map F) ρ').2)
        | (a, .ct ρ') => (a ++ (gForL sl g fb (l.map F) ρ').1, (gForL sl g fb (l.map F) ρ').2)
        | (a, .bk ρ') => (a, .nx ρ')
        | r => r) := rfl
    rw [e, h1]
    simp only [h2, k1]
    rfl
theorem m_set_store (HD SD GD LD : D) (num : Nat) (b : Sta) (j pl : Nat) (hj : j < b.length) (hb : b.length ≤ 4) (hp : pl ≤ 100) : b_settings_1 [.d HD, .d SD, .d GD, .d LD, .d (nD num), .own false (b.map oB), .d (nD j), .d (nD pl)] = .nx [.d HD, .d SD, .d GD, .d LD, .d (nD num), .own false ((b.set j (some (num.testBit pl))).map oB), .d (nD j), .d (nD pl)] := by
  obtain ⟨q, hq⟩ : ∃ q, num / 2 ^ pl = q := ⟨_, rfl⟩
  obtain ⟨r, hr⟩ : ∃ r, q &&& 1 = r := ⟨_, rfl⟩
  have a1 : dShr (nD num) (nD pl) = .ok (.int (q : Int)) := hq ▸ dShr_nn num pl
  have a2 : dAnd (.int (q : Int)) (.int 1) = .ok (.int (r : Int)) := hr ▸ dAnd_nn q 1
  have a3 : dEq (.int (r : Int)) (.int 1) = .ok (.bl (num.testBit pl)) := by
    rw [← bit_dec, hq, hr]
    exact dEq_nn r 1
  obtain ⟨B, hB⟩ : ∃ B, num.testBit pl = B := ⟨_, rfl⟩
  rw [hB] at a3 ⊢
  have e1 : (b.set j (some B)).map oB = (b.map oB).set j (.bl B) := by rw [List.map_set]; rfl
  obtain ⟨xs, hx⟩ : ∃ xs, b.map oB = xs := ⟨_, rfl⟩
  have hl : ixN xs.length (j : Int) = some j := by
    rw [← hx, List.length_map]
    unfold ixN
    simp
    omega
  rw [e1, hx]
  unfold b_settings_1
  rw [sStL_ap]
  simp [-dI2c_ap, -dI2_ap, a1, a2, a3]
  unfold stL
  simp [nD, hl]
theorem m_set_turn (HD GD : D) (st : Sta) (hn : st.length ≤ 4) (ls : List Nat) (hls : ∀ k ∈ ls, k < st.length) (hl : ls.length ≤ 4) (num : Nat) (s5 s6 s7 : DL.Slot) :
    ∃ t5 t6 t7, b_settings_2 [.d HD, .d (stD st), .d GD, .d (.lst (ls.map nD)), .d (nD num), s5, s6, s7] = ([stD (setNum st ls num)], .nx [.d HD, .d (stD st), .d GD, .d (.lst (ls.map nD)), .d (nD num), t5, t6, t7]) := by
  have en : bEnumR [.lst (ls.map nD)] = .ok ((ls.reverse.zipIdx).map fun e => .tup [nD e.2, nD e.1]) := by
    show Res.ok (enumD 0 (ls.map nD).reverse) = _
    rw [← List.map_reverse, enumD_map]
  obtain ⟨ρ', h1, ⟨s6', s7', h2⟩, h3⟩ := forL_of (sl := [7] ++ ([6] ++ [])) (g := gT 2 (gC g1 (gC g1 gN))) (fb := b_settings_1) (fun e : Nat × Nat => .tup [nD e.2, nD e.1]) (fun (b : Sta) ρ => (∃ s6 s7, ρ = [.d HD, .d (stD st), .d GD, .d (.lst (ls.map nD)), .d (nD num), .own false (b.map oB), s6, s7]) ∧ b.length = st.length) (fun p e => p.set e.1 (some (num.testBit e.2))) ls.reverse.zipIdx st [.d HD, .d (stD st), .d GD, .d (.lst (ls.map nD)), .d (nD num), .own false (st.map oB), s6, s7] ⟨⟨_, _, rfl⟩, rfl⟩ fun b e ρ he ⟨⟨s6, s7, er⟩, hb⟩ => by
    subst er
    have h0 := List.mem_zipIdx_iff_getElem?.mp (show (e.1, e.2) ∈ ls.reverse.zipIdx from he)
    have hm : e.1 ∈ ls := List.mem_reverse.mp (List.mem_of_getElem? h0)
    have hi : e.2 < ls.length := by have := (List.getElem?_eq_some_iff.mp h0).1; simpa using this
    exact ⟨[nD e.2, nD e.1], _, rfl, .inl (m_set_store HD (stD st) GD (.lst (ls.map nD)) num b e.1 e.2 (by rw [hb]; exact hls _ hm) (by omega) (by omega)), ⟨_, _, rfl⟩, by rw [List.length_set]; exact hb⟩
  subst h2
  have bl : bList [stD st] = .ok (st.map oB) := rfl
  refine ⟨.d (.lst ((setNum st ls num).map oB)), demS true s6', demS true s7', ?_⟩
  have e0 : (ls.reverse.zipIdx.foldl (fun p e => p.set e.1 (some (num.testBit e.2))) st) = setNum st ls num := rfl
  rw [e0] at h1
  unfold b_settings_2
  obtain ⟨S, hS⟩ : ∃ S, stD st = S := ⟨_, rfl⟩
  obtain ⟨X, hX⟩ : ∃ X, st.map oB = X := ⟨_, rfl⟩
  rw [hS, hX] at bl
  rw [hS, hX] at h1
  obtain ⟨Y, hY⟩ : ∃ Y, (setNum st ls num).map oB = Y := ⟨_, rfl⟩
  have eY : stD (setNum st ls num) = .tup Y := by unfold stD; rw [hY]
  rw [hY] at h1
  rw [hS, hY, eY]
  have h1' : forL [7, 6] (gT 2 (gC g1 (gC g1 gN))) b_settings_1 ((ls.reverse.zipIdx).map fun e => .tup [nD e.2, nD e.1]) [.d HD, .d S, .d GD, .d (.lst (ls.map nD)), .d (nD num), .own false X, s6, s7] = .nx [.d HD, .d S, .d GD, .d (.lst (ls.map nD)), .d (nD num), .own false Y, s6', s7'] := h1
  unfold gYd2
  simp [bl, en, h1']
  rfl
theorem m_settings_ (c : Nat) (hs : List (Option Nat)) (st : Sta) (hn : st.length ≤ 4) (hh : hs.length = st.length) (g : List Nat) : m_settings [hdD c hs, stD st, .tup (g.map nD)] = .ok ((setS st (Lh hs g)).map stD) := by
  obtain ⟨L1, L2⟩ := Lh_sel hs g (by omega)
  have hlt : ∀ k ∈ Lh hs g, k < st.length := fun k hk => by rw [← hh]; exact List.mem_range.mp (List.mem_filter.mp hk).1
  have hle : (Lh hs g).length ≤ 4 := Nat.le_trans (List.length_filter_le _ _) (by rw [List.length_range]; omega)
  obtain ⟨L, hL⟩ : ∃ L, Lh hs g = L := ⟨_, rfl⟩
  have hd := m_held_ c hs g (by omega)
  rw [hL] at hd hlt hle ⊢
  have ck := allK_at num_all hn (lm := lhM hs g) (by rw [← hh]; exact L2)
  unfold ckNum at ck
  rw [decide_eq_true_eq, ← hh, ← L1, hL] at ck
  obtain ⟨ls, hls⟩ : ∃ ls, L.filter (isOp st) = ls := ⟨_, rfl⟩
  rw [hls] at ck
  have hls1 : ∀ k ∈ ls, k < st.length := fun k hk => by rw [← hls] at hk; exact hlt k (List.mem_filter.mp hk).1
  have hls2 : ls.length ≤ 4 := by rw [← hls]; exact Nat.le_trans (List.length_filter_le _ _) hle
  have l1 : lcL [6] g1 (eB (e2 dIsN (e2 dIx (eVar 1) (eVar 6)) (eC .non))) l_settings_1 [.d (hdD c hs), .d (stD st), .d (.tup (g.map nD)), .un, .un, .un, .un, .un] (L.map nD) = .ok (ls.map nD) := by
    rw [← hls]
    refine lcL_filter nD _ nD _ fun k hk => ⟨?_, fun _ => ?_⟩
    · have e0 : st[k]? = some (st[k]'(hlt k hk)) := List.getElem?_eq_getElem (hlt k hk)
      have i1 : dIx (stD st) (nD k) = .ok (oB (st[k]'(hlt k hk))) := by rw [show nD k = .int (k : Int) from rfl, stD_at e0]
      have i2 := isN_oB (st[k]'(hlt k hk))
      simp [i1, i2]
      unfold isOp
      rw [e0]
      cases st[k]'(hlt k hk) <;> rfl
    · unfold l_settings_1
      simp
  have p16 : 2 ^ ls.length ≤ 16 := Nat.le_trans (Nat.pow_le_pow_right (by decide) hls2) (by decide)
  have b1 : dShl (.int 1) (.int ((ls.length : Nat) : Int)) = .ok (.int ((2 ^ ls.length : Nat) : Int)) := dShl_1 (by omega)
  obtain ⟨K, hK⟩ : ∃ K, 2 ^ ls.length = K := ⟨_, rfl⟩
  rw [hK] at b1 p16 ck
  have rg : rng1 [.int (K : Int)] = .ok ((List.range K).map nD) := by rw [rng1_n _ (by omega), rangeD_nat]
  obtain ⟨ρ', h1, h2⟩ := gForL_map (sl := [4]) (g := g1) (fb := b_settings_2) nD (fun num => stD (setNum st ls num)) (fun ρ => ∃ s4 s5 s6 s7, ρ = [.d (hdD c hs), .d (stD st), .d (.tup (g.map nD)), .d (.lst (ls.map nD)), s4, s5, s6, s7]) (List.range K) [.d (hdD c hs), .d (stD st), .d (.tup (g.map nD)), .d (.lst (ls.map nD)), .un, .un, .un, .un] ⟨_, _, _, _, rfl⟩ fun num ρ _ ⟨s4, s5, s6, s7, e⟩ => by
    subst e
    obtain ⟨t5, t6, t7, q⟩ := m_set_turn (hdD c hs) (.tup (g.map nD)) st hn ls hls1 hls2 num s5 s6 s7
    exact ⟨[nD num], _, rfl, q, _, _, _, _, rfl⟩
  have ll : (ls.map nD).length ≤ lim := by rw [List.length_map]; exact Nat.le_trans hls2 (by decide)
  have mth : isM "Hands" "held" (hdD c hs) = true := rfl
  have lk : K ≤ lim := Nat.le_trans p16 (by decide)
  have e1 : ((List.range K).map fun num => stD (setNum st ls num)) = (setS st L).map stD := by rw [← ck, List.map_map]; rfl
  rw [e1] at h1
  have l3 : ((setS st L).map stD).length ≤ lim := by rw [← e1, List.length_map, List.length_range]; exact lk
  obtain ⟨H, hH⟩ : ∃ H, hdD c hs = H := ⟨_, rfl⟩
  rw [hH] at hd l1 h1 mth ⊢
  obtain ⟨S, hS⟩ : ∃ S, stD st = S := ⟨_, rfl⟩
  rw [hS] at l1 h1
  rw [hS]
  obtain ⟨G, hG⟩ : ∃ G, D.tup (g.map nD) = G := ⟨_, rfl⟩
  rw [hG] at hd l1 h1
  rw [hG]
  unfold m_settings mG g_settings gFor eMth
  simp only [List.length_map] at ll l3
  simp [mth, hd, l1, okLen_le, ll, b1, rg, h1, l3]
end W80
set_option Elab.async false
set_option linter.all false
set_option maxRecDepth 100000
set_option maxHeartbeats 400000
namespace W80
open PySem PySem.Spec PyProof.Rows L2 DL Cb
/-! ### what a group can keep -/
def kD : Option Sta → D
  | none => .non
  | some p => stD p
def firstK (st : Sta) (L : List Nat) (claim : Nat) : Option Sta := (setS st L).find? fun p => wnB (cubeS p) claim
theorem forGL_find {α : Type} {i : Nat} {fb : DEnv → SRes} {ρ : DEnv} (F : α → D) (p : α → Bool) : ∀ (l : List α), (∀ a ∈ l, (p a = true → fb (ρ.set i (.d (F a))) = .rt (F a)) ∧ (p a = false → ∃ ρ', fb (ρ.set i (.d (F a))) = .nx ρ')) →
    forGL i fb (l.map F) ρ = match l.find? p with
      | some a => .rt (F a)
      | none => .nx (ρ.set i .un)
  | [], _ => rfl
  | a :: l, h => by
    obtain ⟨h1, h2⟩ := h a List.mem_cons_self
    have ih := forGL_find (i := i) (fb := fb) (ρ := ρ) F p l fun b hb => h b (List.mem_cons_of_mem _ hb)
    have e : forGL i fb ((a :: l).map F) ρ = (match fb (ρ.set i (.d (F a))) with
      | .nx _ => forGL i fb (l.map F) ρ
      | .ct _ => forGL i fb (l.map F) ρ
      | .bk ρ' => .nx ρ'
      | r => r) := rfl
    rw [e, List.find?_cons]
    cases hp : p a with
    | true => rw [h1 hp]
    | false => obtain ⟨ρ', q⟩ := h2 hp; rw [q]; exact ih
theorem forL_find {α : Type} {sl : List Nat} {g : D → Option (List D)} {fb : DEnv → SRes} (F out : α → D) (R : DEnv → Prop) (p : α → Bool) : ∀ (l : List α) (ρ : DEnv), R ρ →
    (∀ a ρ, a ∈ l → R ρ → ∃ vs, g (F a) = some vs ∧ (p a = true → fb (setAll ρ sl (vs.map Slot.d)) = .rt (out a)) ∧ (p a = false → ∃ ρ', fb (setAll ρ sl (vs.map Slot.d)) = .nx ρ' ∧ R ρ')) →
    match l.find? p with
    | some a => forL sl g fb (l.map F) ρ = .rt (out a)
    | none => ∃ ρ', forL sl g fb (l.map F) ρ = .nx ρ' ∧ R ρ'
  | [], ρ, h, _ => ⟨ρ, rfl, h⟩
  | a :: l, ρ, h, q => by
    obtain ⟨vs, h1, h2, h3⟩ := q a ρ List.mem_cons_self h
    have e : forL sl g fb ((a :: l).map F) ρ = (match g (F a) with
      | none => .st
      | some vs => match fb (setAll ρ sl (vs.map Slot.d)) with
        | .nx ρ' => forL sl g fb (l.map F) ρ'
        | .ct ρ' => forL sl g fb (l.map F) ρ'
        | .bk ρ' => .nx ρ'
        | r => r) := rfl
    rw [e, h1, List.find?_cons]
    cases hp : p a with
    | true => simp only [h2 hp]
    | false =>
      obtain ⟨ρ1, k1, k2⟩ := h3 hp
      have ih := forL_find F out R p l ρ1 k2 fun a ρ ha => q a ρ (List.mem_cons_of_mem _ ha)
      simp only [k1]
      exact ih
theorem m_within_ (a b : Nat) : m_within [nD a, nD b] = .ok (.bl (wnB a b)) := by
  have a1 := dAnd_nn a b
  have a2 := dEq_nn (a &&& b) a
  unfold m_within mOf g_within wnB
  unfold nD
  simp only [List.map_cons, List.map_nil]
  obtain ⟨m, hm⟩ : ∃ m, a &&& b = m := ⟨_, rfl⟩
  rw [hm] at a1 a2 ⊢
  simp [-dI2c_ap, -dI2_ap, a1, a2]
  rfl
theorem m_can_keep_ (c : Nat) (hs : List (Option Nat)) (st : Sta) (hn : st.length ≤ 4) (hh : hs.length = st.length) (g : List Nat) (claim : Nat) : m_can_keep [hdD c hs, stD st, .tup (g.map nD), nD claim] = .ok (kD (firstK st (Lh hs g) claim)) := by
  have ms := m_settings_ c hs st hn hh g
  have key := forGL_find (i := 4) (fb := b_can_keep_1) (ρ := [.d (hdD c hs), .d (stD st), .d (.tup (g.map nD)), .d (nD claim), .un]) stD (fun p => wnB (cubeS p) claim) (setS st (Lh hs g)) fun p hp => by
    have hc := m_cube_ p (by rw [(mem_setS.mp hp).1]; exact hn)
    have hw := m_within_ (cubeS p) claim
    constructor
    · intro h
      rw [h] at hw
      unfold b_can_keep_1
      simp [hc, hw]
    · intro h
      rw [h] at hw
      unfold b_can_keep_1
      simp [hc, hw]
  unfold m_can_keep mOf g_can_keep firstK
  have nw : noOwn [.d (hdD c hs), .d (stD st), .d (.tup (g.map nD)), .d (nD claim), .un] = true := rfl
  obtain ⟨M, hM⟩ : ∃ M, (setS st (Lh hs g)).map stD = M := ⟨_, rfl⟩
  rw [hM] at ms key
  have q : quiet (sForGe 4 3 m_settings (eCons (eVar 0) (eCons (eVar 1) (eCons (eVar 2) eNil))) b_can_keep_1) [.d (hdD c hs), .d (stD st), .d (.tup (g.map nD)), .d (nD claim), .un] = match (setS st (Lh hs g)).find? fun p => wnB (cubeS p) claim with
      | some a => .rt (stD a)
      | none => .nx [.d (hdD c hs), .d (stD st), .d (.tup (g.map nD)), .d (nD claim), .un] := by
    unfold quiet sForGe
    rw [nw, if_pos rfl]
    simp [ms, key]
    cases (setS st (Lh hs g)).find? fun p => wnB (cubeS p) claim <;> rfl
  cases hf : (setS st (Lh hs g)).find? fun p => wnB (cubeS p) claim with
  | some a => rw [hf] at q; simp [q]; rfl
  | none => rw [hf] at q; simp [q]; rfl
theorem m_lfirst (st : Sta) (hn : st.length ≤ 4) (L : List Nat) (hL : ∀ k ∈ L, k < st.length) (nd : L.Nodup) (claim : Nat) : m__law_first_kept [stD st, .lst (L.map nD), nD claim] = .ok (kD (firstK st L claim)) := by
  have ms := m_lset st hn L hL nd
  have key := forL_find (sl := [3] ++ ([4] ++ [])) (g := gT 2 (gC g1 (gC g1 gN))) (fb := b__law_first_kept_1) prD stD (fun ρ => ∃ s3 s4, ρ = [.d (stD st), .d (.lst (L.map nD)), .d (nD claim), s3, s4]) (fun p => wnB (cubeS p) claim) (setS st L) [.d (stD st), .d (.lst (L.map nD)), .d (nD claim), .un, .un] ⟨_, _, rfl⟩ fun p ρ hp ⟨s3, s4, e⟩ => by
    subst e
    refine ⟨[stD p, nD (cubeS p)], rfl, ?_⟩
    have a1 := dAnd_nn (cubeS p) claim
    have a2 := dEq_nn (cubeS p &&& claim) (cubeS p)
    have ew : wnB (cubeS p) claim = decide (cubeS p &&& claim = cubeS p) := rfl
    rw [ew]
    obtain ⟨C, hC⟩ : ∃ C, cubeS p = C := ⟨_, rfl⟩
    rw [hC] at a1 a2 ⊢
    obtain ⟨m, hm⟩ : ∃ m, C &&& claim = m := ⟨_, rfl⟩
    rw [hm] at a1 a2 ⊢
    unfold b__law_first_kept_1
    unfold nD
    constructor
    · intro h
      rw [h] at a2
      simp [-dI2c_ap, -dI2_ap, a1, a2]
    · intro h
      rw [h] at a2
      refine ⟨_, ?_, .d (stD p), .d (nD C), rfl⟩
      simp [-dI2c_ap, -dI2_ap, a1, a2]
      rfl
  unfold m__law_first_kept mOf g__law_first_kept firstK
  cases hf : (setS st L).find? fun p => wnB (cubeS p) claim with
  | some a => rw [hf] at key; simp at key; simp [ms, key]; rfl
  | none =>
    rw [hf] at key
    obtain ⟨ρ', key, _⟩ := key
    simp at key
    simp [ms, key]
    rfl
/-! ### letters opened again -/
theorem m_reopened_ (c : Nat) (hs : List (Option Nat)) (st : Sta) (hn : st.length ≤ 4) (hh : hs.length = st.length) (g : List Nat) : m_reopened [hdD c hs, stD st, .tup (g.map nD)] = .ok (stD (reopS st (Lh hs g))) := by
  have hd := m_held_ c hs g (by omega)
  obtain ⟨L, hL⟩ : ∃ L, Lh hs g = L := ⟨_, rfl⟩
  rw [hL] at hd ⊢
  have l1 : lcL ([4] ++ ([5] ++ [])) (gT 2 (gC g1 (gC g1 gN))) tYesD l_reopened_1 [.d (hdD c hs), .d (stD st), .d (.tup (g.map nD)), .d (.tup (L.map nD)), .un, .un] (enumD 0 (st.map oB)) = .ok (st.zipIdx.map fun e => oB (if L.contains e.2 then none else e.1)) := by
    rw [enumD_map]
    have := lcL_of (sl := [4] ++ ([5] ++ [])) (g := gT 2 (gC g1 (gC g1 gN))) (ft := tYesD) (fe := l_reopened_1) (ρ := [.d (hdD c hs), .d (stD st), .d (.tup (g.map nD)), .d (.tup (L.map nD)), .un, .un]) (fun e : Option Bool × Nat => .tup [nD e.2, oB e.1]) (fun _ => true) (fun e => oB (if L.contains e.2 then none else e.1)) st.zipIdx fun e he => ⟨[nD e.2, oB e.1], rfl, rfl, fun _ => by
      unfold l_reopened_1
      simp [-List.contains_eq_mem, dInS_tup]
      cases L.contains e.2 <;> rfl⟩
    rw [this, List.filter_eq_self.mpr fun _ _ => rfl]
  have e2 : (st.zipIdx.map fun e => oB (if L.contains e.2 then none else e.1)) = (reopS st L).map oB := by
    apply List.ext_getElem?
    intro k
    rw [List.getElem?_map, List.getElem?_map, reopS_at, List.getElem?_zipIdx]
    cases st[k]? <;> simp
  rw [e2] at l1
  have mth : isM "Hands" "held" (hdD c hs) = true := rfl
  have en : bEnumA [stD st] = .ok (enumD 0 (st.map oB)) := rfl
  have lz : ((reopS st L).map oB).length ≤ lim := by rw [List.length_map, reopS_len]; exact Nat.le_trans hn (by decide)
  obtain ⟨Y, hY⟩ : ∃ Y, (reopS st L).map oB = Y := ⟨_, rfl⟩
  have eY : stD (reopS st L) = .tup Y := by unfold stD; rw [hY]
  rw [hY] at l1 lz
  rw [eY]
  obtain ⟨H, hH⟩ : ∃ H, hdD c hs = H := ⟨_, rfl⟩
  rw [hH] at hd l1 mth ⊢
  obtain ⟨S, hS⟩ : ∃ S, stD st = S := ⟨_, rfl⟩
  rw [hS] at l1 en ⊢
  unfold m_reopened mOf g_reopened eMth
  simp at l1
  simp [mth, hd, en, l1, okLen_le, lz]
theorem m_lreop (st : Sta) (hn : st.length ≤ 4) (L : List Nat) (hL : ∀ k ∈ L, k < st.length) : m__law_reopened [stD st, .lst (L.map nD)] = .ok (stD (reopS st L)) := by
  obtain ⟨ρ', h1, ⟨s3, h2⟩, h3⟩ := forL_of (sl := [3]) (g := g1) (fb := b__law_reopened_1) nD (fun (b : Sta) ρ => (∃ s3, ρ = [.d (stD st), .d (.lst (L.map nD)), .d (stD b), s3]) ∧ b.length = st.length) (fun b k => b.set k none) L st [.d (stD st), .d (.lst (L.map nD)), .d (stD st), .un] ⟨⟨_, rfl⟩, rfl⟩ fun b k ρ hk ⟨⟨s3, e⟩, hb⟩ => by
    subst e
    have g := m_given b (by omega) k (by rw [hb]; exact hL k hk) none
    refine ⟨[nD k], _, rfl, .inl ?_, ⟨.d (nD k), rfl⟩, by rw [List.length_set]; exact hb⟩
    have g : m__law_given [stD b, nD k, .non] = .ok (stD (b.set k none)) := g
    unfold b__law_reopened_1
    simp [g]
  subst h2
  have e : ∀ (L : List Nat) (b : Sta), L.foldl (fun b k => b.set k none) b = reopS b L := by
    intro L
    induction L with
    | nil => intro b; exact reop_nil.symm
    | cons k L ih =>
      intro b
      rw [List.foldl_cons, ih]
      apply List.ext_getElem?
      intro j
      rw [reopS_at, reopS_at, List.getElem?_set]
      by_cases hj : k = j
      · subst hj
        rw [if_pos rfl]
        by_cases hl : k < b.length
        · rw [if_pos hl, List.getElem?_eq_getElem hl]; simp
        · rw [if_neg hl, List.getElem?_eq_none (by omega)]; rfl
      · rw [if_neg hj]
        cases b[j]? with
        | none => rfl
        | some v => simp [Ne.symm hj]
  rw [e] at h1
  unfold m__law_reopened mOf g__law_reopened
  simp [h1]
end W80
set_option Elab.async false
set_option linter.all false
set_option maxRecDepth 100000
set_option maxHeartbeats 400000
namespace W80
open PySem PySem.Spec PyProof.Rows L2 DL Cb
theorem m_chosen (c m : Nat) (hc : c ≤ 60) : m__law_chosen [.int (m : Int), .int (c : Int)] = .ok (selD c m) := by
  have l1 : ∀ ft : DEnv → Res Bool, (∀ k : Nat, ft [.d (.int (m : Int)), .d (.int (c : Int)), .d (nD k)] = .ok (m.testBit k)) → lcL [2] g1 ft l__law_chosen_1 [.d (.int (m : Int)), .d (.int (c : Int)), .un] ((List.range c).map nD) = .ok ((sel c m).map nD) := fun ft q => lcL_filter nD _ nD _ fun k hk => ⟨q k, fun _ => by
    unfold l__law_chosen_1
    simp⟩
  have er : rng1 [.int (c : Int)] = .ok ((List.range c).map nD) := by rw [rng1_n c (by omega), rangeD_nat]
  have lz : (sel c m).length ≤ lim := Nat.le_trans (Nat.le_trans (List.length_filter_le _ _) (by rw [List.length_range]; exact hc)) (by decide)
  have l2 := l1 (eB (e2 dEq (e2 dAnd (e2 dShr (eVar 0) (eVar 2)) (eC (.int 1))) (eC (.int 1)))) fun k => by
    obtain ⟨q, hq⟩ : ∃ q, m / 2 ^ k = q := ⟨_, rfl⟩
    obtain ⟨r, hr⟩ : ∃ r, q &&& 1 = r := ⟨_, rfl⟩
    have a1 : dShr (.int (m : Int)) (nD k) = .ok (.int (q : Int)) := hq ▸ dShr_nn m k
    have a2 : dAnd (.int (q : Int)) (.int 1) = .ok (.int (r : Int)) := hr ▸ dAnd_nn q 1
    have a3 : dEq (.int (r : Int)) (.int 1) = .ok (.bl (m.testBit k)) := by
      rw [← bit_dec, hq, hr]
      exact dEq_nn r 1
    simp [-dI2c_ap, -dI2_ap, a1, a2, a3]
  unfold m__law_chosen mOf g__law_chosen selD
  simp [er, l2, okLen_le, lz]
theorem m_mask (c m : Nat) (O : OrdOk c) (hm : m < 2 ^ c) (hc : c ≤ 7) : m_mask_of [selD c m] = .ok (.int (m : Int)) := by
  obtain ⟨ρ', h1, i, h2⟩ := forL_of (sl := [2]) (g := g1) (fb := b_mask_of_1) nD (fun (a : Nat) ρ => ∃ s2, ρ = [.d (selD c m), .d (.int (a : Int)), s2]) (fun a k => a ||| 2 ^ k) (sel c m) 0 [.d (selD c m), .d (.int 0), .un] ⟨_, rfl⟩ fun a k ρ hk ⟨s2, e⟩ => by
    subst e
    have hk7 : k ≤ 1000 := by
      have := List.mem_range.mp (List.mem_filter.mp hk).1
      omega
    have q : b_mask_of_1 [.d (selD c m), .d (.int (a : Int)), .d (nD k)] = .nx [.d (selD c m), .d (.int ((a ||| 2 ^ k : Nat) : Int)), .d (nD k)] := by
      unfold b_mask_of_1 nD
      simp [-dI2c_ap, -Int.natCast_pow, dShl_1 hk7, dOr_nn]
    exact ⟨[nD k], _, rfl, .inl q, _, rfl⟩
  have e : (sel c m).foldl (fun a k => a ||| 2 ^ k) 0 = m := O.back m hm
  rw [e] at h2
  subst h2
  unfold m_mask_of mOf g_mask_of
  simp [selD] at h1 ⊢
  simp [h1]
theorem m_inorder (c : Nat) (hc : c ≤ 7) (ms : List Nat) (b : ∀ m ∈ ms, m < 2 ^ c) (hl : ms.length ≤ 10000) : m_in_order [.lst (ms.map (selD c))] = .ok (.lst ((can c ms).map (selD c))) := by
  have O := ord_ok hc
  have l1 : ∀ ρ : DEnv, ρ.length = 4 → lcL [3] g1 tYesD l_in_order_1 ρ (ms.map (selD c)) = .ok (ms.map (selP c)) := fun ρ hρ => lcL_map (selD c) (selP c) ms fun m _ => by
    unfold l_in_order_1
    simp [hρ, selD, selP]
  have l2 : ∀ ρ : DEnv, ρ.length = 4 → lcL [2] g1 tYesD l_in_order_2 ρ ((can c ms).map (selP c)) = .ok ((can c ms).map (selD c)) := fun ρ hρ => lcL_map (selP c) (selD c) (can c ms) fun m _ => by
    unfold l_in_order_2
    simp [hρ, selP]
  have sm : (can c ms).length ≤ lim := Nat.le_trans (small_set hc (can_nodup O) fun m hm => b m ((mem_can O b).mp hm)) (by decide)
  unfold m_in_order mOf g_in_order
  simp [l1, l2, set_sel hc b, okLen_le, sm]
theorem m_least_ (c : Nat) (hc : c ≤ 7) (ms : List Nat) (b : ∀ m ∈ ms, m < 2 ^ c) (hl : ms.length ≤ 10000) : m_least [.lst (ms.map (selD c))] = .ok (.lst ((can c (minl ms)).map (selD c))) := by
  have O := ord_ok hc
  have sm : (can c ms).length ≤ 128 := small_set hc (can_nodup O) fun m hm => b m ((mem_can O b).mp hm)
  obtain ⟨ρ', h1, ⟨s3, s4, s5, h2⟩, h3⟩ := forL_of (sl := [3]) (g := g1) (fb := b_least_1) (selD c) (fun (ks : List Nat) ρ => (∃ s3 s4 s5, ρ = [.d (.lst (ms.map (selD c))), .own false (ks.map (selD c)), .own false (ks.map nD), s3, s4, s5]) ∧ ks.Nodup ∧ ∀ k ∈ ks, k < 2 ^ c) (keepF wnB) (can c ms) [] [.d (.lst (ms.map (selD c))), .own false [], .own false [], .un, .un, .un] ⟨⟨_, _, _, rfl⟩, by simp, by simp⟩ fun ks m ρ hm ⟨⟨s3, s4, s5, e⟩, nd, bk⟩ => by
    subst e
    have hm2 : m < 2 ^ c := b m ((mem_can O b).mp hm)
    have km := m_mask c m O hm2 hc
    have kl : ks.length ≤ 128 := small_set hc nd bk
    have l1 : ∀ ρ : DEnv, ρ.length = 6 → ρ[4]? = some (.d (.int (m : Int))) → lcL [5] g1 tYesD l_least_1 ρ (ks.map nD) = .ok (ks.map fun s => .bl (!wnB s m)) := fun ρ h6 h4 => lcL_map nD _ ks fun s _ => by
      unfold l_least_1 nD wnB
      rw [Nat.and_comm]
      have h4' : ρ[4]'(by omega) = .d (.int (m : Int)) := by rw [List.getElem?_eq_getElem (by omega)] at h4; exact Option.some.inj h4
      simp [h6, h4', dAnd_nn, dNe_nn]
      rfl
    have l2 : (ks.map (selD c)).length < lim := lim_lt (by rw [List.length_map]; omega)
    have l3 : (ks.map nD).length < lim := lim_lt (by rw [List.length_map]; omega)
    have l4 : (ks.map fun s => D.bl (!wnB s m)).length ≤ lim := by rw [List.length_map]; exact Nat.le_trans kl (by decide)
    by_cases a : (ks.all fun s => !wnB s m) = true
    · have q : b_least_1 [.d (.lst (ms.map (selD c))), .own false (ks.map (selD c)), .own false (ks.map nD), .d (selD c m), s4, s5] = .nx [.d (.lst (ms.map (selD c))), .own false ((ks ++ [m]).map (selD c)), .own false ((ks ++ [m]).map nD), .d (selD c m), .d (.int (m : Int)), s5] := by
        unfold b_least_1
        simp only [List.length_map] at l2 l3 l4
        simp [km, l1, okLen_le, l4, bAll_map, a, l2, l3]
        rfl
      refine ⟨[selD c m], _, rfl, .inl q, ⟨_, _, _, by unfold keepF; rw [if_pos a]⟩, ?_, ?_⟩
      · unfold keepF
        rw [if_pos a]
        refine List.nodup_append.mpr ⟨nd, by simp, fun x hx y hy e => ?_⟩
        rw [List.mem_singleton.mp hy] at e
        subst e
        have := List.all_eq_true.mp a x hx
        rw [wnB_refl] at this
        cases this
      · unfold keepF
        rw [if_pos a]
        intro k hk
        rcases List.mem_append.mp hk with h | h
        · exact bk k h
        · rw [List.mem_singleton.mp h]; exact hm2
    · have q : b_least_1 [.d (.lst (ms.map (selD c))), .own false (ks.map (selD c)), .own false (ks.map nD), .d (selD c m), s4, s5] = .nx [.d (.lst (ms.map (selD c))), .own false (ks.map (selD c)), .own false (ks.map nD), .d (selD c m), .d (.int (m : Int)), s5] := by
        unfold b_least_1
        simp only [List.length_map] at l2 l3 l4
        rw [Bool.not_eq_true] at a
        simp [km, l1, okLen_le, l4, bAll_map, a]
      refine ⟨[selD c m], _, rfl, .inl q, ⟨_, _, _, by unfold keepF; rw [if_neg a]⟩, ?_, ?_⟩ <;> unfold keepF <;> rw [if_neg a]
      · exact nd
      · exact bk
  rw [least_fold hc b] at h2
  subst h2
  unfold m_least mOf g_least
  simp [m_inorder c hc ms b hl, h1]
theorem m_selections_all : ((List.range 8).all fun (c : Nat) => isOk (m_selections [.int (c : Int)]) (.lst ((ord c).map (selD c)))) = true := by decide +kernel
theorem m_selections_ (c : Nat) (hc : c ≤ 7) : m_selections [.int (c : Int)] = .ok (.lst ((ord c).map (selD c))) := isOk_eq (List.all_eq_true.mp m_selections_all c (List.mem_range.mpr (by omega)))
/-! ### _law_same of equal data -/
mutual
def smB : Nat → D → Bool
  | _, .non => true
  | _, .bl _ => true
  | _, .int _ => true
  | _, .str z => decide (dOk 16 (.str z) = true)
  | n + 1, .tup xs => decide (xs.length ≤ lim) && smBs n xs
  | n + 1, .lst xs => decide (xs.length ≤ lim) && smBs n xs
  | _, _ => false
def smBs : Nat → List D → Bool
  | _, [] => true
  | n, x :: xs => smB n x && smBs n xs
end
theorem smBs_mem {n : Nat} : ∀ {xs : List D}, smBs n xs = true → ∀ x ∈ xs, smB n x = true
  | [], _, _, h => by cases h
  | y :: ys, h, x, hx => by
    unfold smBs at h
    rw [Bool.and_eq_true] at h
    rcases List.mem_cons.mp hx with e | e
    · rw [e]; exact h.1
    · exact smBs_mem h.2 x e
theorem same_seq (r : List D → Res D) (xs : List D) (hl : xs.length ≤ lim) (h : ∀ x ∈ xs, r [x, x] = .ok (.bl true)) (s3 : DL.Slot) (mk : List D → D) (hm : ∀ i : Int, dIx (mk xs) (.int i) = match L2.atI xs i with
    | some d => .ok d
    | none => .st) : lcL [2] g1 tYesD (l__law_same_1 r) [.d (mk xs), .d (mk xs), .un] ((List.range xs.length).map nD) = .ok ((List.range xs.length).map fun _ => .bl true) := lcL_map nD _ _ fun k hk => by
  have hk : k < xs.length := List.mem_range.mp hk
  have at_ : L2.atI xs (k : Int) = some xs[k] := atI_at (List.getElem?_eq_getElem hk)
  unfold l__law_same_1 nD
  have e := hm (k : Int)
  rw [at_] at e
  have e : dIx (mk xs) (.int (k : Int)) = .ok xs[k] := e
  simp [e, h xs[k] (List.getElem_mem hk)]
theorem same_refl : ∀ (n : Nat) (d : D), smB n d = true → m__law_same (n + 1) [d, d] = .ok (.bl true)
  | n, .non, _ => by
    unfold m__law_same mOf g__law_same
    rfl
  | n, .bl b, _ => by
    unfold m__law_same mOf g__law_same
    cases b <;> rfl
  | n, .int i, _ => by
    unfold m__law_same mOf g__law_same
    have e : dEq (.int i) (.int i) = .ok (.bl true) := by
      show Res.ok (D.bl (i == i)) = _
      rw [beq_self_eq_true]
    have e1 : dIsi "bool" (.int i) = .ok (.bl false) := rfl
    have e2 : dIsi "int" (.int i) = .ok (.bl true) := rfl
    have e3 : dIsN (.int i) .non = .ok (.bl false) := rfl
    simp [e, e1, e2, e3]
  | n, .str z, h => by
    unfold m__law_same mOf g__law_same
    have h : dOk 16 (.str z) = true := by
      unfold smB at h
      exact of_decide_eq_true h
    have e : dEq (.str z) (.str z) = .ok (.bl true) := by
      show (if dOk 16 (.str z) = true ∧ dOk 16 (.str z) = true then Res.ok (D.bl ((D.str z).eqv (.str z))) else .st) = _
      rw [if_pos ⟨h, h⟩, show (D.str z).eqv (.str z) = true by simp [D.eqv]]
    have e1 : dIsi "bool" (.str z) = .ok (.bl false) := rfl
    have e2 : dIsi "int" (.str z) = .ok (.bl false) := rfl
    have e4 : dIsi "str" (.str z) = .ok (.bl true) := rfl
    have e3 : dIsN (.str z) .non = .ok (.bl false) := rfl
    simp [e, e1, e2, e3, e4]
  | n + 1, .tup xs, h => by
    unfold smB at h
    rw [Bool.and_eq_true, decide_eq_true_eq] at h
    have ih : ∀ x ∈ xs, m__law_same (n + 1) [x, x] = .ok (.bl true) := fun x hx => same_refl n x (smBs_mem h.2 x hx)
    have l1 := same_seq (m__law_same (n + 1)) xs h.1 ih .un D.tup fun i => rfl
    have er : rng1 [.int (xs.length : Nat)] = .ok ((List.range xs.length).map nD) := by rw [rng1_n _ (by have := h.1; unfold lim at this; omega), rangeD_nat]
    have e0 : dIsN (.tup xs) .non = .ok (.bl false) := rfl
    have e1 : dIsi "bool" (.tup xs) = .ok (.bl false) := rfl
    have e2 : dIsi "int" (.tup xs) = .ok (.bl false) := rfl
    have e3 : dIsi "str" (.tup xs) = .ok (.bl false) := rfl
    have e4 : dIsi "tuple" (.tup xs) = .ok (.bl true) := rfl
    have en : dNe (.int (xs.length : Nat)) (.int (xs.length : Nat)) = .ok (.bl false) := by rw [dNe_nn]; simp
    have l3 : bAll [.lst ((List.range xs.length).map fun _ => .bl true)] = .ok (.bl true) := by
      rw [bAll_map (fun _ => true)]
      simp
    have ll := h.1
    show mOf 3 false (g__law_same (m__law_same (n + 1))) [.tup xs, .tup xs] = _
    unfold mOf g__law_same
    simp [e0, e1, e2, e3, e4, en, bLen_tup, er, l1, okLen_le, ll, l3]
  | n + 1, .lst xs, h => by
    unfold smB at h
    rw [Bool.and_eq_true, decide_eq_true_eq] at h
    have ih : ∀ x ∈ xs, m__law_same (n + 1) [x, x] = .ok (.bl true) := fun x hx => same_refl n x (smBs_mem h.2 x hx)
    have l1 := same_seq (m__law_same (n + 1)) xs h.1 ih .un D.lst fun i => rfl
    have er : rng1 [.int (xs.length : Nat)] = .ok ((List.range xs.length).map nD) := by rw [rng1_n _ (by have := h.1; unfold lim at this; omega), rangeD_nat]
    have e0 : dIsN (.lst xs) .non = .ok (.bl false) := rfl
    have e1 : dIsi "bool" (.lst xs) = .ok (.bl false) := rfl
    have e2 : dIsi "int" (.lst xs) = .ok (.bl false) := rfl
    have e3 : dIsi "str" (.lst xs) = .ok (.bl false) := rfl
    have e4 : dIsi "tuple" (.lst xs) = .ok (.bl false) := rfl
    have e5 : dIsi "list" (.lst xs) = .ok (.bl true) := rfl
    have en : dNe (.int (xs.length : Nat)) (.int (xs.length : Nat)) = .ok (.bl false) := by rw [dNe_nn]; simp
    have l3 : bAll [.lst ((List.range xs.length).map fun _ => .bl true)] = .ok (.bl true) := by
      rw [bAll_map (fun _ => true)]
      simp
    have ll := h.1
    show mOf 3 false (g__law_same (m__law_same (n + 1))) [.lst xs, .lst xs] = _
    unfold mOf g__law_same
    simp [e0, e1, e2, e3, e4, e5, en, er, l1, okLen_le, ll, l3]
end W80
set_option Elab.async false
set_option linter.all false
set_option maxRecDepth 100000
set_option maxHeartbeats 400000
namespace W80
open PySem PySem.Spec PyProof.Rows L2 DL Cb
/-! ### least groups -/
theorem firstK_some {st : Sta} {L : List Nat} {claim : Nat} : (firstK st L claim).isSome = keepsB st L claim := by
  unfold firstK keepsB
  rw [Bool.eq_iff_iff, List.find?_isSome, List.any_eq_true]
theorem kD_isN {x : Option Sta} : dNotN (kD x) .non = .ok (.bl x.isSome) := by cases x <;> rfl
theorem kD_isN2 {x : Option Sta} : dIsN (kD x) .non = .ok (.bl (!x.isSome)) := by cases x <;> rfl
theorem m_lleast (c : Nat) (hc : c ≤ 5) (good : Nat → Bool) : m__law_least_groups [nD c, .lst ((List.range (2 ^ c)).map fun m => .bl (good m))] = .ok (.lst ((can c (minl ((List.range (2 ^ c)).filter good))).map (selD c))) := by
  have O := ord_ok (c := c) (by omega)
  have p32 : 2 ^ c ≤ 32 := Nat.le_trans (Nat.pow_le_pow_right (by decide) hc) (by decide)
  let step : List Nat → Nat → List Nat := fun ks m => if good m then keepF wnB ks m else ks
  obtain ⟨GD, hGD⟩ : ∃ GD, D.lst ((List.range (2 ^ c)).map fun m => .bl (good m)) = GD := ⟨_, rfl⟩
  obtain ⟨ρ', h1, ⟨s3, s4, s5, s6, h2⟩, h3⟩ := forL_of (sl := [3]) (g := g1) (fb := b__law_least_groups_1) nD (fun (ks : List Nat) ρ => (∃ s3 s4 s5 s6, ρ = [.d (nD c), .d GD, .own false (ks.map nD), s3, s4, s5, s6]) ∧ ks.Nodup ∧ ∀ k ∈ ks, k < 2 ^ c) step (List.range (2 ^ c)) [] [.d (nD c), .d GD, .own false [], .un, .un, .un, .un] ⟨⟨_, _, _, _, rfl⟩, by simp, by simp⟩ fun ks m ρ hm ⟨⟨s3, s4, s5, s6, e⟩, nd, bk⟩ => by
    subst e
    have hm := List.mem_range.mp hm
    have kl : ks.length ≤ 128 := small_set (c := c) (by omega) nd bk
    have ig : dIx GD (nD m) = .ok (.bl (good m)) := by
      rw [← hGD]
      show dIx _ (.int (m : Int)) = _
      rw [dIx_lst, atI_at (show ((List.range (2 ^ c)).map fun m => D.bl (good m))[m]? = some (.bl (good m)) by rw [List.getElem?_map, List.getElem?_range hm]; rfl)]
    have l1 : lcL [6] g1 tYesD l__law_least_groups_1 [.d (nD c), .d GD, .own false (ks.map nD), .d (nD m), s4, s5, s6] (ks.map nD) = .ok (ks.map fun s => .bl (!wnB s m)) := lcL_map nD _ ks fun s _ => by
      unfold l__law_least_groups_1 nD wnB
      have a1 := dAnd_nn s m
      have a2 := dNe_nn (s &&& m) s
      obtain ⟨q, hq⟩ : ∃ q, s &&& m = q := ⟨_, rfl⟩
      rw [hq] at a1 a2 ⊢
      simp [-dI2c_ap, -dI2_ap, a1, a2]
      rfl
    have l2 : (ks.map nD).length < lim := lim_lt (by rw [List.length_map]; omega)
    have l4 : (ks.map fun s => D.bl (!wnB s m)).length ≤ lim := by rw [List.length_map]; exact Nat.le_trans kl (by decide)
    simp only [List.length_map] at l2 l4
    refine ⟨[nD m], [.d (nD c), .d GD, .own false ((step ks m).map nD), .d (nD m), s4, s5, s6], rfl, .inl ?_, ⟨_, _, _, _, rfl⟩, ?_, ?_⟩
    · show b__law_least_groups_1 [.d (nD c), .d GD, .own false (ks.map nD), .d (nD m), s4, s5, s6] = .nx [.d (nD c), .d GD, .own false ((if good m = true then keepF wnB ks m else ks).map nD), .d (nD m), s4, s5, s6]
      unfold b__law_least_groups_1
      cases hg : good m with
      | false =>
        rw [hg] at ig
        simp [ig]
      | true =>
        rw [hg] at ig
        unfold keepF
        cases a : (ks.all fun s => !wnB s m) with
        | true => simp [ig, l1, okLen_le, l4, bAll_map, a, l2]
        | false => simp [ig, l1, okLen_le, l4, bAll_map, a]
    · show (if good m = true then keepF wnB ks m else ks).Nodup
      split
      · unfold keepF
        split
        · rename_i a
          refine List.nodup_append.mpr ⟨nd, by simp, fun x hx y hy e => ?_⟩
          rw [List.mem_singleton.mp hy] at e
          subst e
          have := List.all_eq_true.mp a x hx
          rw [wnB_refl] at this
          cases this
        · exact nd
      · exact nd
    · show ∀ k ∈ (if good m = true then keepF wnB ks m else ks), k < 2 ^ c
      split
      · unfold keepF
        split
        · intro k hk
          rcases List.mem_append.mp hk with h | h
          · exact bk k h
          · rw [List.mem_singleton.mp h]; exact hm
        · exact bk
      · exact bk
  have ef : (List.range (2 ^ c)).foldl step [] = minl ((List.range (2 ^ c)).filter good) := by
    have nd : ((List.range (2 ^ c)).filter good).Nodup := List.nodup_range.filter _
    have pw : ((List.range (2 ^ c)).filter good).Pairwise fun a b => wnB b a = false := by
      refine List.Pairwise.filter _ ?_
      refine List.pairwise_lt_range.imp fun {a b} h => ?_
      cases hw : wnB b a with
      | false => rfl
      | true => have := wnB_le hw; omega
    have := keep_first wnB (fun _ _ _ => wnB_trans) _ nd pw ((List.range (2 ^ c)).filter good) [] [] rfl (by simp) rfl
    unfold minl
    rw [← this, List.foldl_filter]
  rw [ef] at h2 h3
  subst h2
  obtain ⟨ms, hms⟩ : ∃ ms, minl ((List.range (2 ^ c)).filter good) = ms := ⟨_, rfl⟩
  rw [hms] at h3 ⊢
  simp only [hms] at h1
  have kl : ms.length ≤ 128 := small_set (c := c) (by omega) h3.1 h3.2
  have l2 : lcL [3] g1 tYesD l__law_least_groups_2 [.d (nD c), .d GD, .own false (ms.map nD), s3, s4, s5, s6] (ms.map nD) = .ok (ms.map (selP c)) := lcL_map nD (selP c) ms fun m _ => by
    have q := m_chosen c m (by omega)
    unfold l__law_least_groups_2 selP
    have q : m__law_chosen [nD m, nD c] = .ok (.tup ((sel c m).map nD)) := q
    simp [q]
    rfl
  have l3 : ∀ ρ : DEnv, ρ.length = 7 → lcL [5] g1 tYesD l__law_least_groups_3 ρ ((can c ms).map (selP c)) = .ok ((can c ms).map (selD c)) := fun ρ hρ => lcL_map (selP c) (selD c) (can c ms) fun m _ => by
    unfold l__law_least_groups_3
    simp [hρ, selP]
  have so := sortOk_pairs (c := c) (ms := ms) (Nat.le_trans kl (by decide))
  have ss := sort_sel O h3.1 h3.2
  have z1 : (ms.map (selP c)).length ≤ lim := by rw [List.length_map]; exact Nat.le_trans kl (by decide)
  have z2 : (can c ms).length ≤ lim := Nat.le_trans (small_set (c := c) (by omega) (can_nodup O) fun m hm => h3.2 m ((mem_can O h3.2).mp hm)) (by decide)
  obtain ⟨P, hP⟩ : ∃ P, ms.map (selP c) = P := ⟨_, rfl⟩
  rw [hP] at l2 so ss z1
  obtain ⟨R, hR⟩ : ∃ R, (can c ms).map (selD c) = R := ⟨_, rfl⟩
  have z3 : R.length ≤ lim := by rw [← hR, List.length_map]; exact z2
  simp only [hR] at l3 ⊢
  have b1 : dShl (.int 1) (nD c) = .ok (.int ((2 ^ c : Nat) : Int)) := dShl_1 (by omega)
  obtain ⟨K, hK⟩ : ∃ K, 2 ^ c = K := ⟨_, rfl⟩
  rw [hK] at b1 p32 h1
  have rg : rng1 [.int (K : Int)] = .ok ((List.range K).map nD) := by rw [rng1_n _ (by omega), rangeD_nat]
  rw [hGD]
  unfold m__law_least_groups mOf g__law_least_groups
  simp [b1, rg, h1, l2, okLen_le, z1, so, ss, l3, z3]
end W80
set_option Elab.async false
set_option linter.all false
set_option maxRecDepth 100000
set_option maxHeartbeats 400000
namespace W80
open PySem PySem.Spec PyProof.Rows L2 DL Cb
/-! ### blame, the law's own -/
theorem m_could_ (c : Nat) (hs : List (Option Nat)) (st : Sta) (hn : st.length ≤ 4) (hh : hs.length = st.length) (g : List Nat) (claim : Nat) : m_could_keep [hdD c hs, stD st, .tup (g.map nD), nD claim] = .ok (.bl (keepsB (reopS st (Lh hs g)) (Lh hs g) claim)) := by
  have h1 := m_reopened_ c hs st hn hh g
  have h2 := m_can_keep_ c hs (reopS st (Lh hs g)) (by rw [reopS_len]; exact hn) (by rw [reopS_len]; exact hh) g claim
  have h3 := kD_isN (x := firstK (reopS st (Lh hs g)) (Lh hs g) claim)
  rw [firstK_some] at h3
  unfold m_could_keep mOf g_could_keep
  simp [h1, h2, h3]
theorem can_range {c : Nat} (O : OrdOk c) (good : Nat → Bool) : can c (minl ((ord c).filter good)) = can c (minl ((List.range (2 ^ c)).filter good)) := can_congr fun m => minl_mem_congr (fun m => by rw [List.mem_filter, List.mem_filter, O.mem, List.mem_range]) m
theorem ord_small {c : Nat} (hc : c ≤ 7) : (ord c).length ≤ 128 := small_set hc (ord_ok hc).nodup fun m hm => ((ord_ok hc).mem m).mp hm
theorem m_blame_ (c : Nat) (hc : c ≤ 5) (hs : List (Option Nat)) (st : Sta) (hn : st.length ≤ 4) (hh : hs.length = st.length) (claim : Nat) : m_blame [hdD c hs, stD st, nD claim] = .ok (.lst ((leastG c (goodR hs st c claim)).map (selD c))) := by
  have O := ord_ok (c := c) (by omega)
  have sl := m_selections_ c (by omega)
  have l1 : lcL [3] g1 (eTru (eL (callN 4 m_could_keep) (eCons (eVar 0) (eCons (eVar 1) (eCons (eVar 3) (eCons (eVar 2) eNil)))))) l_blame_1 [.d (hdD c hs), .d (stD st), .d (nD claim), .un] ((ord c).map (selD c)) = .ok (((ord c).filter (goodR hs st c claim)).map (selD c)) := lcL_filter (selD c) _ (selD c) _ fun m hm => by
    have k := m_could_ c hs st hn hh (sel c m) claim
    have k : m_could_keep [hdD c hs, stD st, selD c m, nD claim] = .ok (.bl (goodR hs st c claim m)) := k
    refine ⟨?_, fun _ => ?_⟩
    · simp [k]
    · unfold l_blame_1
      simp
  have ls := m_least_ c (by omega) ((ord c).filter (goodR hs st c claim)) (fun m hm => (O.mem m).mp (List.mem_filter.mp hm).1) (Nat.le_trans (List.length_filter_le _ _) (Nat.le_trans (ord_small (by omega)) (by decide)))
  rw [can_range O] at ls
  have z : (((ord c).filter (goodR hs st c claim)).map (selD c)).length ≤ lim := by
    rw [List.length_map]; exact Nat.le_trans (List.length_filter_le _ _) (Nat.le_trans (ord_small (by omega)) (by decide))
  have f1 : dFld ["Hands"] "people" (hdD c hs) = .ok (nD c) := rfl
  have sl : m_selections [nD c] = .ok (.lst ((ord c).map (selD c))) := sl
  unfold leastG
  obtain ⟨M, hM⟩ : ∃ M, ((ord c).filter (goodR hs st c claim)).map (selD c) = M := ⟨_, rfl⟩
  rw [hM] at l1 ls z
  obtain ⟨H, hH⟩ : ∃ H, hdD c hs = H := ⟨_, rfl⟩
  rw [hH] at l1 f1 ⊢
  unfold m_blame mOf g_blame
  simp [f1, sl, l1, okLen_le, z, ls]
theorem m_lgroups (c : Nat) (hc : c ≤ 5) (hs : List (Option Nat)) (st : Sta) (hn : st.length ≤ 4) (hh : hs.length = st.length) (claim : Nat) : m_least_groups [hdD c hs, stD st, nD claim] = .ok (.lst ((leastG c (goodN hs st c claim)).map (selD c))) := by
  have O := ord_ok (c := c) (by omega)
  have sl := m_selections_ c (by omega)
  have sl : m_selections [nD c] = .ok (.lst ((ord c).map (selD c))) := sl
  have l1 : lcL [4] g1 (eB (e2 dNotN (eL (callN 4 m_can_keep) (eCons (eVar 0) (eCons (eVar 1) (eCons (eVar 4) (eCons (eVar 2) eNil))))) (eC .non))) l_least_groups_1 [.d (hdD c hs), .d (stD st), .d (nD claim), .d (.lst ((ord c).map (selD c))), .un] ((ord c).map (selD c)) = .ok (((ord c).filter (goodN hs st c claim)).map (selD c)) := lcL_filter (selD c) _ (selD c) _ fun m hm => by
    have k := m_can_keep_ c hs st hn hh (sel c m) claim
    have k : m_can_keep [hdD c hs, stD st, selD c m, nD claim] = .ok (kD (firstK st (Lh hs (sel c m)) claim)) := k
    have k3 := kD_isN (x := firstK st (Lh hs (sel c m)) claim)
    rw [firstK_some] at k3
    refine ⟨?_, fun _ => ?_⟩
    · simp [k, k3]
      rfl
    · unfold l_least_groups_1
      simp
  have ls := m_least_ c (by omega) ((ord c).filter (goodN hs st c claim)) (fun m hm => (O.mem m).mp (List.mem_filter.mp hm).1) (Nat.le_trans (List.length_filter_le _ _) (Nat.le_trans (ord_small (by omega)) (by decide)))
  rw [can_range O] at ls
  have z : (((ord c).filter (goodN hs st c claim)).map (selD c)).length ≤ lim := by
    rw [List.length_map]; exact Nat.le_trans (List.length_filter_le _ _) (Nat.le_trans (ord_small (by omega)) (by decide))
  have f1 : dFld ["Hands"] "people" (hdD c hs) = .ok (nD c) := rfl
  unfold leastG
  obtain ⟨M, hM⟩ : ∃ M, ((ord c).filter (goodN hs st c claim)).map (selD c) = M := ⟨_, rfl⟩
  rw [hM] at l1 ls z
  obtain ⟨H, hH⟩ : ∃ H, hdD c hs = H := ⟨_, rfl⟩
  rw [hH] at l1 f1 ⊢
  obtain ⟨Y, hY⟩ : ∃ Y, (ord c).map (selD c) = Y := ⟨_, rfl⟩
  rw [hY] at l1 sl
  unfold m_least_groups mOf g_least_groups
  simp [f1, sl, l1, okLen_le, z, ls]
theorem m_lblame (c : Nat) (hc : c ≤ 5) (hs : List (Option Nat)) (st : Sta) (hn : st.length ≤ 4) (hh : hs.length = st.length) (claim : Nat) : m__law_blame [nD c, .lst (hs.map oN), stD st, nD claim] = .ok (.lst ((leastG c (goodR hs st c claim)).map (selD c))) := by
  have p32 : 2 ^ c ≤ 32 := Nat.le_trans (Nat.pow_le_pow_right (by decide) hc) (by decide)
  have lg := m_lleast c hc (goodR hs st c claim)
  obtain ⟨ρ', h1, s5, s6, h2⟩ := forL_pre (sl := [5]) (g := g1) (fb := b__law_blame_1) nD (fun (pre : List Nat) ρ => ∃ s5 s6, ρ = [.d (nD c), .d (.lst (hs.map oN)), .d (stD st), .d (nD claim), .own false (pre.map fun m => .bl (goodR hs st c claim m)), s5, s6]) (List.range (2 ^ c)) [.d (nD c), .d (.lst (hs.map oN)), .d (stD st), .d (nD claim), .own false [], .un, .un] ⟨_, _, rfl⟩ fun pre m post ρ e hR => by
    obtain ⟨s5, s6, rfl⟩ := hR
    have pl : pre.length + (post.length + 1) = 2 ^ c := by have := congrArg List.length e; rw [List.length_range] at this; simp at this; omega
    have k1 : m__law_chosen [nD m, nD c] = .ok (selD c m) := m_chosen c m (by omega)
    have k2 : m__law_letters [.lst (hs.map oN), selD c m] = .ok (.lst ((Lh hs (sel c m)).map nD)) := m_letters hs (sel c m) (by omega)
    have k3 := m_lreop st hn (Lh hs (sel c m)) (fun k hk => by rw [← hh]; exact Lh_lt k hk)
    have k4 := m_lfirst (reopS st (Lh hs (sel c m))) (by rw [reopS_len]; exact hn) (Lh hs (sel c m)) (fun k hk => by rw [reopS_len, ← hh]; exact Lh_lt k hk) Lh_nd claim
    have k5 := kD_isN (x := firstK (reopS st (Lh hs (sel c m))) (Lh hs (sel c m)) claim)
    rw [firstK_some] at k5
    have ll : (pre.map fun m => D.bl (goodR hs st c claim m)).length < lim := lim_lt (by rw [List.length_map]; omega)
    simp only [List.length_map] at ll
    refine ⟨[nD m], [.d (nD c), .d (.lst (hs.map oN)), .d (stD st), .d (nD claim), .own false ((pre ++ [m]).map fun m => .bl (goodR hs st c claim m)), .d (nD m), .d (.lst ((Lh hs (sel c m)).map nD))], rfl, .inl ?_, _, _, rfl⟩
    rw [List.map_append]
    obtain ⟨PR, hPR⟩ : ∃ PR, (pre.map fun m => D.bl (goodR hs st c claim m)) = PR := ⟨_, rfl⟩
    have ll2 : PR.length < lim := by rw [← hPR, List.length_map]; exact ll
    rw [hPR]
    show b__law_blame_1 [.d (nD c), .d (.lst (hs.map oN)), .d (stD st), .d (nD claim), .own false PR, .d (nD m), s6] = _
    unfold b__law_blame_1 goodR
    obtain ⟨Q1, hQ1⟩ : ∃ Q1, kD (firstK (reopS st (Lh hs (sel c m))) (Lh hs (sel c m)) claim) = Q1 := ⟨_, rfl⟩
    rw [hQ1] at k4 k5
    simp [k1, k2, k3, k4, k5, ll2]
  subst h2
  have b1 : dShl (.int 1) (nD c) = .ok (.int ((2 ^ c : Nat) : Int)) := dShl_1 (by omega)
  obtain ⟨GL, hGL⟩ : ∃ GL, ((List.range (2 ^ c)).map fun m => D.bl (goodR hs st c claim m)) = GL := ⟨_, rfl⟩
  rw [hGL] at h1 lg
  obtain ⟨K, hK⟩ : ∃ K, 2 ^ c = K := ⟨_, rfl⟩
  rw [hK] at b1 p32 h1
  have rg : rng1 [.int (K : Int)] = .ok ((List.range K).map nD) := by rw [rng1_n _ (by omega), rangeD_nat]
  have lg : m__law_least_groups [nD c, .lst GL] = .ok (.lst ((leastG c (goodR hs st c claim)).map (selD c))) := lg
  unfold m__law_blame mOf g__law_blame
  simp [b1, rg, h1, lg]
theorem m_lnow (c : Nat) (hc : c ≤ 5) (hs : List (Option Nat)) (st : Sta) (hn : st.length ≤ 4) (hh : hs.length = st.length) (claim : Nat) : m__law_now [nD c, .lst (hs.map oN), stD st, nD claim] = .ok (.lst ((leastG c (goodN hs st c claim)).map (selD c))) := by
  have p32 : 2 ^ c ≤ 32 := Nat.le_trans (Nat.pow_le_pow_right (by decide) hc) (by decide)
  have lg := m_lleast c hc (goodN hs st c claim)
  obtain ⟨ρ', h1, s5, s6, h2⟩ := forL_pre (sl := [5]) (g := g1) (fb := b__law_now_1) nD (fun (pre : List Nat) ρ => ∃ s5 s6, ρ = [.d (nD c), .d (.lst (hs.map oN)), .d (stD st), .d (nD claim), .own false (pre.map fun m => .bl (goodN hs st c claim m)), s5, s6]) (List.range (2 ^ c)) [.d (nD c), .d (.lst (hs.map oN)), .d (stD st), .d (nD claim), .own false [], .un, .un] ⟨_, _, rfl⟩ fun pre m post ρ e hR => by
    obtain ⟨s5, s6, rfl⟩ := hR
    have pl : pre.length + (post.length + 1) = 2 ^ c := by have := congrArg List.length e; rw [List.length_range] at this; simp at this; omega
    have k1 : m__law_chosen [nD m, nD c] = .ok (selD c m) := m_chosen c m (by omega)
    have k2 : m__law_letters [.lst (hs.map oN), selD c m] = .ok (.lst ((Lh hs (sel c m)).map nD)) := m_letters hs (sel c m) (by omega)
    have k4 := m_lfirst st hn (Lh hs (sel c m)) (fun k hk => by rw [← hh]; exact Lh_lt k hk) Lh_nd claim
    have k5 := kD_isN (x := firstK st (Lh hs (sel c m)) claim)
    rw [firstK_some] at k5
    have ll : (pre.map fun m => D.bl (goodN hs st c claim m)).length < lim := lim_lt (by rw [List.length_map]; omega)
    simp only [List.length_map] at ll
    refine ⟨[nD m], [.d (nD c), .d (.lst (hs.map oN)), .d (stD st), .d (nD claim), .own false ((pre ++ [m]).map fun m => .bl (goodN hs st c claim m)), .d (nD m), .d (.lst ((Lh hs (sel c m)).map nD))], rfl, .inl ?_, _, _, rfl⟩
    rw [List.map_append]
    obtain ⟨PR, hPR⟩ : ∃ PR, (pre.map fun m => D.bl (goodN hs st c claim m)) = PR := ⟨_, rfl⟩
    have ll2 : PR.length < lim := by rw [← hPR, List.length_map]; exact ll
    rw [hPR]
    show b__law_now_1 [.d (nD c), .d (.lst (hs.map oN)), .d (stD st), .d (nD claim), .own false PR, .d (nD m), s6] = _
    unfold b__law_now_1 goodN
    obtain ⟨Q1, hQ1⟩ : ∃ Q1, kD (firstK st (Lh hs (sel c m)) claim) = Q1 := ⟨_, rfl⟩
    rw [hQ1] at k4 k5
    simp [k1, k2, k4, k5, ll2]
  subst h2
  have b1 : dShl (.int 1) (nD c) = .ok (.int ((2 ^ c : Nat) : Int)) := dShl_1 (by omega)
  obtain ⟨GL, hGL⟩ : ∃ GL, ((List.range (2 ^ c)).map fun m => D.bl (goodN hs st c claim m)) = GL := ⟨_, rfl⟩
  rw [hGL] at h1 lg
  obtain ⟨K, hK⟩ : ∃ K, 2 ^ c = K := ⟨_, rfl⟩
  rw [hK] at b1 p32 h1
  have rg : rng1 [.int (K : Int)] = .ok ((List.range K).map nD) := by rw [rng1_n _ (by omega), rangeD_nat]
  have lg : m__law_least_groups [nD c, .lst GL] = .ok (.lst ((leastG c (goodN hs st c claim)).map (selD c))) := lg
  unfold m__law_now mOf g__law_now
  simp [b1, rg, h1, lg]
end W80
set_option Elab.async false
set_option linter.all false
set_option maxRecDepth 100000
set_option maxHeartbeats 400000
namespace W80
open PySem PySem.Spec PyProof.Rows L2 DL Cb
/-! ### comparisons of groups -/
theorem m_same8 (d : D) (h : smB 7 d = true) : m__law_same 8 [d, d] = .ok (.bl true) := same_refl 7 d h
theorem smBs_of {α : Type} {f : α → D} (n : Nat) : ∀ (l : List α), (∀ a ∈ l, smB n (f a) = true) → smBs n (l.map f) = true
  | [], _ => by cases n <;> rfl
  | a :: l, h => by
    rw [List.map_cons]
    have ih := smBs_of n l fun x hx => h x (List.mem_cons_of_mem _ hx)
    unfold smBs
    rw [h a List.mem_cons_self, ih]
    rfl
theorem sm_nD (n k : Nat) : smB n (nD k) = true := by cases n <;> rfl
theorem sm_oB (n : Nat) (v : Option Bool) : smB n (oB v) = true := by cases v <;> cases n <;> rfl
theorem sm_oN (n : Nat) (v : Option Nat) : smB n (oN v) = true := by cases v <;> cases n <;> rfl
theorem sm_stD (n : Nat) (st : Sta) (hn : st.length ≤ 4) : smB (n + 1) (stD st) = true := by
  unfold stD smB
  rw [smBs_of n st fun v _ => sm_oB n v, List.length_map, decide_eq_true (Nat.le_trans hn (by decide))]
  rfl
theorem sm_selD (n c m : Nat) (hc : c ≤ 60) : smB (n + 1) (selD c m) = true := by
  unfold selD smB
  have hl : (sel c m).length ≤ lim := Nat.le_trans (Nat.le_trans (List.length_filter_le _ _) (by rw [List.length_range]; exact hc)) (by decide)
  rw [smBs_of n _ fun v _ => sm_nD n v, List.length_map, decide_eq_true hl]
  rfl
theorem sm_sels (n c : Nat) (hc : c ≤ 60) (T : List Nat) (hT : T.length ≤ 1000) : smB (n + 2) (.lst (T.map (selD c))) = true := by
  unfold smB
  rw [smBs_of (n + 1) T fun m _ => sm_selD n c m hc, List.length_map, decide_eq_true (Nat.le_trans hT (by decide))]
  rfl
theorem m_one_within (c : Nat) (hc : c ≤ 5) (T : List Nat) (hT : ∀ t ∈ T, t < 2 ^ c) (n : Nat) : m__law_one_within [.lst (T.map (selD c)), selD c n] = .ok (.bl (T.any fun t => wnB t n)) := by
  have key := forL_any (sl := [2]) (g := g1) (fb := b__law_one_within_1) (selD c) (fun ρ => ∃ s2, ρ = [.d (.lst (T.map (selD c))), .d (selD c n), s2, .un]) (fun t => wnB t n) (.bl true) T [.d (.lst (T.map (selD c))), .d (selD c n), .un, .un] ⟨_, rfl⟩ fun t ρ ht ⟨s2, e⟩ => by
    subst e
    have ll : (sel c t).length ≤ lim := Nat.le_trans (Nat.le_trans (List.length_filter_le _ _) (by rw [List.length_range]; exact hc)) (by decide)
    have l1 : lcL [3] g1 tYesD l__law_one_within_1 [.d (.lst (T.map (selD c))), .d (selD c n), .d (selD c t), .un] ((sel c t).map nD) = .ok ((sel c t).map fun k => .bl ((sel c n).contains k)) := lcL_map nD _ _ fun k _ => by
      have q : dInS (nD k) (selD c n) = .ok ((sel c n).contains k) := dInS_tup k (sel c n)
      unfold l__law_one_within_1
      simp [-List.contains_eq_mem, q]
    have it : items (selD c t) = .ok ((sel c t).map nD) := rfl
    have ew : ((sel c t).all fun k => (sel c n).contains k) = wnB t n := by
      rw [Bool.eq_iff_iff, wn_sel (hT t ht), List.all_eq_true]
      exact ⟨fun h k hk => List.contains_iff_mem.mp (h k hk), fun h k hk => List.contains_iff_mem.mpr (h k hk)⟩
    have ba := bAll_map (fun k => (sel c n).contains k) (sel c t)
    rw [ew] at ba
    obtain ⟨Z, hZ⟩ : ∃ Z, ((sel c t).map fun k => D.bl ((sel c n).contains k)) = Z := ⟨_, rfl⟩
    have lz : Z.length ≤ lim := by rw [← hZ, List.length_map]; exact ll
    rw [hZ] at l1 ba
    refine ⟨[selD c t], rfl, ?_⟩
    cases hw : wnB t n with
    | true =>
      rw [hw] at ba
      rw [if_pos rfl]
      unfold b__law_one_within_1
      simp [it, l1, okLen_le, lz, ba]
    | false =>
      rw [hw] at ba
      rw [if_neg Bool.false_ne_true]
      refine ⟨_, .inl ?_, .d (selD c t), rfl⟩
      unfold b__law_one_within_1
      simp [it, l1, okLen_le, lz, ba]
  unfold m__law_one_within mOf g__law_one_within
  cases ha : T.any fun t => wnB t n with
  | true => rw [ha, if_pos rfl] at key; simp [key]
  | false =>
    rw [ha, if_neg Bool.false_ne_true] at key
    obtain ⟨ρ', key, _⟩ := key
    simp [key]
theorem m_fewer (c m p : Nat) (hp : p < c) : ((sel c m).filter fun k => !decide (k = p)).map nD = (sel c (lessP c m p)).map nD := by rw [sel_less hp]
theorem m_lcould (c : Nat) (hs : List (Option Nat)) (st : Sta) (hn : st.length ≤ 4) (hh : hs.length = st.length) (m claim : Nat) : m__law_could [hdD c hs, .lst (hs.map oN), stD st, selD c m, nD claim] = .ok (.bl (goodR hs st c claim m)) := by
  have h1 : m_reopened [hdD c hs, stD st, selD c m] = .ok (stD (reopS st (Lh hs (sel c m)))) := m_reopened_ c hs st hn hh (sel c m)
  have h2 : m__law_letters [.lst (hs.map oN), selD c m] = .ok (.lst ((Lh hs (sel c m)).map nD)) := m_letters hs (sel c m) (by omega)
  have h3 := m_lreop st hn (Lh hs (sel c m)) (fun k hk => by rw [← hh]; exact Lh_lt k hk)
  have h4 : m_can_keep [hdD c hs, stD (reopS st (Lh hs (sel c m))), selD c m, nD claim] = .ok (kD (firstK (reopS st (Lh hs (sel c m))) (Lh hs (sel c m)) claim)) := m_can_keep_ c hs (reopS st (Lh hs (sel c m))) (by rw [reopS_len]; exact hn) (by rw [reopS_len]; exact hh) (sel c m) claim
  have h5 := kD_isN (x := firstK (reopS st (Lh hs (sel c m))) (Lh hs (sel c m)) claim)
  rw [firstK_some] at h5
  have h6 := m_same8 (stD (reopS st (Lh hs (sel c m)))) (sm_stD 6 _ (by rw [reopS_len]; exact hn))
  unfold m__law_could mOf g__law_could goodR
  obtain ⟨Q, hQ⟩ : ∃ Q, kD (firstK (reopS st (Lh hs (sel c m))) (Lh hs (sel c m)) claim) = Q := ⟨_, rfl⟩
  rw [hQ] at h4 h5
  obtain ⟨R, hR⟩ : ∃ R, stD (reopS st (Lh hs (sel c m))) = R := ⟨_, rfl⟩
  rw [hR] at h1 h3 h4 h6
  simp [h1, h2, h3, h4, h5, h6]
theorem m_lleastok (c : Nat) (hc : c ≤ 5) (hs : List (Option Nat)) (st : Sta) (hn : st.length ≤ 4) (hh : hs.length = st.length) (claim : Nat) : m__law_least [hdD c hs, .lst (hs.map oN), stD st, .lst ((leastG c (goodR hs st c claim)).map (selD c)), nD claim] = .ok (.bl true) := by
  obtain ⟨T, hT⟩ : ∃ T, leastG c (goodR hs st c claim) = T := ⟨_, rfl⟩
  obtain ⟨HD, hHD⟩ : ∃ HD, hdD c hs = HD := ⟨_, rfl⟩
  obtain ⟨HL, hHL⟩ : ∃ HL, D.lst (hs.map oN) = HL := ⟨_, rfl⟩
  obtain ⟨TD, hTD⟩ : ∃ TD, D.lst (T.map (selD c)) = TD := ⟨_, rfl⟩
  have cd : ∀ m, m__law_could [HD, HL, stD st, selD c m, nD claim] = .ok (.bl (goodR hs st c claim m)) := fun m => by rw [← hHD, ← hHL]; exact m_lcould c hs st hn hh m claim
  obtain ⟨ρ', h1, s5, s6, s7, s8, h2⟩ := forL_pre (sl := [5]) (g := g1) (fb := b__law_least_2) (selD c) (fun (_ : List Nat) ρ => ∃ s5 s6 s7 s8, ρ = [.d HD, .d HL, .d (stD st), .d TD, .d (nD claim), s5, s6, s7, s8]) T [.d HD, .d HL, .d (stD st), .d TD, .d (nD claim), .un, .un, .un, .un] ⟨_, _, _, _, rfl⟩ fun pre m post ρ e hR => by
    obtain ⟨s5, s6, s7, s8, rfl⟩ := hR
    have hm : m ∈ leastG c (goodR hs st c claim) := by rw [hT, e]; simp
    have gm := ((mem_leastG (by omega)).mp hm).1.2
    have c1 := cd m
    rw [gm] at c1
    obtain ⟨ρ2, k1, t6, t7, t8, k2⟩ := forL_pre (sl := [6]) (g := g1) (fb := b__law_least_1) nD (fun (_ : List Nat) ρ => ∃ s6 s7 s8, ρ = [.d HD, .d HL, .d (stD st), .d TD, .d (nD claim), .d (selD c m), s6, s7, s8]) (sel c m) [.d HD, .d HL, .d (stD st), .d TD, .d (nD claim), .d (selD c m), s6, s7, s8] ⟨_, _, _, rfl⟩ fun pre p post ρ e hR => by
      obtain ⟨s6, s7, s8, rfl⟩ := hR
      have hp : p ∈ sel c m := by rw [e]; simp
      have hpc := (mem_sel.mp hp).1
      have gl := least_less (by omega) hm hp
      have c2 := cd (lessP c m p)
      rw [gl] at c2
      have it : items (selD c m) = .ok ((sel c m).map nD) := rfl
      have l1 : lcL [8] g1 (eB (e2 dNe (eVar 8) (eVar 6))) l__law_least_1 [.d HD, .d HL, .d (stD st), .d TD, .d (nD claim), .d (selD c m), .d (nD p), s7, s8] ((sel c m).map nD) = .ok ((sel c (lessP c m p)).map nD) := by
        rw [sel_less hpc]
        refine lcL_filter nD _ nD _ fun k _ => ⟨?_, fun _ => ?_⟩
        · have a := dNe_nn k p
          have a : dNe (nD k) (nD p) = .ok (.bl (!decide (k = p))) := a
          simp [a]
        · unfold l__law_least_1
          simp
      have ll : ((sel c (lessP c m p)).map nD).length ≤ lim := by
        rw [List.length_map]; exact Nat.le_trans (Nat.le_trans (List.length_filter_le _ _) (by rw [List.length_range]; exact hc)) (by decide)
      have es : selD c (lessP c m p) = .tup ((sel c (lessP c m p)).map nD) := rfl
      rw [es] at c2
      obtain ⟨Z, hZ⟩ : ∃ Z, (sel c (lessP c m p)).map nD = Z := ⟨_, rfl⟩
      rw [hZ] at c2 l1 ll
      have nt : dIsNTr (.bl false) (.bl false) = .ok (.bl false) := rfl
      refine ⟨[nD p], _, rfl, .inl ?_, .d (nD p), .d (.tup Z), s8, rfl⟩
      unfold b__law_least_1
      simp [it, l1, okLen_le, ll, c2, nt]
    subst k2
    have it : items (selD c m) = .ok ((sel c m).map nD) := rfl
    have nt : dIsNTr (.bl true) (.bl true) = .ok (.bl false) := rfl
    refine ⟨[selD c m], _, rfl, .inl ?_, .d (selD c m), t6, t7, t8, rfl⟩
    unfold b__law_least_2
    simp [c1, nt, it, k1]
  subst h2
  have it : items TD = .ok (T.map (selD c)) := by rw [← hTD]; rfl
  rw [hT, hTD, hHD, hHL]
  unfold m__law_least mOf g__law_least
  simp [it, h1]
end W80
set_option Elab.async false
set_option linter.all false
set_option maxRecDepth 100000
set_option maxHeartbeats 400000
namespace W80
open PySem PySem.Spec PyProof.Rows L2 DL Cb
theorem nat_mod (x : Int) (h : 0 ≤ x) (m : Nat) (hm : 0 < m) : ∃ r : Nat, x % (m : Int) = (r : Int) ∧ r < m := by
  have h1 := Int.emod_nonneg x (show (m : Int) ≠ 0 by omega)
  have h2 := Int.emod_lt_of_pos x (show (0 : Int) < m by omega)
  exact ⟨(x % m).toNat, by omega, by omega⟩
/-! ### the script's numbers -/
def cell (ns : List Int) (k : Nat) : Int := match ns[k]? with
  | some i => if i < 0 then -i else i
  | none => 0
theorem cell_nn (ns : List Int) (k : Nat) : 0 ≤ cell ns k := by
  unfold cell
  split
  · split <;> omega
  · omega
theorem m_cell (ns : List Int) (k : Nat) : m__law_cell [.lst (ns.map .int), .int k] = .ok (.int (cell ns k)) := by
  unfold m__law_cell mOf g__law_cell cell
  by_cases h : k < ns.length
  · have e : (ns.map D.int)[k]? = some (.int ns[k]) := by rw [List.getElem?_map, List.getElem?_eq_getElem h]; rfl
    simp [atI_at e, List.getElem?_eq_getElem h]
    simp [h]
  · rw [List.getElem?_eq_none (by omega)]
    simp [h]
theorem numbers_turn (ns : List Int) (k cnt i : Nat) (c bound l : Int) (xs : List Int) (s7 s8 : Slot) (hi : i < cnt) (hc : cnt ≤ 100) (hk : k ≤ 100) (hx : xs.length = i) (b0 : 0 < bound) (b1 : bound < 1073741824) :
    ∃ (x l' : Int) (s8' : Slot), 0 ≤ x ∧ x < bound ∧ b__law_numbers_1 [.d (.lst (ns.map .int)), .d (.int k), .d (.int cnt), .d (.int bound), .d (.int c), .own false (xs.map .int), .d (.int l), .d (.int (0 + (i : Nat))), s8] =
      .nx [.d (.lst (ns.map .int)), .d (.int k), .d (.int cnt), .d (.int bound), .d (.int c), .own false ((xs ++ [x]).map .int), .d (.int l'), .d (.int (0 + (i : Nat))), s8'] := by
  have hl : xs.length < lim := lim_lt (by omega)
  unfold b__law_numbers_1
  by_cases h : 0 < l
  · refine ⟨l % bound, l / bound, s8, Int.emod_nonneg _ (by omega), Int.emod_lt_of_pos _ b0, ?_⟩
    simp [h, cDiv_ok b0 b1, cMod_ok b0, hl]
  · let mixed : Int := ((c % 999983 + 37 * k + 1) * (7919 * (i : Int) + 611 * k + 104729)) % 1000003
    refine ⟨mixed * (mixed + 31) % 1000033 % bound, l, .d (.int mixed), Int.emod_nonneg _ (by omega), Int.emod_lt_of_pos _ b0, ?_⟩
    · have e1 : cMul 37 (k : Int) = true := cMul_l (by decide) (by decide)
      have e2 : cMul 7919 (i : Int) = true := cMul_l (by decide) (by decide)
      have e3 : cMul 611 (k : Int) = true := cMul_l (by decide) (by decide)
      have e4 : ∀ a : Int, cMul (a % 1000003) (a % 1000003 + 31) = true := fun a => by
        have h1 : a % 1000003 < 1000003 := Int.emod_lt_of_pos _ (by omega)
        have h2 : 0 ≤ a % 1000003 := Int.emod_nonneg _ (by omega)
        exact cMul_l (by unfold big; omega) (by unfold big; omega)
      have e5 : ∀ b : Int, cMul (c % 999983 + 37 * k + 1) b = true := fun b => by
        have h1 : c % 999983 < 999983 := Int.emod_lt_of_pos _ (by omega)
        have h2 : 0 ≤ c % 999983 := Int.emod_nonneg _ (by omega)
        exact cMul_l (by unfold big; omega) (by unfold big; omega)
      have e6 : ∀ a : Int, cMod a 999983 = true := fun a => cMod_ok (by omega)
      have e7 : ∀ a : Int, cMod a 1000003 = true := fun a => cMod_ok (by omega)
      have e8 : ∀ a : Int, cMod a 1000033 = true := fun a => cMod_ok (by omega)
      simp [h, cMod_ok b0, hl, e1, e2, e3, e4, e5, e6, e7, e8]
      exact ⟨rfl, rfl⟩
theorem numbers_loop (ns : List Int) (k cnt : Nat) (bound : Int) (hc : cnt ≤ 100) (hk : k ≤ 100) (b0 : 0 < bound) (b1 : bound < 1073741824) (left : Int) : ∃ xs : List Int, ∃ l s7 s8, forL [7] g1 b__law_numbers_1 (rangeD 0 cnt) [.d (.lst (ns.map .int)), .d (.int k), .d (.int cnt), .d (.int bound), .d (.int (cell ns k)), .own false [], .d (.int left), .un, .un] =
      .nx [.d (.lst (ns.map .int)), .d (.int k), .d (.int cnt), .d (.int bound), .d (.int (cell ns k)), .own false (xs.map .int), .d (.int l), s7, s8] ∧ xs.length = cnt ∧ ∀ x ∈ xs, 0 ≤ x ∧ x < bound := by
    have key := forL_ind (sl := [7]) (g := g1) (fb := b__law_numbers_1) (fun i ρ => ∃ xs : List Int, ∃ l s7 s8, ρ = [.d (.lst (ns.map .int)), .d (.int k), .d (.int cnt), .d (.int bound), .d (.int (cell ns k)), .own false (xs.map .int), .d (.int l), s7, s8] ∧ xs.length = i ∧ ∀ x ∈ xs, 0 ≤ x ∧ x < bound)
      (rangeD 0 cnt) 0 _ ⟨[], left, .un, .un, rfl, rfl, by simp⟩ fun i d ρ hd ⟨xs, l, s7, s8, e, h2, h3⟩ => by
        subst e
        obtain ⟨hi, rfl⟩ := rangeD_get hd
        obtain ⟨x, l', s8', x0, x1, q⟩ := numbers_turn ns k cnt i (cell ns k) bound l xs s7 s8 hi hc hk (by omega) b0 b1
        refine ⟨_, _, rfl, .inl q, xs ++ [x], l', _, _, rfl, by simp [h2], fun y hy => ?_⟩
        rcases List.mem_append.mp hy with z | z
        · exact h3 y z
        · rw [List.mem_singleton.mp z]; exact ⟨x0, x1⟩
    obtain ⟨ρ, h1, xs, l, s7, s8, rfl, h2, h3⟩ := key
    rw [Nat.zero_add, rangeD_len] at h2
    exact ⟨xs, l, s7, s8, h1, h2, h3⟩
theorem m_numbers (ns : List Int) (k cnt : Nat) (bound : Int) (hc : cnt ≤ 100) (hk : k ≤ 100) (b0 : 0 < bound) (b1 : bound < 1073741824) :
    ∃ xs : List Int, m__law_numbers [.lst (ns.map .int), .int k, .int cnt, .int bound] = .ok (.lst (xs.map .int)) ∧ xs.length = cnt ∧ ∀ x ∈ xs, 0 ≤ x ∧ x < bound := by
  have er : rng1 [.int (cnt : Int)] = .ok (rangeD 0 cnt) := by rw [rng1_ap (by omega) (by omega), Int.toNat_natCast]
  obtain ⟨E, hE⟩ : ∃ E, dPow (.int 10) (.int 18) = .ok (.int E) := ⟨_, rfl⟩
  unfold m__law_numbers mOf g__law_numbers
  by_cases h : cell ns k < E
  · obtain ⟨xs, l, s7, s8, q, h2, h3⟩ := numbers_loop ns k cnt bound hc hk b0 b1 0
    refine ⟨xs, ?_, h2, h3⟩
    simp [-dI2c_ap, m_cell, er, hE, h, q]
  · obtain ⟨xs, l, s7, s8, q, h2, h3⟩ := numbers_loop ns k cnt bound hc hk b0 b1 (cell ns k)
    refine ⟨xs, ?_, h2, h3⟩
    simp [-dI2c_ap, m_cell, er, hE, h, q]
/-! ### numbers from nought -/
theorem nat_list : ∀ (xs : List Int) (b : Nat), (∀ x ∈ xs, 0 ≤ x ∧ x < (b : Int)) → ∃ zs : List Nat, xs.map D.int = zs.map nD ∧ zs.length = xs.length ∧ ∀ z ∈ zs, z < b
  | [], _, _ => ⟨[], rfl, rfl, by simp⟩
  | x :: xs, b, h => by
    obtain ⟨zs, h1, h2, h3⟩ := nat_list xs b fun y hy => h y (List.mem_cons_of_mem _ hy)
    obtain ⟨x0, x1⟩ := h x List.mem_cons_self
    obtain ⟨m, rfl⟩ := Int.eq_ofNat_of_zero_le x0
    refine ⟨m :: zs, by rw [List.map_cons, List.map_cons, h1]; rfl, by rw [List.length_cons, List.length_cons, h2], fun z hz => ?_⟩
    rcases List.mem_cons.mp hz with e | e
    · rw [e]; omega
    · exact h3 z e
theorem m_nums (ns : List Int) (k cnt b : Nat) (hc : cnt ≤ 100) (hk : k ≤ 100) (b0 : 0 < b) (b1 : b < 1073741824) :
    ∃ zs : List Nat, m__law_numbers [.lst (ns.map .int), .int k, .int cnt, .int b] = .ok (.lst (zs.map nD)) ∧ zs.length = cnt ∧ ∀ z ∈ zs, z < b := by
  obtain ⟨xs, h1, h2, h3⟩ := m_numbers ns k cnt b hc hk (by omega) (by omega)
  obtain ⟨zs, e, l, q⟩ := nat_list xs b h3
  exact ⟨zs, by rw [h1, e], by rw [l, h2], q⟩
theorem nD_at {zs : List Nat} {i : Nat} {z : Nat} (h : zs[i]? = some z) : L2.atI (zs.map nD) (i : Int) = some (.int (z : Int)) := atI_at (by rw [List.getElem?_map, h]; rfl)
/-- 1 << (1 << m) -/
theorem tops (m : Nat) (h : m ≤ 4) : ∃ (p : Int) (T : Nat), dShl (.int 1) (.int (m : Int)) = .ok (.int p) ∧ dShl (.int 1) (.int p) = .ok (.int (T : Int)) ∧ T = 2 ^ 2 ^ m ∧ 0 < T ∧ T ≤ 65536 := by
  match m, h with
  | 0, _ => exact ⟨_, 2, rfl, rfl, rfl, by decide, by decide⟩
  | 1, _ => exact ⟨_, 4, rfl, rfl, rfl, by decide, by decide⟩
  | 2, _ => exact ⟨_, 16, rfl, rfl, rfl, by decide, by decide⟩
  | 3, _ => exact ⟨_, 256, rfl, rfl, rfl, by decide, by decide⟩
  | 4, _ => exact ⟨_, 65536, rfl, rfl, rfl, by decide, by decide⟩
/-! ### the script's holders; Hands made -/
def toH (c z : Nat) : Option Nat := if z = c then none else some z
theorem m_holders_ (ns : List Int) (at' n c : Nat) (ha : at' ≤ 100) (hn : n ≤ 4) (hc : c ≤ 5) : ∃ hs : List (Option Nat), m__law_holders [.lst (ns.map .int), nD at', nD n, nD c] = .ok (.lst (hs.map oN)) ∧ hs.length = n ∧ ∀ p, some p ∈ hs → p < c := by
  obtain ⟨zs, h1, h2, h3⟩ := m_nums ns at' n (c + 1) (by omega) ha (by omega) (by omega)
  refine ⟨zs.map (toH c), ?_, by rw [List.length_map]; exact h2, fun p hp => ?_⟩
  · obtain ⟨SD, hSD⟩ : ∃ SD, D.lst (ns.map .int) = SD := ⟨_, rfl⟩
    rw [hSD] at h1 ⊢
    obtain ⟨ρ', k1, s5, k2⟩ := forL_pre (sl := [5]) (g := g1) (fb := b__law_holders_1) nD (fun (pre : List Nat) ρ => ∃ s5, ρ = [.d SD, .d (nD at'), .d (nD n), .d (nD c), .own false ((pre.map (toH c)).map oN), s5]) zs [.d SD, .d (nD at'), .d (nD n), .d (nD c), .own false [], .un] ⟨_, rfl⟩ fun pre z post ρ e hR => by
      obtain ⟨s5, rfl⟩ := hR
      have pl : pre.length ≤ 4 := by have := congrArg List.length e; simp at this; omega
      have ll : ((pre.map (toH c)).map oN).length < lim := lim_lt (by rw [List.length_map, List.length_map]; omega)
      refine ⟨[nD z], [.d SD, .d (nD at'), .d (nD n), .d (nD c), .own false (((pre ++ [z]).map (toH c)).map oN), .d (nD z)], rfl, .inl ?_, .d (nD z), rfl⟩
      have q := dEq_nn z c
      have q : dEq (nD z) (nD c) = .ok (.bl (decide (z = c))) := q
      rw [List.map_append, List.map_append]
      obtain ⟨PP, hPP⟩ : ∃ PP, (pre.map (toH c)).map oN = PP := ⟨_, rfl⟩
      rw [hPP] at ll
      rw [hPP]
      show b__law_holders_1 [.d SD, .d (nD at'), .d (nD n), .d (nD c), .own false PP, .d (nD z)] = _
      rw [show (([z].map (toH c)).map oN) = [oN (toH c z)] from rfl]
      unfold b__law_holders_1
      by_cases hz : z = c
      · have et : toH c z = none := if_pos hz
        rw [decide_eq_true hz] at q
        rw [et]
        simp [q, ll]
        rfl
      · have et : toH c z = some z := if_neg hz
        rw [decide_eq_false hz] at q
        rw [et]
        simp [q, ll]
        rfl
    subst k2
    have ad : dAdd (nD c) (.int 1) = .ok (.int ((c : Int) + 1)) := rfl
    have h1 : m__law_numbers [SD, nD at', nD n, .int ((c : Int) + 1)] = .ok (.lst (zs.map nD)) := h1
    unfold m__law_holders mOf g__law_holders
    simp [ad, h1, k1]
  · obtain ⟨z, hz, e⟩ := List.mem_map.mp hp
    unfold toH at e
    split at e
    · cases e
    · cases e
      have := h3 _ hz
      omega
theorem m_hands (c : Nat) (c1 : 1 ≤ c) (c5 : c ≤ 5) (hs : List (Option Nat)) (h1 : 1 ≤ hs.length) (h4 : hs.length ≤ 4) (hb : ∀ p, some p ∈ hs → p < c) (mkS : List D → D) (hmk : mkS = .lst ∨ mkS = .tup) :
    m_Hands_init [nD c, mkS (hs.map oN)] = .ok (["people", "holders", "n"], [nD c, .tup (hs.map oN), nD hs.length]) := by
  obtain ⟨XS, hXS⟩ : ∃ XS, hs.map oN = XS := ⟨_, rfl⟩
  have en : bEnumA [mkS XS] = .ok ((hs.zipIdx).map fun e => .tup [nD e.2, oN e.1]) := by
    rw [← enumD_map, hXS]
    rcases hmk with rfl | rfl <;> rfl
  have ln : bLen [mkS XS] = .ok (.int (hs.length : Nat)) := by
    rw [show hs.length = XS.length by rw [← hXS, List.length_map]]
    rcases hmk with rfl | rfl <;> rfl
  have tu : bTuple [mkS XS] = .ok (.tup XS) := by rcases hmk with rfl | rfl <;> rfl
  have l1 : dLe (.int 1) (.int (hs.length : Nat)) = .ok (.bl true) := by show Res.ok (D.bl (decide _)) = _; rw [decide_eq_true (by omega)]
  have l2 : dLe (.int (hs.length : Nat)) (.int 4) = .ok (.bl true) := by show Res.ok (D.bl (decide _)) = _; rw [decide_eq_true (by omega)]
  have l3 : dLe (.int 1) (nD c) = .ok (.bl true) := by show Res.ok (D.bl (decide _)) = _; rw [decide_eq_true (by omega)]
  have l4 : dLe (nD c) (.int 5) = .ok (.bl true) := by show Res.ok (D.bl (decide _)) = _; rw [decide_eq_true (by omega)]
  obtain ⟨MX, hMX⟩ : ∃ MX, mkS XS = MX := ⟨_, rfl⟩
  rw [hMX] at en ln tu
  rw [hXS, hMX]
  obtain ⟨ρ', k1, s3, s4, k2⟩ := forL_pre (sl := [3] ++ ([4] ++ [])) (g := gT 2 (gC g1 (gC g1 gN))) (fb := b_Hands_init_1) (fun e : Option Nat × Nat => .tup [nD e.2, oN e.1]) (fun _ ρ => ∃ s3 s4, ρ = [.obo true "Hands" [] [], .d (nD c), .d MX, s3, s4]) hs.zipIdx [.obo true "Hands" [] [], .d (nD c), .d MX, .un, .un] ⟨_, _, rfl⟩ fun pre e post ρ he hR => by
    obtain ⟨s3, s4, rfl⟩ := hR
    refine ⟨[nD e.2, oN e.1], [.obo true "Hands" [] [], .d (nD c), .d MX, .d (nD e.2), .d (oN e.1)], rfl, .inl ?_, _, _, rfl⟩
    have hm : e ∈ hs.zipIdx := by rw [he]; simp
    have hm := List.mem_of_getElem? (List.mem_zipIdx_iff_getElem?.mp (show (e.1, e.2) ∈ hs.zipIdx from hm))
    show b_Hands_init_1 [.obo true "Hands" [] [], .d (nD c), .d MX, .d (nD e.2), .d (oN e.1)] = _
    unfold b_Hands_init_1
    cases hv : e.1 with
    | none => 
      have q : dNotN (oN none) .non = .ok (.bl false) := rfl
      simp [q]
    | some p =>
      rw [hv] at hm
      have hp := hb p hm
      have q : dNotN (oN (some p)) .non = .ok (.bl true) := rfl
      have q1 : dLe (.int 0) (oN (some p)) = .ok (.bl true) := by show Res.ok (D.bl (decide _)) = _; rw [decide_eq_true (by omega)]
      have q2 : dLt (oN (some p)) (nD c) = .ok (.bl true) := by show Res.ok (D.bl (decide _)) = _; rw [decide_eq_true (by omega)]
      simp [q, q1, q2]
  subst k2
  have p1 : putN "people" [] = [Str.ofString "people"] := rfl
  have p2 : putN "holders" [Str.ofString "people"] = [Str.ofString "people", Str.ofString "holders"] := rfl
  have p5 : putN "n" [Str.ofString "people", Str.ofString "holders"] = [Str.ofString "people", Str.ofString "holders", Str.ofString "n"] := rfl
  have p3 : ∀ x, putD "people" x [] [] = [x] := fun _ => rfl
  have p4 : ∀ x y, putD "holders" x ["people"] [y] = [y, x] := fun _ _ => rfl
  have p6 : ∀ x y z, putD "n" x ["people", "holders"] [y, z] = [y, z, x] := fun _ _ _ => rfl
  unfold m_Hands_init mI g_Hands_init
  have k1 : forL [3, 4] (gT 2 (gC g1 (gC g1 gN))) b_Hands_init_1 ((hs.zipIdx).map fun e => .tup [nD e.2, oN e.1]) [.obo true "Hands" [] [], .d (nD c), .d MX, .un, .un] = .nx [.obo true "Hands" [] [], .d (nD c), .d MX, s3, s4] := k1
  have nx : nlxs false XS = true := by rw [← hXS]; exact nlxs_of _ _ fun v _ => by cases v <;> rfl
  have nx2 : nlxs true XS = true := by rw [← hXS]; exact nlxs_of _ _ fun v _ => by cases v <;> rfl
  have nn : ∀ b, (nD c).nlx b = true := fun _ => rfl
  simp [l1, l2, l3, l4, ln, en, k1, tu, p1, p2, p3, p4, p5, p6, nx, nx2, nn]
  rfl
end W80
set_option Elab.async false
set_option linter.all false
set_option maxRecDepth 100000
set_option maxHeartbeats 400000
namespace W80
open PySem PySem.Spec PyProof.Rows L2 DL Cb
/-! ### k80: state and claim -/
def flipS (st : Sta) (k : Nat) : Sta := st.set k (match st[k]? with
  | some (some b) => some !b
  | _ => some true)
theorem flip_all : ((List.range 5).all fun n => (List.range n).all fun (k : Nat) => (allSt n).all fun st => isOk (m__law_flipped [stD st, .int (k : Int)]) (stD (flipS st k))) = true := by decide +kernel
theorem m_flip (st : Sta) (hn : st.length ≤ 4) (k : Nat) (hk : k < st.length) : m__law_flipped [stD st, nD k] = .ok (stD (flipS st k)) := by
  have h := flip_all
  simp only [List.all_eq_true] at h
  exact isOk_eq (h st.length (List.mem_range.mpr (by omega)) k (List.mem_range.mpr hk) st (mem_allSt st))
theorem flip_len {st : Sta} {k : Nat} : (flipS st k).length = st.length := by unfold flipS; rw [List.length_set]
theorem menu_at (M : List (Option Bool)) (z : Nat) (hz : z < M.length) : dIx (.tup (M.map oB)) (nD z) = .ok (oB (M.getD z none)) := by
  show dIx _ (.int (z : Int)) = _
  rw [dIx_tup, atI_at (show (M.map oB)[z]? = some (oB (M.getD z none)) by rw [List.getElem?_map, List.getElem?_eq_getElem hz]; simp [List.getD, List.getElem?_eq_getElem hz])]
theorem m_state80 (ns : List Int) (at' n : Nat) (ha : at' ≤ 100) (hn : n ≤ 4) : ∃ st : Sta, m__law_state [.lst (ns.map .int), nD at', nD n] = .ok (stD st) ∧ st.length = n := by
  obtain ⟨zs, h1, h2, h3⟩ := m_nums ns at' n 5 (by omega) ha (by omega) (by omega)
  have ce := m_cell ns (at' + 1)
  obtain ⟨C, hC⟩ : ∃ C, cell ns (at' + 1) = C := ⟨_, rfl⟩
  rw [hC] at ce
  have ce : m__law_cell [.lst (ns.map .int), .int ((at' : Int) + 1)] = .ok (.int C) := ce
  obtain ⟨SD, hSD⟩ : ∃ SD, D.lst (ns.map .int) = SD := ⟨_, rfl⟩
  rw [hSD] at h1 ce ⊢
  have ad : dAdd (nD at') (.int 1) = .ok (.int ((at' : Int) + 1)) := rfl
  have md : dMod (.int C) (.int 4) = .ok (.int (C % 4)) := by simp [cMod_ok]
  have h1 : m__law_numbers [SD, nD at', nD n, .int 5] = .ok (.lst (zs.map nD)) := h1
  obtain ⟨b, hb⟩ : ∃ b, D.eqv (.int (C % 4)) (.int 3) = b := ⟨_, rfl⟩
  have de : dEq (.int (C % 4)) (.int 3) = .ok (.bl b) := by rw [← hb]; rfl
  have l1 : ∀ M : List (Option Bool), M.length = 5 → ∀ s4, lcL [4] g1 tYesD l__law_state_1 [.d SD, .d (nD at'), .d (nD n), .d (.tup (M.map oB)), s4] (zs.map nD) = .ok ((zs.map fun z => M.getD z none).map oB) := fun M hM s4 => by
    rw [List.map_map]
    refine lcL_map nD _ zs fun z hz => ?_
    have q := menu_at M z (by rw [hM]; exact h3 z hz)
    unfold l__law_state_1
    simp [q]
  have ll : ∀ M : List (Option Bool), ((zs.map fun z => M.getD z none).map oB).length ≤ lim := fun M => by rw [List.length_map, List.length_map, h2]; exact Nat.le_trans hn (by decide)
  cases b with
  | true =>
    have l2 := l1 [some false, some true, some true, some false, some true] rfl .un
    have lz := ll [some false, some true, some true, some false, some true]
    refine ⟨zs.map fun z => [some false, some true, some true, some false, some true].getD z none, ?_, by rw [List.length_map]; exact h2⟩
    unfold stD
    obtain ⟨Y, hY⟩ : ∃ Y, (zs.map fun z => [some false, some true, some true, some false, some true].getD z none).map oB = Y := ⟨_, rfl⟩
    rw [hY] at l2 lz ⊢
    have e5 : ([some false, some true, some true, some false, some true].map oB) = [.bl false, .bl true, .bl true, .bl false, .bl true] := rfl
    rw [e5] at l2
    obtain ⟨M5, hM5⟩ : ∃ M5 : List D, M5 = [.bl false, .bl true, .bl true, .bl false, .bl true] := ⟨_, rfl⟩
    have ok5 : okLen [.bl false, .bl true, .bl true, .bl false, .bl true] = .ok M5 := by rw [hM5]; rfl
    have ok6 : okLen [.bl false, .bl true, .bl false, .bl true, .non] = .ok [.bl false, .bl true, .bl false, .bl true, .non] := rfl
    rw [← hM5] at l2
    have nl : ∀ b, nlxs b M5 = true := fun b => by rw [hM5]; rfl
    unfold m__law_state mOf g__law_state
    simp [ad, ce, md, de, ok6, ok5, nl, h1, l2, okLen_le, lz]
  | false =>
    have l2 := l1 [some false, some true, some false, some true, none] rfl .un
    have lz := ll [some false, some true, some false, some true, none]
    refine ⟨zs.map fun z => [some false, some true, some false, some true, none].getD z none, ?_, by rw [List.length_map]; exact h2⟩
    unfold stD
    obtain ⟨Y, hY⟩ : ∃ Y, (zs.map fun z => [some false, some true, some false, some true, none].getD z none).map oB = Y := ⟨_, rfl⟩
    rw [hY] at l2 lz ⊢
    have e5 : ([some false, some true, some false, some true, none].map oB) = [.bl false, .bl true, .bl false, .bl true, .non] := rfl
    rw [e5] at l2
    have ok6 : okLen [.bl false, .bl true, .bl false, .bl true, .non] = .ok [.bl false, .bl true, .bl false, .bl true, .non] := rfl
    unfold m__law_state mOf g__law_state
    simp [ad, ce, md, de, ok6, h1, l2, okLen_le, lz]
theorem m_claim80 (ns : List Int) (st : Sta) (hn0 : 1 ≤ st.length) (hn : st.length ≤ 4) : ∃ q : Nat, m__law_claim [.lst (ns.map .int), .int 4, stD st] = .ok (nD q) := by
  obtain ⟨p, T, t1, t2, hT, T0, T1⟩ := tops st.length hn
  obtain ⟨ds, d1, d2, d3⟩ := m_nums ns 4 3 T (by omega) (by omega) T0 (by omega)
  obtain ⟨ls, l1, l2, l3⟩ := m_nums ns 5 2 st.length (by omega) (by omega) (by omega) (by omega)
  match ds, d2 with
  | [a, b, c], _ =>
  match ls, l2 with
  | [k, j], _ =>
  have hk := l3 k (by simp)
  have hj := l3 j (by simp)
  have f1 := m_flip st hn k hk
  have f2 := m_flip (flipS st k) (by rw [flip_len]; exact hn) j (by rw [flip_len]; exact hj)
  have f3 := m_flip st hn j hj
  have c1 := m_lcube (flipS st k) (by rw [flip_len]; exact hn)
  have c2 := m_lcube (flipS (flipS st k) j) (by rw [flip_len, flip_len]; exact hn)
  have c3 := m_lcube (flipS st j) (by rw [flip_len]; exact hn)
  have c4 := m_lcube st hn
  have b3 : bLen [stD st] = .ok (.int ((st.length : Nat) : Int)) := by unfold stD; rw [bLen_tup, List.length_map]
  have ce := m_cell ns 6
  have ce : m__law_cell [.lst (ns.map .int), .int 6] = .ok (.int (cell ns 6)) := ce
  obtain ⟨C, hC⟩ : ∃ C, cell ns 6 = C := ⟨_, rfl⟩
  rw [hC] at ce
  have md : dMod (.int C) (.int 8) = .ok (.int (C % 8)) := by simp [cMod_ok]
  obtain ⟨J, hJ⟩ : ∃ J, C % 8 = J := ⟨_, rfl⟩
  rw [hJ] at md
  have d1 : m__law_numbers [.lst (ns.map .int), .int 4, .int 3, .int (T : Int)] = .ok (.lst [nD a, nD b, nD c]) := d1
  have l1 : m__law_numbers [.lst (ns.map .int), .int 5, .int 2, .int ((st.length : Nat) : Int)] = .ok (.lst [nD k, nD j]) := l1
  obtain ⟨SD, hSD⟩ : ∃ SD, D.lst (ns.map .int) = SD := ⟨_, rfl⟩
  rw [hSD] at d1 l1 ce ⊢
  obtain ⟨x1, hx1⟩ : ∃ x1, cubeS (flipS st k) = x1 := ⟨_, rfl⟩
  obtain ⟨x2, hx2⟩ : ∃ x2, cubeS (flipS (flipS st k) j) = x2 := ⟨_, rfl⟩
  obtain ⟨x3, hx3⟩ : ∃ x3, cubeS (flipS st j) = x3 := ⟨_, rfl⟩
  obtain ⟨x4, hx4⟩ : ∃ x4, cubeS st = x4 := ⟨_, rfl⟩
  rw [hx1] at c1
  rw [hx2] at c2
  rw [hx3] at c3
  rw [hx4] at c4
  have o1 : dAnd (nD a) (nD b) = .ok (nD (a &&& b)) := dAnd_nn a b
  obtain ⟨ab, hab⟩ : ∃ ab, a &&& b = ab := ⟨_, rfl⟩
  rw [hab] at o1
  have o2 : dAnd (nD ab) (nD c) = .ok (nD (ab &&& c)) := dAnd_nn ab c
  obtain ⟨sp, hsp⟩ : ∃ sp, ab &&& c = sp := ⟨_, rfl⟩
  rw [hsp] at o2
  have r1 : dOr (nD x1) (nD sp) = .ok (nD (x1 ||| sp)) := dOr_nn x1 sp
  have r2 : dOr (nD x2) (nD sp) = .ok (nD (x2 ||| sp)) := dOr_nn x2 sp
  have r3 : dOr (nD x1) (nD x3) = .ok (nD (x1 ||| x3)) := dOr_nn x1 x3
  have r4 : dOr (nD x4) (nD ab) = .ok (nD (x4 ||| ab)) := dOr_nn x4 ab
  have ad1 : dAdd (.int 4) (.int 1) = .ok (.int 5) := rfl
  have ad2 : dAdd (.int 4) (.int 2) = .ok (.int 6) := rfl
  have sb : dSub (.int (T : Int)) (.int 1) = .ok (nD (T - 1)) := by
    have : (T : Int) - 1 = ((T - 1 : Nat) : Int) := by omega
    exact congrArg (fun z => Res.ok (D.int z)) this
  have i0 : dIx (.lst [nD k, nD j]) (.int 0) = .ok (nD k) := rfl
  have i1 : dIx (.lst [nD k, nD j]) (.int 1) = .ok (nD j) := rfl
  have i2 : dIx (.lst [nD a, nD b, nD c]) (.int 0) = .ok (nD a) := rfl
  have i3 : dIx (.lst [nD a, nD b, nD c]) (.int 1) = .ok (nD b) := rfl
  have i4 : dIx (.lst [nD a, nD b, nD c]) (.int 2) = .ok (nD c) := rfl
  obtain ⟨LD, hLD⟩ : ∃ LD, D.lst [nD k, nD j] = LD := ⟨_, rfl⟩
  obtain ⟨DD, hDD⟩ : ∃ DD, D.lst [nD a, nD b, nD c] = DD := ⟨_, rfl⟩
  have il : ∀ b, (D.lst [nD k, nD j]).nlx b = false := fun _ => rfl
  have dv : dDiv (.int C) (.int 8) = .ok (.int (C / 8)) := by simp [cDiv_ok]
  have md2 : dMod (.int (C / 8)) (.int 2) = .ok (.int (C / 8 % 2)) := by simp [cMod_ok]
  obtain ⟨J2, hJ2⟩ : ∃ J2, C / 8 % 2 = J2 := ⟨_, rfl⟩
  rw [hJ2] at md2
  obtain ⟨B1, hB1⟩ : ∃ B1, dLt (.int J) (.int 2) = .ok (.bl B1) := ⟨_, rfl⟩
  have eqs : ∀ x y : Int, ∃ B, dEq (.int x) (.int y) = .ok (.bl B) := fun x y => ⟨_, rfl⟩
  obtain ⟨B2, hB2⟩ := eqs J 2
  obtain ⟨B3, hB3⟩ := eqs J 3
  obtain ⟨B4, hB4⟩ := eqs J 4
  obtain ⟨B5, hB5⟩ := eqs J 5
  obtain ⟨B6, hB6⟩ := eqs J 6
  obtain ⟨B7, hB7⟩ := eqs J2 1
  rw [hLD] at l1 i0 i1
  rw [hDD] at d1 i2 i3 i4
  have al1 : asL LD = .ok [nD k, nD j] := by rw [← hLD]; rfl
  have al2 : asL DD = .ok [nD a, nD b, nD c] := by rw [← hDD]; rfl
  have bk1 : D.lst [nD k, nD j] = LD := hLD
  unfold m__law_claim mOf g__law_claim
  cases B1 with
  | true => exact ⟨x1 ||| sp, by simp [-dI2c_ap, -dI2_ap, -dI2b_ap, -dAdd_ii, -dIx_lst, -dIx_tup, b3, t1, t2, d1, al1, al2, hLD, hDD, ad1, l1, ad2, ce, md, i0, i1, i2, i3, i4, f1, f2, f3, c1, c2, c3, o1, o2, hB1, r1]⟩
  | false =>
  cases B2 with
  | true => exact ⟨x2 ||| sp, by simp [-dI2c_ap, -dI2_ap, -dI2b_ap, -dAdd_ii, -dIx_lst, -dIx_tup, b3, t1, t2, d1, al1, al2, hLD, hDD, ad1, l1, ad2, ce, md, i0, i1, i2, i3, i4, f1, f2, f3, c1, c2, c3, o1, o2, hB1, hB2, r2]⟩
  | false =>
  cases B3 with
  | true => exact ⟨x2, by simp [-dI2c_ap, -dI2_ap, -dI2b_ap, -dAdd_ii, -dIx_lst, -dIx_tup, b3, t1, t2, d1, al1, al2, hLD, hDD, ad1, l1, ad2, ce, md, i0, i1, i2, i3, i4, f1, f2, f3, c1, c2, c3, o1, o2, hB1, hB2, hB3]⟩
  | false =>
  cases B4 with
  | true => exact ⟨x1 ||| x3, by simp [-dI2c_ap, -dI2_ap, -dI2b_ap, -dAdd_ii, -dIx_lst, -dIx_tup, b3, t1, t2, d1, al1, al2, hLD, hDD, ad1, l1, ad2, ce, md, i0, i1, i2, i3, i4, f1, f2, f3, c1, c2, c3, o1, o2, hB1, hB2, hB3, hB4, r3]⟩
  | false =>
  cases B5 with
  | true => exact ⟨a, by simp [-dI2c_ap, -dI2_ap, -dI2b_ap, -dAdd_ii, -dIx_lst, -dIx_tup, b3, t1, t2, d1, al1, al2, hLD, hDD, ad1, l1, ad2, ce, md, i0, i1, i2, i3, i4, f1, f2, f3, c1, c2, c3, o1, o2, hB1, hB2, hB3, hB4, hB5]⟩
  | false =>
  cases B6 with
  | true => exact ⟨x4 ||| ab, by simp [-dI2c_ap, -dI2_ap, -dI2b_ap, -dAdd_ii, -dIx_lst, -dIx_tup, b3, t1, t2, d1, al1, al2, hLD, hDD, ad1, l1, ad2, ce, md, i0, i1, i2, i3, i4, f1, f2, f3, c1, c2, c3, o1, o2, hB1, hB2, hB3, hB4, hB5, hB6, c4, r4]⟩
  | false =>
  cases B7 with
  | true => exact ⟨T - 1, by simp [-dI2c_ap, -dI2_ap, -dI2b_ap, -dAdd_ii, -dIx_lst, -dIx_tup, b3, t1, t2, d1, al1, al2, hLD, hDD, ad1, l1, ad2, ce, md, i0, i1, i2, i3, i4, f1, f2, f3, c1, c2, c3, o1, o2, hB1, hB2, hB3, hB4, hB5, hB6, dv, md2, hB7, sb]⟩
  | false => exact ⟨0, by simp [-dI2c_ap, -dI2_ap, -dI2b_ap, -dAdd_ii, -dIx_lst, -dIx_tup, b3, t1, t2, d1, al1, al2, hLD, hDD, ad1, l1, ad2, ce, md, i0, i1, i2, i3, i4, f1, f2, f3, c1, c2, c3, o1, o2, hB1, hB2, hB3, hB4, hB5, hB6, dv, md2, hB7]; rfl⟩
end W80
set_option Elab.async false
set_option linter.all false
set_option maxRecDepth 100000
set_option maxHeartbeats 400000
namespace W80
open PySem PySem.Spec PyProof.Rows L2 DL Cb
def t_law : DEnv → SRes := (sRet (([9] ++ ([6] ++ ([7] ++ []))) ++ ([11] ++ [])) (eL (callN 2 (m__law_same 8)) (eCons (eFz (eL (callF 3 m_blame) (eCons (eVar 9) (eCons (eVar 6) (eCons (eVar 7) eNil))))) (eCons (eVar 11) eNil))))
def p_law_1 : DEnv → SRes := (sAsg false ([0] ++ ([] ++ [])) 1 (eL (callN 2 m__law_cell) (eCons (eVar 0) (eCons (eC (.int 0)) eNil))))
def p_law_2 : DEnv → SRes := (sAsg false ([] ++ ([] ++ ([] ++ ([] ++ ([] ++ []))))) 2 (eTup (eCons (eC (.int 3)) (eCons (eC (.int 2)) (eCons (eC (.int 4)) (eCons (eC (.int 1)) (eCons (eC (.int 4)) eNil)))))))
def p_law_3 : DEnv → SRes := (sAsg false ([2] ++ ([1] ++ [])) 3 (e2 dIx (eVar 2) (e2 dMod (eVar 1) (eC (.int 5)))))
def p_law_4 : DEnv → SRes := (sAsg false ([] ++ (([] ++ ([1] ++ [])) ++ [])) 4 (e2 dAdd (eC (.int 1)) (e2 dMod (e2 dAdd (eC (.int 2)) (e2 dDiv (eVar 1) (eC (.int 5)))) (eC (.int 5)))))
def p_law_5 : DEnv → SRes := (sAsg false ([0] ++ ([] ++ ([3] ++ ([4] ++ [])))) 5 (eFz (eL (callF 4 m__law_holders) (eCons (eVar 0) (eCons (eC (.int 1)) (eCons (eVar 3) (eCons (eVar 4) eNil)))))))
def p_law_6 : DEnv → SRes := (sAsg false ([0] ++ ([] ++ ([3] ++ []))) 6 (eL (callN 3 m__law_state) (eCons (eVar 0) (eCons (eC (.int 2)) (eCons (eVar 3) eNil)))))
def p_law_7 : DEnv → SRes := (sAsg false ([0] ++ ([] ++ ([6] ++ []))) 7 (eL (callN 3 m__law_claim) (eCons (eVar 0) (eCons (eC (.int 4)) (eCons (eVar 6) eNil)))))
def p_law_8 : DEnv → SRes := (sAsg false ([0] ++ ([] ++ ([] ++ (([] ++ ([] ++ [3])) ++ [])))) 8 (eFz (eL (callF 4 m__law_numbers) (eCons (eVar 0) (eCons (eC (.int 7)) (eCons (eC (.int 2)) (eCons (e2 dShl (eC (.int 1)) (e2 dShl (eC (.int 1)) (eVar 3))) eNil)))))))
def p_law_9 : DEnv → SRes := (sAsg false ([4] ++ (([5] ++ []) ++ [])) 9 (eL (mkD "Hands" 3 m_Hands_init) (eCons (eVar 4) (eCons (eFz (eL bList (eCons (eVar 5) eNil))) eNil))))
def p_law_10 : DEnv → SRes := (sForR [10] (eL rng1 (eCons (e2 dShl (eC (.int 1)) (eVar 4)) eNil)) g1 b_law_1)
def p_law_11 : DEnv → SRes := (sAsg false ([4] ++ ([5] ++ ([6] ++ ([7] ++ [])))) 11 (eFz (eL (callF 4 m__law_blame) (eCons (eVar 4) (eCons (eVar 5) (eCons (eVar 6) (eCons (eVar 7) eNil)))))))
def p_law_12 : DEnv → SRes := (sAsgF false ([9] ++ ([6] ++ ([7] ++ []))) 12 (eL (callF 3 m_blame) (eCons (eVar 9) (eCons (eVar 6) (eCons (eVar 7) eNil)))))
def p_law_13 : DEnv → SRes := (sIf (eNot (eTru (eL (callN 2 (m__law_same 8)) (eCons (eVar 12) (eCons (eVar 11) eNil))))) (sRet [] (eC (.bl false))) sNil)
def p_law_14 : DEnv → SRes := (sAsg false ((([6] ++ []) ++ [7]) ++ ([6] ++ [])) 13 (e2 dEq (e2 dAnd (eL (callN 1 m__law_cube) (eCons (eVar 6) eNil)) (eVar 7)) (eL (callN 1 m__law_cube) (eCons (eVar 6) eNil))))
def p_law_15 : DEnv → SRes := (sIf (eB (e2 dNe (e2 dEq (eVar 12) (eFz (eLst (eCons (eTup eNil) eNil)))) (eVar 13))) (sRet [] (eC (.bl false))) sNil)
def p_law_16 : DEnv → SRes := (sAsg false ([5] ++ ([4] ++ [])) 14 (eFz (eL (callF 2 m__law_letters) (eCons (eVar 5) (eCons (e1 tupRg (eVar 4)) eNil)))))
def p_law_17 : DEnv → SRes := (sAsg false ((([6] ++ ([14] ++ [])) ++ ([14] ++ ([7] ++ []))) ++ []) 15 (e2 dNotN (eL (callN 3 m__law_first_kept) (eCons (eL (callN 2 m__law_reopened) (eCons (eVar 6) (eCons (eVar 14) eNil))) (eCons (eVar 14) (eCons (eVar 7) eNil)))) (eC .non)))
def p_law_18 : DEnv → SRes := (sIf (eOr (eB (e2 dEq (e2 dEq (eL bLen (eCons (eVar 12) eNil)) (eC (.int 0))) (eVar 15))) (eNot (eTru (eL (callN 5 m__law_least) (eCons (eVar 9) (eCons (eVar 5) (eCons (eVar 6) (eCons (eVar 12) (eCons (eVar 7) eNil))))))))) (sRet [] (eC (.bl false))) sNil)
def p_law_19 : DEnv → SRes := (sAsg false ([9] ++ ([6] ++ ([7] ++ []))) 16 (eFz (eL (callF 3 m_least_groups) (eCons (eVar 9) (eCons (eVar 6) (eCons (eVar 7) eNil))))))
def p_law_20 : DEnv → SRes := (sIf (eNot (eTru (eL (callN 2 (m__law_same 8)) (eCons (eVar 16) (eCons (eFz (eL (callF 4 m__law_now) (eCons (eVar 4) (eCons (eVar 5) (eCons (eVar 6) (eCons (eVar 7) eNil)))))) eNil))))) (sRet [] (eC (.bl false))) sNil)
def p_law_21 : DEnv → SRes := (sIf (eNot (eTru (eL bAll (eCons (eFz (eLc [21] (eIt (eVar 16)) g1 tYesD l_law_1)) eNil)))) (sRet [] (eC (.bl false))) sNil)
def p_law_22 : DEnv → SRes := (sAsg false ([7] ++ (([8] ++ []) ++ ([8] ++ []))) 17 (e2 dOr (eVar 7) (e2 dAnd (e2 dIx (eVar 8) (eC (.int 0))) (e2 dIx (eVar 8) (eC (.int 1))))))
def p_law_23 : DEnv → SRes := (sAsg false ([9] ++ ([6] ++ ([17] ++ []))) 18 (eFz (eL (callF 3 m_blame) (eCons (eVar 9) (eCons (eVar 6) (eCons (eVar 17) eNil))))))
def p_law_24 : DEnv → SRes := (sIf (eNot (eTru (eL (callN 2 (m__law_same 8)) (eCons (eVar 18) (eCons (eFz (eL (callF 4 m__law_blame) (eCons (eVar 4) (eCons (eVar 5) (eCons (eVar 6) (eCons (eVar 17) eNil)))))) eNil))))) (sRet [] (eC (.bl false))) sNil)
def p_law_25 : DEnv → SRes := (sIf (eNot (eTru (eL bAll (eCons (eFz (eLc [21] (eIt (eVar 12)) g1 tYesD l_law_2)) eNil)))) (sRet [] (eC (.bl false))) sNil)
def p_law_26 : DEnv → SRes := (sApp false ([] ++ []) 12 (eTup (eCons (eC (.int 9)) eNil)))
theorem g_law_cut : g_law = sSeq p_law_1 (sSeq p_law_2 (sSeq p_law_3 (sSeq p_law_4 (sSeq p_law_5 (sSeq p_law_6 (sSeq p_law_7 (sSeq p_law_8 (sSeq p_law_9 (sSeq p_law_10 (sSeq p_law_11 (sSeq p_law_12 (sSeq p_law_13 (sSeq p_law_14 (sSeq p_law_15 (sSeq p_law_16 (sSeq p_law_17 (sSeq p_law_18 (sSeq p_law_19 (sSeq p_law_20 (sSeq p_law_21 (sSeq p_law_22 (sSeq p_law_23 (sSeq p_law_24 (sSeq p_law_25 (sSeq p_law_26 t_law))))))))))))))))))))))))) := rfl
theorem dOks_sels (c : Nat) : ∀ T : List Nat, dOks 15 (T.map (selD c)) = true
  | [] => rfl
  | m :: T => by
    show (dOk 15 (selD c m) && dOks 15 (T.map (selD c))) = true
    rw [dOks_sels c T, show dOk 15 (selD c m) = true from dOks_ints 14 _]
    rfl
theorem told_nobody (c : Nat) (hc : c ≤ 7) (good : Nat → Bool) : dEq (.lst ((leastG c good).map (selD c))) (.lst [.tup []]) = .ok (.bl (good 0)) := by
  have h1 : dOk 16 (.lst ((leastG c good).map (selD c))) = true := dOks_sels c _
  unfold dEq
  rw [if_pos ⟨h1, by decide +kernel⟩]
  congr 2
  cases hg : good 0 with
  | true =>
    rw [least_nobody hc hg]
    show (D.lst [selD c 0]).eqv (.lst [.tup []]) = true
    unfold selD
    rw [sel_zero]
    rfl
  | false =>
    cases hT : leastG c good with
    | nil => rfl
    | cons m l =>
      have hm := (mem_leastG hc).mp (show m ∈ leastG c good by rw [hT]; exact List.mem_cons_self)
      have ne : sel c m ≠ [] := fun z => by
        have := (ord_ok hc).back m hm.1.1
        rw [z] at this
        have : m = 0 := this.symm
        rw [this, hg] at hm
        cases hm.1.2
      show ((selD c m).eqv (.tup []) && eqvs (l.map (selD c)) []) = false
      unfold selD
      cases hs : sel c m with
      | nil => exact absurd hs ne
      | cons a b => rfl
theorem law_true (ns : List Int) (_ : ns.length ≤ 63) (_ : ∀ z ∈ ns, Builtin.Int.intBits z ≤ 1048576) : m_law [.lst (ns.map .int)] = .ok (.bl true) := by
  have ce0 : m__law_cell [.lst (ns.map .int), .int 0] = .ok (.int (cell ns 0)) := m_cell ns 0
  have hs0 := cell_nn ns 0
  obtain ⟨C0, hC0⟩ : ∃ C0, cell ns 0 = C0 := ⟨_, rfl⟩
  rw [hC0] at ce0 hs0
  obtain ⟨k5, k51, k52⟩ := nat_mod C0 hs0 5 (by omega)
  have md5 : dMod (.int C0) (.int 5) = .ok (.int (k5 : Int)) := by simp [cMod_ok]; exact k51
  obtain ⟨MT, hMT⟩ : ∃ MT : D, MT = .tup [.int 3, .int 2, .int 4, .int 1, .int 4] := ⟨_, rfl⟩
  have okM : okLen [.int 3, .int 2, .int 4, .int 1, .int 4] = .ok [.int 3, .int 2, .int 4, .int 1, .int 4] := rfl
  obtain ⟨n, n1, n4, ix⟩ : ∃ n : Nat, 1 ≤ n ∧ n ≤ 4 ∧ dIx MT (.int (k5 : Int)) = .ok (nD n) := by
    subst hMT
    match k5, k52 with
    | 0, _ => exact ⟨3, by omega, by omega, rfl⟩
    | 1, _ => exact ⟨2, by omega, by omega, rfl⟩
    | 2, _ => exact ⟨4, by omega, by omega, rfl⟩
    | 3, _ => exact ⟨1, by omega, by omega, rfl⟩
    | 4, _ => exact ⟨4, by omega, by omega, rfl⟩
  have okM : (okLen [.int 3, .int 2, .int 4, .int 1, .int 4]).bind (fun ys => Res.ok (D.tup ys)) = .ok MT := by rw [hMT]; rfl
  have dv5 : dDiv (.int C0) (.int 5) = .ok (.int (C0 / 5)) := by simp [cDiv_ok]
  have ad2 : dAdd (.int 2) (.int (C0 / 5)) = .ok (.int (2 + C0 / 5)) := rfl
  obtain ⟨r5, r51, r52⟩ := nat_mod (2 + C0 / 5) (by have : 0 ≤ C0 / 5 := Int.ediv_nonneg hs0 (by omega)
                                                    omega) 5 (by omega)
  have md6 : dMod (.int (2 + C0 / 5)) (.int 5) = .ok (.int (r5 : Int)) := by simp [cMod_ok]; exact r51
  obtain ⟨c, hc⟩ : ∃ c, 1 + r5 = c := ⟨_, rfl⟩
  have ad1 : dAdd (.int 1) (.int (r5 : Int)) = .ok (nD c) := by
    have : (1 : Int) + (r5 : Int) = ((c : Nat) : Int) := by omega
    exact congrArg (fun z => Res.ok (D.int z)) this
  have c1 : 1 ≤ c := by omega
  have c5 : c ≤ 5 := by omega
  obtain ⟨hs, hol, hsl, hsb⟩ := m_holders_ ns 1 n c (by omega) n4 c5
  obtain ⟨st, sta, stl⟩ := m_state80 ns 2 n (by omega) n4
  have hn : st.length ≤ 4 := by omega
  have hh : hs.length = st.length := by omega
  obtain ⟨q, cl⟩ := m_claim80 ns st (by omega) hn
  obtain ⟨p, T16, t1, t2, hT16, T0, T1⟩ := tops n n4
  obtain ⟨ds, nu, d2, d3⟩ := m_nums ns 7 2 T16 (by omega) (by omega) T0 (by omega)
  match ds, d2 with
  | [a, b], _ =>
  have hol : m__law_holders [.lst (ns.map .int), .int 1, nD n, nD c] = .ok (.lst (hs.map oN)) := hol
  have sta : m__law_state [.lst (ns.map .int), .int 2, nD n] = .ok (stD st) := sta
  have nu : m__law_numbers [.lst (ns.map .int), .int 7, .int 2, .int (T16 : Int)] = .ok (.lst [nD a, nD b]) := nu
  have t1 : dShl (.int 1) (nD n) = .ok (.int p) := t1
  have mkH0 := m_hands c c1 c5 hs (by omega) (by omega) hsb .lst (.inl rfl)
  have mkH : mkD "Hands" 3 m_Hands_init [nD c, .lst (hs.map oN)] = .ok (hdD c hs) := by
    rw [mkD2, mkH0]; rfl
  -- what is found
  let good := goodR hs st c q
  have up : ∀ m m', wnB m m' = true → goodR hs st c q m = true → goodR hs st c q m' = true := fun m m' => goodR_up hn
  have lbl := m_lblame c c5 hs st hn hh q
  have bla := m_blame_ c c5 hs st hn hh q
  have lle := m_lleastok c c5 hs st hn hh q
  have lgr := m_lgroups c c5 hs st hn hh q
  have lno := m_lnow c c5 hs st hn hh q
  have lcu := m_lcube st hn
  have an1 : dAnd (nD (cubeS st)) (nD q) = .ok (nD (cubeS st &&& q)) := dAnd_nn _ _
  have eq1 : dEq (nD (cubeS st &&& q)) (nD (cubeS st)) = .ok (.bl (wnB (cubeS st) q)) := dEq_nn _ _
  have eq2 := told_nobody c (by omega) (goodR hs st c q)
  rw [goodR_zero] at eq2
  have ne2 : dNe (.bl (wnB (cubeS st) q)) (.bl (wnB (cubeS st) q)) = .ok (.bl false) := by cases wnB (cubeS st) q <;> rfl
  have p32 : 2 ^ c ≤ 32 := Nat.le_trans (Nat.pow_le_pow_right (by decide) c5) (by decide)
  have p0 := Nat.two_pow_pos c
  have let0 := m_letters hs (sel c (2 ^ c - 1)) (by omega)
  have lre := m_lreop st hn (Lh hs (sel c (2 ^ c - 1))) (fun k hk => by rw [← hh]; exact Lh_lt k hk)
  have lfi := m_lfirst (reopS st (Lh hs (sel c (2 ^ c - 1)))) (by rw [reopS_len]; exact hn) (Lh hs (sel c (2 ^ c - 1))) (fun k hk => by rw [reopS_len, ← hh]; exact Lh_lt k hk) Lh_nd q
  have knn := kD_isN (x := firstK (reopS st (Lh hs (sel c (2 ^ c - 1)))) (Lh hs (sel c (2 ^ c - 1))) q)
  rw [firstK_some, show keepsB (reopS st (Lh hs (sel c (2 ^ c - 1)))) (Lh hs (sel c (2 ^ c - 1))) q = goodR hs st c q (2 ^ c - 1) from rfl] at knn
  have tup : tupRg (nD c) = .ok (.tup ((List.range c).map nD)) := by
    rw [← rangeD_nat]
    show (if 0 ≤ (c : Int) ∧ (c : Int) ≤ 100000 then Res.ok (rangeD 0 (c : Int).toNat) else .st).bind _ = _
    rw [if_pos ⟨by omega, by omega⟩]
    rfl
  rw [sel_full] at let0
  have let0 : m__law_letters [.lst (hs.map oN), .tup ((List.range c).map nD)] = .ok (.lst ((Lh hs (List.range c)).map nD)) := let0
  rw [sel_full] at lre lfi knn
  obtain ⟨LA, hLA⟩ : ∃ LA, Lh hs (List.range c) = LA := ⟨_, rfl⟩
  rw [hLA] at let0 lre lfi knn
  obtain ⟨able, hable⟩ : ∃ able, goodR hs st c q (2 ^ c - 1) = able := ⟨_, rfl⟩
  rw [hable] at knn
  have lnone := least_none (good := goodR hs st c q) (c := c) (by omega) up
  rw [hable] at lnone
  obtain ⟨T, hT⟩ : ∃ T, leastG c (goodR hs st c q) = T := ⟨_, rfl⟩
  obtain ⟨N, hN⟩ : ∃ N, leastG c (goodN hs st c q) = N := ⟨_, rfl⟩
  have Tbd : ∀ t ∈ T, t < 2 ^ c := fun t ht => ((mem_leastG (by omega)).mp (hT ▸ ht)).1.1
  have Tsm : T.length ≤ 128 := by rw [← hT]; exact leastG_small (by omega)
  have Nsm : N.length ≤ 128 := by rw [← hN]; exact leastG_small (by omega)
  have nowIn : ∀ m ∈ N, (T.any fun t => wnB t m) = true := fun m hm => by
    have h := (mem_leastG (by omega)).mp (hN ▸ hm)
    obtain ⟨t, ht, hw⟩ := leastG_below (c := c) (by omega) h.1.1 (goodN_R hn h.1.2)
    exact List.any_eq_true.mpr ⟨t, hT ▸ ht, hw⟩
  -- the wider claim
  have an2 : dAnd (nD a) (nD b) = .ok (nD (a &&& b)) := dAnd_nn a b
  have or2 : dOr (nD q) (nD (a &&& b)) = .ok (nD (q ||| (a &&& b))) := dOr_nn _ _
  obtain ⟨w, hw⟩ : ∃ w, q ||| (a &&& b) = w := ⟨_, rfl⟩
  have qw : wnB q w = true := wnB_iff.mpr fun j h => by rw [← hw, Nat.testBit_or, h]; rfl
  rw [hw] at or2
  obtain ⟨ab, hab⟩ : ∃ ab, a &&& b = ab := ⟨_, rfl⟩
  rw [hab] at an2 or2
  have blw := m_blame_ c c5 hs st hn hh w
  have lbw := m_lblame c c5 hs st hn hh w
  obtain ⟨W, hW⟩ : ∃ W, leastG c (goodR hs st c w) = W := ⟨_, rfl⟩
  have Wbd : ∀ t ∈ W, t < 2 ^ c := fun t ht => ((mem_leastG (by omega)).mp (hW ▸ ht)).1.1
  have Wsm : W.length ≤ 128 := by rw [← hW]; exact leastG_small (by omega)
  have moreIn : ∀ m ∈ T, (W.any fun t => wnB t m) = true := fun m hm => by
    have h := (mem_leastG (by omega)).mp (hT ▸ hm)
    obtain ⟨t, ht, hw⟩ := leastG_below (c := c) (by omega) h.1.1 (goodR_wide hn qw h.1.2)
    exact List.any_eq_true.mpr ⟨t, hW ▸ ht, hw⟩
  have ow1 := m_one_within c c5 T Tbd
  have ow2 := m_one_within c c5 W Wbd
  rw [hT] at lbl bla lle eq2 lnone
  rw [hN] at lgr lno
  rw [hW] at blw lbw
  have sm1 := m_same8 (.lst (T.map (selD c))) (sm_sels 5 c (by omega) T (by omega))
  have sm2 := m_same8 (.lst (N.map (selD c))) (sm_sels 5 c (by omega) N (by omega))
  have sm3 := m_same8 (.lst (W.map (selD c))) (sm_sels 5 c (by omega) W (by omega))
  -- the names
  obtain ⟨SD, hSD⟩ : ∃ SD, D.lst (ns.map .int) = SD := ⟨_, rfl⟩
  obtain ⟨HX, hHX⟩ : ∃ HX, hs.map oN = HX := ⟨_, rfl⟩
  obtain ⟨HL, hHL⟩ : ∃ HL, D.lst HX = HL := ⟨_, rfl⟩
  have loop0 : ∀ (rest : List DL.Slot), True := fun _ => trivial
  have turn : ∀ m, m < 2 ^ c → m__law_chosen [nD m, nD c] = .ok (selD c m) ∧ ∃ L : List Nat, m__law_letters [.lst (hs.map oN), selD c m] = .ok (.lst (L.map nD)) ∧ m__law_reopened [stD st, .lst (L.map nD)] = .ok (stD (reopS st L)) ∧ m_reopened [hdD c hs, stD st, selD c m] = .ok (stD (reopS st L)) ∧ m__law_same 8 [stD (reopS st L), stD (reopS st L)] = .ok (.bl true) := fun m hm =>
    ⟨m_chosen c m (by omega), Lh hs (sel c m), m_letters hs (sel c m) (by omega), m_lreop st hn _ (fun k hk => by rw [← hh]; exact Lh_lt k hk), m_reopened_ c hs st hn hh (sel c m), m_same8 _ (sm_stD 6 _ (by rw [reopS_len]; exact hn))⟩
  obtain ⟨S, hS⟩ : ∃ S, stD st = S := ⟨_, rfl⟩
  obtain ⟨H, hH⟩ : ∃ H, hdD c hs = H := ⟨_, rfl⟩
  obtain ⟨DX, hDX⟩ : ∃ DX, [nD a, nD b] = DX := ⟨_, rfl⟩
  obtain ⟨DR, hDR⟩ : ∃ DR, D.lst DX = DR := ⟨_, rfl⟩
  obtain ⟨TX, hTXX⟩ : ∃ TX, T.map (selD c) = TX := ⟨_, rfl⟩
  obtain ⟨TL, hTX⟩ : ∃ TL, D.lst TX = TL := ⟨_, rfl⟩
  obtain ⟨NX, hNX⟩ : ∃ NX, N.map (selD c) = NX := ⟨_, rfl⟩
  obtain ⟨NL, hNL⟩ : ∃ NL, D.lst NX = NL := ⟨_, rfl⟩
  obtain ⟨WX, hWX⟩ : ∃ WX, W.map (selD c) = WX := ⟨_, rfl⟩
  obtain ⟨WL, hWL⟩ : ∃ WL, D.lst WX = WL := ⟨_, rfl⟩
  obtain ⟨kept, hkept⟩ : ∃ kept, wnB (cubeS st) q = kept := ⟨_, rfl⟩
  have id0 : dIx (.lst [nD a, nD b]) (.int 0) = .ok (nD a) := rfl
  have id1 : dIx (.lst [nD a, nD b]) (.int 1) = .ok (nD b) := rfl
  have lTn : bLen [.lst TX] = .ok (.int (T.length : Nat)) := by rw [← hTXX, bLen_lst, List.length_map]
  have eq3 : dEq (.int (T.length : Nat)) (.int 0) = .ok (.bl (!able)) := by
    refine (dEq_nn T.length 0).trans ?_
    congr 2
    rw [Bool.eq_iff_iff, decide_eq_true_eq]
    constructor
    · intro h
      rw [lnone.mp (List.length_eq_zero_iff.mp h)]; rfl
    · intro h
      rw [lnone.mpr (by cases able <;> simp_all)]
      rfl
  have eq4 : dEq (.bl (!able)) (.bl able) = .ok (.bl false) := by cases able <;> rfl
  rw [hTXX] at lbl bla lle eq2 sm1
  rw [hNX] at lgr lno sm2
  rw [hWX] at blw lbw sm3
  have alH : asL HL = .ok HX := by rw [← hHL]; rfl
  have alD : asL DR = .ok DX := by rw [← hDR]; rfl
  have alT : asL TL = .ok TX := by rw [← hTX]; rfl
  have alN : asL NL = .ok NX := by rw [← hNL]; rfl
  have alW : asL WL = .ok WX := by rw [← hWL]; rfl
  have itN : items NL = .ok NX := by rw [← hNL]; rfl
  have blH : bList [HL] = .ok HX := by rw [← hHL]; rfl
  have ow1 : ∀ m, m__law_one_within [TL, selD c m] = .ok (.bl (T.any fun t => wnB t m)) := fun m => by rw [← hTX, ← hTXX]; exact ow1 m
  have ow2 : ∀ m, m__law_one_within [WL, selD c m] = .ok (.bl (W.any fun t => wnB t m)) := fun m => by rw [← hWL, ← hWX]; exact ow2 m
  rw [hSD] at ce0 hol sta cl nu
  rw [hHX, hHL] at hol mkH lbl lle lno lbw let0
  rw [hS] at sta cl lbl bla lle lgr lno lcu lre blw lbw
  rw [hH] at mkH bla lle lgr blw
  rw [hDX, hDR] at nu id0 id1
  rw [hTX] at lbl bla lle eq2 sm1 lTn
  rw [hNL] at lgr lno sm2
  rw [hWL] at blw lbw sm3
  rw [hkept] at eq1 eq2 ne2
  obtain ⟨x4, hx4⟩ : ∃ x4, cubeS st = x4 := ⟨_, rfl⟩
  rw [hx4] at lcu an1 eq1
  have shc : dShl (.int 1) (nD c) = .ok (.int ((2 ^ c : Nat) : Int)) := dShl_1 (by omega)
  have loop : ∃ z10 z19 z20, forL [10] g1 b_law_1 ((List.range (2 ^ c)).map nD) [.d SD, .d (.int C0), .d MT, .d (nD n), .d (nD c), .d HL, .d S, .d (nD q), .d DR, .d H, .un, .un, .un, .un, .un, .un, .un, .un, .un, .un, .un, .un] = .nx [.d SD, .d (.int C0), .d MT, .d (nD n), .d (nD c), .d HL, .d S, .d (nD q), .d DR, .d H, z10, .un, .un, .un, .un, .un, .un, .un, .un, z19, z20, .un] := by
    obtain ⟨ρ', k1, z10, z19, z20, k2⟩ := forL_pre (sl := [10]) (g := g1) (fb := b_law_1) nD (fun (_ : List Nat) ρ => ∃ z10 z19 z20, ρ = [.d SD, .d (.int C0), .d MT, .d (nD n), .d (nD c), .d HL, .d S, .d (nD q), .d DR, .d H, z10, .un, .un, .un, .un, .un, .un, .un, .un, z19, z20, .un]) (List.range (2 ^ c)) [.d SD, .d (.int C0), .d MT, .d (nD n), .d (nD c), .d HL, .d S, .d (nD q), .d DR, .d H, .un, .un, .un, .un, .un, .un, .un, .un, .un, .un, .un, .un] ⟨_, _, _, rfl⟩ fun pre m post ρ e hR => by
      obtain ⟨z10, z19, z20, rfl⟩ := hR
      have hm : m < 2 ^ c := List.mem_range.mp (by rw [e]; simp)
      obtain ⟨q1, L, q2, q3, q4, q5⟩ := turn m hm
      rw [hHX, hHL] at q2
      rw [hS] at q3 q4
      rw [hH] at q4
      obtain ⟨P, hP⟩ : ∃ P, selD c m = P := ⟨_, rfl⟩
      rw [hP] at q1 q2 q4
      obtain ⟨R, hR⟩ : ∃ R, stD (reopS st L) = R := ⟨_, rfl⟩
      rw [hR] at q3 q4 q5
      refine ⟨[nD m], _, rfl, .inl ?_, .d (nD m), .d P, .d R, rfl⟩
      unfold b_law_1
      simp [q1, q2, q3, q4, q5]
    exact ⟨z10, z19, z20, by rw [k1, k2]⟩
  obtain ⟨z10, z19, z20, loop⟩ := loop
  obtain ⟨K, hK⟩ : ∃ K, 2 ^ c = K := ⟨_, rfl⟩
  rw [hK] at shc loop p32
  have rgK : rng1 [.int (K : Int)] = .ok ((List.range K).map nD) := by rw [rng1_n _ (by omega), rangeD_nat]
  have l21 : lcL [21] g1 tYesD l_law_1 [.d SD, .d (.int C0), .d MT, .d (nD n), .d (nD c), .d HL, .d S, .d (nD q), .d DR, .d H, z10, .d TL, .own false TX, .d (.bl kept), .d (.lst (LA.map nD)), .d (.bl able), .d NL, .un, .un, z19, z20, .un] NX = .ok (N.map fun _ => .bl true) := by
    rw [← hNX]
    refine lcL_map (selD c) _ N fun m hm => ?_
    have o := ow1 m
    rw [nowIn m hm] at o
    unfold l_law_1
    simp [hTX, o]
  have l25 : lcL [21] g1 tYesD l_law_2 [.d SD, .d (.int C0), .d MT, .d (nD n), .d (nD c), .d HL, .d S, .d (nD q), .d DR, .d H, z10, .d TL, .own false TX, .d (.bl kept), .d (.lst (LA.map nD)), .d (.bl able), .d NL, .d (nD w), .d WL, z19, z20, .un] TX = .ok (T.map fun _ => .bl true) := by
    rw [← hTXX]
    refine lcL_map (selD c) _ T fun m hm => ?_
    have o := ow2 m
    rw [moreIn m hm] at o
    unfold l_law_2
    simp [o]
  have baN : bAll [.lst (N.map fun _ => .bl true)] = .ok (.bl true) := by rw [bAll_map (fun _ => true)]; simp
  have baT : bAll [.lst (T.map fun _ => .bl true)] = .ok (.bl true) := by rw [bAll_map (fun _ => true)]; simp
  have lN : (N.map fun _ => D.bl true).length ≤ lim := by rw [List.length_map]; exact Nat.le_trans Nsm (by decide)
  have lT : (T.map fun _ => D.bl true).length ≤ lim := by rw [List.length_map]; exact Nat.le_trans Tsm (by decide)
  have lT2 : TX.length < lim := by rw [← hTXX, List.length_map]; exact Nat.lt_of_le_of_lt Tsm (by decide)
  generalize (N.map fun _ => D.bl true) = NB at l21 baN lN
  generalize (T.map fun _ => D.bl true) = TB at l25 baT lT
  have s1 : p_law_1 [.d SD, .un, .un, .un, .un, .un, .un, .un, .un, .un, .un, .un, .un, .un, .un, .un, .un, .un, .un, .un, .un, .un] = .nx [.d SD, .d (.int C0), .un, .un, .un, .un, .un, .un, .un, .un, .un, .un, .un, .un, .un, .un, .un, .un, .un, .un, .un, .un] := by
    unfold p_law_1
    simp [ce0]
  have s2 : p_law_2 [.d SD, .d (.int C0), .un, .un, .un, .un, .un, .un, .un, .un, .un, .un, .un, .un, .un, .un, .un, .un, .un, .un, .un, .un] = .nx [.d SD, .d (.int C0), .d MT, .un, .un, .un, .un, .un, .un, .un, .un, .un, .un, .un, .un, .un, .un, .un, .un, .un, .un, .un] := by
    unfold p_law_2
    simp [okM]
  have s3 : p_law_3 [.d SD, .d (.int C0), .d MT, .un, .un, .un, .un, .un, .un, .un, .un, .un, .un, .un, .un, .un, .un, .un, .un, .un, .un, .un] = .nx [.d SD, .d (.int C0), .d MT, .d (nD n), .un, .un, .un, .un, .un, .un, .un, .un, .un, .un, .un, .un, .un, .un, .un, .un, .un, .un] := by
    unfold p_law_3
    simp [-dI2c_ap, -dI2_ap, -dI2b_ap, -dAdd_ii, -dIx_lst, -dIx_tup, -mkD2, md5, ix]
  have s4 : p_law_4 [.d SD, .d (.int C0), .d MT, .d (nD n), .un, .un, .un, .un, .un, .un, .un, .un, .un, .un, .un, .un, .un, .un, .un, .un, .un, .un] = .nx [.d SD, .d (.int C0), .d MT, .d (nD n), .d (nD c), .un, .un, .un, .un, .un, .un, .un, .un, .un, .un, .un, .un, .un, .un, .un, .un, .un] := by
    unfold p_law_4
    simp [-dI2c_ap, -dI2_ap, -dI2b_ap, -dAdd_ii, -dIx_lst, -dIx_tup, -mkD2, dv5, ad2, md6, ad1]
  have s5 : p_law_5 [.d SD, .d (.int C0), .d MT, .d (nD n), .d (nD c), .un, .un, .un, .un, .un, .un, .un, .un, .un, .un, .un, .un, .un, .un, .un, .un, .un] = .nx [.d SD, .d (.int C0), .d MT, .d (nD n), .d (nD c), .d HL, .un, .un, .un, .un, .un, .un, .un, .un, .un, .un, .un, .un, .un, .un, .un, .un] := by
    unfold p_law_5
    simp [-dI2c_ap, -dI2_ap, -dI2b_ap, -dAdd_ii, -dIx_lst, -dIx_tup, -mkD2, hol, alH, hHL]
  have s6 : p_law_6 [.d SD, .d (.int C0), .d MT, .d (nD n), .d (nD c), .d HL, .un, .un, .un, .un, .un, .un, .un, .un, .un, .un, .un, .un, .un, .un, .un, .un] = .nx [.d SD, .d (.int C0), .d MT, .d (nD n), .d (nD c), .d HL, .d S, .un, .un, .un, .un, .un, .un, .un, .un, .un, .un, .un, .un, .un, .un, .un] := by
    unfold p_law_6
    simp [-dI2c_ap, -dI2_ap, -dI2b_ap, -dAdd_ii, -dIx_lst, -dIx_tup, -mkD2, sta]
  have s7 : p_law_7 [.d SD, .d (.int C0), .d MT, .d (nD n), .d (nD c), .d HL, .d S, .un, .un, .un, .un, .un, .un, .un, .un, .un, .un, .un, .un, .un, .un, .un] = .nx [.d SD, .d (.int C0), .d MT, .d (nD n), .d (nD c), .d HL, .d S, .d (nD q), .un, .un, .un, .un, .un, .un, .un, .un, .un, .un, .un, .un, .un, .un] := by
    unfold p_law_7
    simp [-dI2c_ap, -dI2_ap, -dI2b_ap, -dAdd_ii, -dIx_lst, -dIx_tup, -mkD2, cl]
  have s8 : p_law_8 [.d SD, .d (.int C0), .d MT, .d (nD n), .d (nD c), .d HL, .d S, .d (nD q), .un, .un, .un, .un, .un, .un, .un, .un, .un, .un, .un, .un, .un, .un] = .nx [.d SD, .d (.int C0), .d MT, .d (nD n), .d (nD c), .d HL, .d S, .d (nD q), .d DR, .un, .un, .un, .un, .un, .un, .un, .un, .un, .un, .un, .un, .un] := by
    unfold p_law_8
    simp [-dI2c_ap, -dI2_ap, -dI2b_ap, -dAdd_ii, -dIx_lst, -dIx_tup, -mkD2, t1, t2, nu, alD, hDR]
  have s9 : p_law_9 [.d SD, .d (.int C0), .d MT, .d (nD n), .d (nD c), .d HL, .d S, .d (nD q), .d DR, .un, .un, .un, .un, .un, .un, .un, .un, .un, .un, .un, .un, .un] = .nx [.d SD, .d (.int C0), .d MT, .d (nD n), .d (nD c), .d HL, .d S, .d (nD q), .d DR, .d H, .un, .un, .un, .un, .un, .un, .un, .un, .un, .un, .un, .un] := by
    unfold p_law_9
    simp [-dI2c_ap, -dI2_ap, -dI2b_ap, -dAdd_ii, -dIx_lst, -dIx_tup, -mkD2, blH, hHL, mkH]
  have s10 : p_law_10 [.d SD, .d (.int C0), .d MT, .d (nD n), .d (nD c), .d HL, .d S, .d (nD q), .d DR, .d H, .un, .un, .un, .un, .un, .un, .un, .un, .un, .un, .un, .un] = .nx [.d SD, .d (.int C0), .d MT, .d (nD n), .d (nD c), .d HL, .d S, .d (nD q), .d DR, .d H, z10, .un, .un, .un, .un, .un, .un, .un, .un, z19, z20, .un] := by
    unfold p_law_10
    simp [-dI2c_ap, -dI2_ap, -dI2b_ap, -dAdd_ii, -dIx_lst, -dIx_tup, -mkD2, shc, rgK, loop]
  have s11 : p_law_11 [.d SD, .d (.int C0), .d MT, .d (nD n), .d (nD c), .d HL, .d S, .d (nD q), .d DR, .d H, z10, .un, .un, .un, .un, .un, .un, .un, .un, z19, z20, .un] = .nx [.d SD, .d (.int C0), .d MT, .d (nD n), .d (nD c), .d HL, .d S, .d (nD q), .d DR, .d H, z10, .d TL, .un, .un, .un, .un, .un, .un, .un, z19, z20, .un] := by
    unfold p_law_11
    simp [-dI2c_ap, -dI2_ap, -dI2b_ap, -dAdd_ii, -dIx_lst, -dIx_tup, -mkD2, lbl, alT, hTX]
  have s12 : p_law_12 [.d SD, .d (.int C0), .d MT, .d (nD n), .d (nD c), .d HL, .d S, .d (nD q), .d DR, .d H, z10, .d TL, .un, .un, .un, .un, .un, .un, .un, z19, z20, .un] = .nx [.d SD, .d (.int C0), .d MT, .d (nD n), .d (nD c), .d HL, .d S, .d (nD q), .d DR, .d H, z10, .d TL, .own false TX, .un, .un, .un, .un, .un, .un, z19, z20, .un] := by
    unfold p_law_12
    simp [-dI2c_ap, -dI2_ap, -dI2b_ap, -dAdd_ii, -dIx_lst, -dIx_tup, -mkD2, bla, alT]
  have s13 : p_law_13 [.d SD, .d (.int C0), .d MT, .d (nD n), .d (nD c), .d HL, .d S, .d (nD q), .d DR, .d H, z10, .d TL, .own false TX, .un, .un, .un, .un, .un, .un, z19, z20, .un] = .nx [.d SD, .d (.int C0), .d MT, .d (nD n), .d (nD c), .d HL, .d S, .d (nD q), .d DR, .d H, z10, .d TL, .own false TX, .un, .un, .un, .un, .un, .un, z19, z20, .un] := by
    unfold p_law_13
    simp [-dI2c_ap, -dI2_ap, -dI2b_ap, -dAdd_ii, -dIx_lst, -dIx_tup, -mkD2, hTX, sm1]
  have s14 : p_law_14 [.d SD, .d (.int C0), .d MT, .d (nD n), .d (nD c), .d HL, .d S, .d (nD q), .d DR, .d H, z10, .d TL, .own false TX, .un, .un, .un, .un, .un, .un, z19, z20, .un] = .nx [.d SD, .d (.int C0), .d MT, .d (nD n), .d (nD c), .d HL, .d S, .d (nD q), .d DR, .d H, z10, .d TL, .own false TX, .d (.bl kept), .un, .un, .un, .un, .un, z19, z20, .un] := by
    unfold p_law_14
    simp [-dI2c_ap, -dI2_ap, -dI2b_ap, -dAdd_ii, -dIx_lst, -dIx_tup, -mkD2, lcu, an1, eq1]
  have s15 : p_law_15 [.d SD, .d (.int C0), .d MT, .d (nD n), .d (nD c), .d HL, .d S, .d (nD q), .d DR, .d H, z10, .d TL, .own false TX, .d (.bl kept), .un, .un, .un, .un, .un, z19, z20, .un] = .nx [.d SD, .d (.int C0), .d MT, .d (nD n), .d (nD c), .d HL, .d S, .d (nD q), .d DR, .d H, z10, .d TL, .own false TX, .d (.bl kept), .un, .un, .un, .un, .un, z19, z20, .un] := by
    unfold p_law_15
    simp [-dI2c_ap, -dI2_ap, -dI2b_ap, -dAdd_ii, -dIx_lst, -dIx_tup, -mkD2, hTX, eq2, ne2]
  have s16 : p_law_16 [.d SD, .d (.int C0), .d MT, .d (nD n), .d (nD c), .d HL, .d S, .d (nD q), .d DR, .d H, z10, .d TL, .own false TX, .d (.bl kept), .un, .un, .un, .un, .un, z19, z20, .un] = .nx [.d SD, .d (.int C0), .d MT, .d (nD n), .d (nD c), .d HL, .d S, .d (nD q), .d DR, .d H, z10, .d TL, .own false TX, .d (.bl kept), .d (.lst (LA.map nD)), .un, .un, .un, .un, z19, z20, .un] := by
    unfold p_law_16
    simp [-dI2c_ap, -dI2_ap, -dI2b_ap, -dAdd_ii, -dIx_lst, -dIx_tup, -mkD2, tup, let0]
  have s17 : p_law_17 [.d SD, .d (.int C0), .d MT, .d (nD n), .d (nD c), .d HL, .d S, .d (nD q), .d DR, .d H, z10, .d TL, .own false TX, .d (.bl kept), .d (.lst (LA.map nD)), .un, .un, .un, .un, z19, z20, .un] = .nx [.d SD, .d (.int C0), .d MT, .d (nD n), .d (nD c), .d HL, .d S, .d (nD q), .d DR, .d H, z10, .d TL, .own false TX, .d (.bl kept), .d (.lst (LA.map nD)), .d (.bl able), .un, .un, .un, z19, z20, .un] := by
    unfold p_law_17
    simp [-dI2c_ap, -dI2_ap, -dI2b_ap, -dAdd_ii, -dIx_lst, -dIx_tup, -mkD2, lre, lfi, knn]
  have s18 : p_law_18 [.d SD, .d (.int C0), .d MT, .d (nD n), .d (nD c), .d HL, .d S, .d (nD q), .d DR, .d H, z10, .d TL, .own false TX, .d (.bl kept), .d (.lst (LA.map nD)), .d (.bl able), .un, .un, .un, z19, z20, .un] = .nx [.d SD, .d (.int C0), .d MT, .d (nD n), .d (nD c), .d HL, .d S, .d (nD q), .d DR, .d H, z10, .d TL, .own false TX, .d (.bl kept), .d (.lst (LA.map nD)), .d (.bl able), .un, .un, .un, z19, z20, .un] := by
    unfold p_law_18
    simp [-dI2c_ap, -dI2_ap, -dI2b_ap, -dAdd_ii, -dIx_lst, -dIx_tup, -mkD2, eq3, eq4, lTn, hTX, lle]
  have s19 : p_law_19 [.d SD, .d (.int C0), .d MT, .d (nD n), .d (nD c), .d HL, .d S, .d (nD q), .d DR, .d H, z10, .d TL, .own false TX, .d (.bl kept), .d (.lst (LA.map nD)), .d (.bl able), .un, .un, .un, z19, z20, .un] = .nx [.d SD, .d (.int C0), .d MT, .d (nD n), .d (nD c), .d HL, .d S, .d (nD q), .d DR, .d H, z10, .d TL, .own false TX, .d (.bl kept), .d (.lst (LA.map nD)), .d (.bl able), .d NL, .un, .un, z19, z20, .un] := by
    unfold p_law_19
    simp [-dI2c_ap, -dI2_ap, -dI2b_ap, -dAdd_ii, -dIx_lst, -dIx_tup, -mkD2, lgr, alN, hNL]
  have s20 : p_law_20 [.d SD, .d (.int C0), .d MT, .d (nD n), .d (nD c), .d HL, .d S, .d (nD q), .d DR, .d H, z10, .d TL, .own false TX, .d (.bl kept), .d (.lst (LA.map nD)), .d (.bl able), .d NL, .un, .un, z19, z20, .un] = .nx [.d SD, .d (.int C0), .d MT, .d (nD n), .d (nD c), .d HL, .d S, .d (nD q), .d DR, .d H, z10, .d TL, .own false TX, .d (.bl kept), .d (.lst (LA.map nD)), .d (.bl able), .d NL, .un, .un, z19, z20, .un] := by
    unfold p_law_20
    simp [-dI2c_ap, -dI2_ap, -dI2b_ap, -dAdd_ii, -dIx_lst, -dIx_tup, -mkD2, lno, alN, hNL, sm2]
  have s21 : p_law_21 [.d SD, .d (.int C0), .d MT, .d (nD n), .d (nD c), .d HL, .d S, .d (nD q), .d DR, .d H, z10, .d TL, .own false TX, .d (.bl kept), .d (.lst (LA.map nD)), .d (.bl able), .d NL, .un, .un, z19, z20, .un] = .nx [.d SD, .d (.int C0), .d MT, .d (nD n), .d (nD c), .d HL, .d S, .d (nD q), .d DR, .d H, z10, .d TL, .own false TX, .d (.bl kept), .d (.lst (LA.map nD)), .d (.bl able), .d NL, .un, .un, z19, z20, .un] := by
    unfold p_law_21
    simp [-dI2c_ap, -dI2_ap, -dI2b_ap, -dAdd_ii, -dIx_lst, -dIx_tup, -mkD2, itN, l21, okLen_le, lN, baN]
  have s22 : p_law_22 [.d SD, .d (.int C0), .d MT, .d (nD n), .d (nD c), .d HL, .d S, .d (nD q), .d DR, .d H, z10, .d TL, .own false TX, .d (.bl kept), .d (.lst (LA.map nD)), .d (.bl able), .d NL, .un, .un, z19, z20, .un] = .nx [.d SD, .d (.int C0), .d MT, .d (nD n), .d (nD c), .d HL, .d S, .d (nD q), .d DR, .d H, z10, .d TL, .own false TX, .d (.bl kept), .d (.lst (LA.map nD)), .d (.bl able), .d NL, .d (nD w), .un, z19, z20, .un] := by
    unfold p_law_22
    simp [-dI2c_ap, -dI2_ap, -dI2b_ap, -dAdd_ii, -dIx_lst, -dIx_tup, -mkD2, id0, id1, an2, or2]
  have s23 : p_law_23 [.d SD, .d (.int C0), .d MT, .d (nD n), .d (nD c), .d HL, .d S, .d (nD q), .d DR, .d H, z10, .d TL, .own false TX, .d (.bl kept), .d (.lst (LA.map nD)), .d (.bl able), .d NL, .d (nD w), .un, z19, z20, .un] = .nx [.d SD, .d (.int C0), .d MT, .d (nD n), .d (nD c), .d HL, .d S, .d (nD q), .d DR, .d H, z10, .d TL, .own false TX, .d (.bl kept), .d (.lst (LA.map nD)), .d (.bl able), .d NL, .d (nD w), .d WL, z19, z20, .un] := by
    unfold p_law_23
    simp [-dI2c_ap, -dI2_ap, -dI2b_ap, -dAdd_ii, -dIx_lst, -dIx_tup, -mkD2, blw, alW, hWL]
  have s24 : p_law_24 [.d SD, .d (.int C0), .d MT, .d (nD n), .d (nD c), .d HL, .d S, .d (nD q), .d DR, .d H, z10, .d TL, .own false TX, .d (.bl kept), .d (.lst (LA.map nD)), .d (.bl able), .d NL, .d (nD w), .d WL, z19, z20, .un] = .nx [.d SD, .d (.int C0), .d MT, .d (nD n), .d (nD c), .d HL, .d S, .d (nD q), .d DR, .d H, z10, .d TL, .own false TX, .d (.bl kept), .d (.lst (LA.map nD)), .d (.bl able), .d NL, .d (nD w), .d WL, z19, z20, .un] := by
    unfold p_law_24
    simp [-dI2c_ap, -dI2_ap, -dI2b_ap, -dAdd_ii, -dIx_lst, -dIx_tup, -mkD2, lbw, alW, hWL, sm3]
  have s25 : p_law_25 [.d SD, .d (.int C0), .d MT, .d (nD n), .d (nD c), .d HL, .d S, .d (nD q), .d DR, .d H, z10, .d TL, .own false TX, .d (.bl kept), .d (.lst (LA.map nD)), .d (.bl able), .d NL, .d (nD w), .d WL, z19, z20, .un] = .nx [.d SD, .d (.int C0), .d MT, .d (nD n), .d (nD c), .d HL, .d S, .d (nD q), .d DR, .d H, z10, .d TL, .own false TX, .d (.bl kept), .d (.lst (LA.map nD)), .d (.bl able), .d NL, .d (nD w), .d WL, z19, z20, .un] := by
    unfold p_law_25
    simp [-dI2c_ap, -dI2_ap, -dI2b_ap, -dAdd_ii, -dIx_lst, -dIx_tup, -mkD2, l25, okLen_le, lT, baT]
  have s26 : p_law_26 [.d SD, .d (.int C0), .d MT, .d (nD n), .d (nD c), .d HL, .d S, .d (nD q), .d DR, .d H, z10, .d TL, .own false TX, .d (.bl kept), .d (.lst (LA.map nD)), .d (.bl able), .d NL, .d (nD w), .d WL, z19, z20, .un] = .nx [.d SD, .d (.int C0), .d MT, .d (nD n), .d (nD c), .d HL, .d S, .d (nD q), .d DR, .d H, z10, .d TL, .own false (TX ++ [.tup [.int 9]]), .d (.bl kept), .d (.lst (LA.map nD)), .d (.bl able), .d NL, .d (nD w), .d WL, z19, z20, .un] := by
    unfold p_law_26
    simp [-dI2c_ap, -dI2_ap, -dI2b_ap, -dAdd_ii, -dIx_lst, -dIx_tup, -mkD2, lT2]
  have fin : t_law [.d SD, .d (.int C0), .d MT, .d (nD n), .d (nD c), .d HL, .d S, .d (nD q), .d DR, .d H, z10, .d TL, .own false (TX ++ [.tup [.int 9]]), .d (.bl kept), .d (.lst (LA.map nD)), .d (.bl able), .d NL, .d (nD w), .d WL, z19, z20, .un] = .rt (.bl true) := by
    unfold t_law
    simp [-dI2c_ap, -dI2_ap, bla, alT, hTX, sm1]
  unfold m_law mOf
  rw [g_law_cut]
  simp only [List.length_cons, List.length_nil, List.map_cons, List.map_nil]
  rw [hSD]
  simp [-sAsg_ap, s1, s2, s3, s4, s5, s6, s7, s8, s9, s10, s11, s12, s13, s14, s15, s16, s17, s18, s19, s20, s21, s22, s23, s24, s25, s26, fin]

end W80
open PySem PySem.W PyProof.Rows in
set_option maxRecDepth 100000 in
set_option maxHeartbeats 0 in
theorem PySem.Challenge.cw_whatisdue_k80_whole_blame_of_least_group_holds : PySem.Challenge.rw_whatisdue_k80_whole_blame_of_least_group.Holds := by
  w_on; o_law; k_head; (case hw => w_witness2)
  k_fill
  refine L2.walk_ofB (l := PySem.Challenge.rw_whatisdue_k80_whole_blame_of_least_group) (n := 63) (k := 11) (x := "script") (CX := fun w => L2.CX PySem.Challenge.rw_whatisdue_k80_whole_blame_of_least_group.prog w) (sp := fun w => DL.spLaw _) rfl (by decide) rfl ⟨rfl, by decide, by decide⟩ (fun w h Y => PySem.W.kIn_of Y) ?F (fun _ _ a ns hl hb _ hS => ⟨a, ns, rfl, hS, hl, hb, fun _ => rfl⟩) (fun _ _ _ _ _ h => DL.cx_none h)
  case F =>
    intro w mg fa h KX G hmg
    refine' W80.all_mk KX G hmg ?aC_Hands ?a1 ?l1 ?c1 ?k1 ?a2 ?l2 ?c2 ?k2 ?a3 ?l3 ?c3 ?k3 ?a4 ?l4 ?c4 ?k4 ?a5 ?l5 ?c5 ?k5 ?a6 ?l6 ?c6 ?k6 ?a7 ?l7 ?c7 ?k7 ?a8 ?l8 ?c8 ?k8 ?a9 ?l9 ?c9 ?k9 ?i9 ?mk_Hands ?kc_Hands ?a10 ?l10 ?c10 ?k10 ?a11 ?l11 ?c11 ?k11 ?a12 ?l12 ?c12 ?k12 ?a13 ?l13 ?c13 ?k13 ?a14 ?l14 ?c14 ?k14 ?i14 ?a15 ?l15 ?c15 ?k15 ?a16 ?l16 ?c16 ?k16 ?a17 ?l17 ?c17 ?k17 ?a18 ?l18 ?c18 ?k18 ?a19 ?l19 ?c19 ?k19 ?a20 ?l20 ?c20 ?k20 ?a21 ?l21 ?c21 ?k21 ?a22 ?l22 ?c22 ?k22 ?a23 ?l23 ?c23 ?k23 ?a24 ?l24 ?c24 ?k24 ?a25 ?l25 ?c25 ?k25 ?a26 ?l26 ?c26 ?k26 ?a27 ?l27 ?c27 ?k27 ?a28 ?l28 ?c28 ?k28 ?a29 ?l29 ?c29 ?k29 ?a30 ?l30 ?c30 ?k30 ?a31 ?l31 ?c31 ?k31 ?a32 ?l32 ?c32 ?k32 ?a33 ?l33 ?c33 ?k33 ?a34 ?l34 ?c34 ?k34 ?a35 ?l35 ?c35 ?k35 ?a36 ?l36 ?c36 ?k36 ?pg_Hands ?hd_Hands ?po_Hands ?sa_Hands ?n_Hands_n ?n_Hands_holders ?n_Hands_people ?z_combinations ?qt_top ?qt_file ?th_any ?aC_BadCount ?xk_BadCount ?xe_BadCount ?xt_BadCount ?ix_BadCount ?lx_BadCount ?cx_BadCount ?lf_BadCount ?qt_f_BadCount ?lc_BadCount ?lo_BadCount ?qt_o_BadCount ?sx_BadCount ?ms_BadCount ?si_BadCount ?sb_BadCount ?tx_BadCount ?xn_BadCount_number ?aC_BadHolder ?xk_BadHolder ?xe_BadHolder ?xt_BadHolder ?ix_BadHolder ?lx_BadHolder ?cx_BadHolder ?lf_BadHolder ?qt_f_BadHolder ?lc_BadHolder ?lo_BadHolder ?qt_o_BadHolder ?sx_BadHolder ?ms_BadHolder ?si_BadHolder ?sb_BadHolder ?tx_BadHolder ?xn_BadHolder_letter ?aC_TooMany ?xk_TooMany ?xe_TooMany ?xt_TooMany ?ix_TooMany ?lx_TooMany ?cx_TooMany ?lf_TooMany ?qt_f_TooMany ?lc_TooMany ?lo_TooMany ?qt_o_TooMany ?sx_TooMany ?ms_TooMany ?si_TooMany ?sb_TooMany ?tx_TooMany ?xn_TooMany_limit ?kv_LETTER_LIMIT ?kv_PEOPLE_LIMIT ?kv_SELECTION_LIMIT ?z_len ?z_int ?z_abs ?z_range ?z_tuple ?z_all ?z_enumerate ?z_list ?z_isinstance ?z_bool ?z_str ?z_sum ?z_sorted ?z_reversed ?z_super W80.law_true
    (case aC_Hands => k_is)
    (case a1 => k_is)
    (case l1 => k_is)
    (case c1 => k_is)
    (case k1 => k_is)
    (case a2 => k_is)
    (case l2 => k_is)
    (case c2 => k_is)
    (case k2 => k_is)
    (case a3 => k_is)
    (case l3 => k_is)
    (case c3 => k_is)
    (case k3 => k_is)
    (case a4 => k_is)
    (case l4 => k_is)
    (case c4 => k_is)
    (case k4 => k_is)
    (case a5 => k_is)
    (case l5 => k_is)
    (case c5 => k_is)
    (case k5 => k_is)
    (case a6 => k_is)
    (case l6 => k_is)
    (case c6 => k_is)
    (case k6 => k_is)
    (case a7 => k_is)
    (case l7 => k_is)
    (case c7 => k_is)
    (case k7 => k_is)
    (case a8 => k_is)
    (case l8 => k_is)
    (case c8 => k_is)
    (case k8 => k_is)
    (case a9 => k_is)
    (case l9 => k_is)
    (case c9 => k_is)
    (case k9 => k_is)
    (case i9 => k_is)
    (case mk_Hands => k_is)
    (case kc_Hands => k_is)
    (case a10 => k_is)
    (case l10 => k_is)
    (case c10 => k_is)
    (case k10 => k_is)
    (case a11 => k_is)
    (case l11 => k_is)
    (case c11 => k_is)
    (case k11 => k_is)
    (case a12 => k_is)
    (case l12 => k_is)
    (case c12 => k_is)
    (case k12 => k_is)
    (case a13 => k_is)
    (case l13 => k_is)
    (case c13 => k_is)
    (case k13 => k_is)
    (case a14 => k_is)
    (case l14 => k_is)
    (case c14 => k_is)
    (case k14 => k_is)
    (case i14 => k_is)
    (case a15 => k_is)
    (case l15 => k_is)
    (case c15 => k_is)
    (case k15 => k_is)
    (case a16 => k_is)
    (case l16 => k_is)
    (case c16 => k_is)
    (case k16 => k_is)
    (case a17 => k_is)
    (case l17 => k_is)
    (case c17 => k_is)
    (case k17 => k_is)
    (case a18 => k_is)
    (case l18 => k_is)
    (case c18 => k_is)
    (case k18 => k_is)
    (case a19 => k_is)
    (case l19 => k_is)
    (case c19 => k_is)
    (case k19 => k_is)
    (case a20 => k_is)
    (case l20 => k_is)
    (case c20 => k_is)
    (case k20 => k_is)
    (case a21 => k_is)
    (case l21 => k_is)
    (case c21 => k_is)
    (case k21 => k_is)
    (case a22 => k_is)
    (case l22 => k_is)
    (case c22 => k_is)
    (case k22 => k_is)
    (case a23 => k_is)
    (case l23 => k_is)
    (case c23 => k_is)
    (case k23 => k_is)
    (case a24 => k_is)
    (case l24 => k_is)
    (case c24 => k_is)
    (case k24 => k_is)
    (case a25 => k_is)
    (case l25 => k_is)
    (case c25 => k_is)
    (case k25 => k_is)
    (case a26 => k_is)
    (case l26 => k_is)
    (case c26 => k_is)
    (case k26 => k_is)
    (case a27 => k_is)
    (case l27 => k_is)
    (case c27 => k_is)
    (case k27 => k_is)
    (case a28 => k_is)
    (case l28 => k_is)
    (case c28 => k_is)
    (case k28 => k_is)
    (case a29 => k_is)
    (case l29 => k_is)
    (case c29 => k_is)
    (case k29 => k_is)
    (case a30 => k_is)
    (case l30 => k_is)
    (case c30 => k_is)
    (case k30 => k_is)
    (case a31 => k_is)
    (case l31 => k_is)
    (case c31 => k_is)
    (case k31 => k_is)
    (case a32 => k_is)
    (case l32 => k_is)
    (case c32 => k_is)
    (case k32 => k_is)
    (case a33 => k_is)
    (case l33 => k_is)
    (case c33 => k_is)
    (case k33 => k_is)
    (case a34 => k_is)
    (case l34 => k_is)
    (case c34 => k_is)
    (case k34 => k_is)
    (case a35 => k_is)
    (case l35 => k_is)
    (case c35 => k_is)
    (case k35 => k_is)
    (case a36 => k_is)
    (case l36 => k_is)
    (case c36 => k_is)
    (case k36 => k_is)
    (case pg_Hands => k_is)
    (case hd_Hands => k_is)
    (case po_Hands => k_is)
    (case sa_Hands => k_is)
    (case n_Hands_n => k_is)
    (case n_Hands_holders => k_is)
    (case n_Hands_people => k_is)
    (case z_combinations => k_is)
    (case qt_top => rfl)
    (case qt_file => rfl)
    (case th_any => k_is)
    (case aC_BadCount => k_is)
    (case xk_BadCount => k_is)
    (case xe_BadCount => k_is)
    (case xt_BadCount => k_is)
    (case ix_BadCount => k_is)
    (case lx_BadCount => k_is)
    (case cx_BadCount => k_is)
    (case lf_BadCount => k_is)
    (case qt_f_BadCount => rfl)
    (case lc_BadCount => k_is)
    (case lo_BadCount => k_is)
    (case qt_o_BadCount => rfl)
    (case sx_BadCount => k_is)
    (case ms_BadCount => k_is)
    (case si_BadCount => ks_is)
    (case sb_BadCount => k_is)
    (case tx_BadCount => k_is)
    (case xn_BadCount_number => k_is)
    (case aC_BadHolder => k_is)
    (case xk_BadHolder => k_is)
    (case xe_BadHolder => k_is)
    (case xt_BadHolder => k_is)
    (case ix_BadHolder => k_is)
    (case lx_BadHolder => k_is)
    (case cx_BadHolder => k_is)
    (case lf_BadHolder => k_is)
    (case qt_f_BadHolder => rfl)
    (case lc_BadHolder => k_is)
    (case lo_BadHolder => k_is)
    (case qt_o_BadHolder => rfl)
    (case sx_BadHolder => k_is)
    (case ms_BadHolder => k_is)
    (case si_BadHolder => ks_is)
    (case sb_BadHolder => k_is)
    (case tx_BadHolder => k_is)
    (case xn_BadHolder_letter => k_is)
    (case aC_TooMany => k_is)
    (case xk_TooMany => k_is)
    (case xe_TooMany => k_is)
    (case xt_TooMany => k_is)
    (case ix_TooMany => k_is)
    (case lx_TooMany => k_is)
    (case cx_TooMany => k_is)
    (case lf_TooMany => k_is)
    (case qt_f_TooMany => rfl)
    (case lc_TooMany => k_is)
    (case lo_TooMany => k_is)
    (case qt_o_TooMany => rfl)
    (case sx_TooMany => k_is)
    (case ms_TooMany => k_is)
    (case si_TooMany => ks_is)
    (case sb_TooMany => k_is)
    (case tx_TooMany => k_is)
    (case xn_TooMany_limit => k_is)
    (case kv_LETTER_LIMIT => k_is)
    (case kv_PEOPLE_LIMIT => k_is)
    (case kv_SELECTION_LIMIT => k_is)
    (case z_len => k_is)
    (case z_int => k_is)
    (case z_abs => k_is)
    (case z_range => k_is)
    (case z_tuple => k_is)
    (case z_all => k_is)
    (case z_enumerate => k_is)
    (case z_list => k_is)
    (case z_isinstance => k_is)
    (case z_bool => k_is)
    (case z_str => k_is)
    (case z_sum => k_is)
    (case z_sorted => k_is)
    (case z_reversed => k_is)
    (case z_super => k_is)
