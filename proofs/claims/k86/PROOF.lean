import PyProof.Rows.All
import Wide.All
import OpenK.AllK
import Wide.FinOn
import HandS.ForMost
import HandS.ForExc
import HandS.CallSlots
import HandS.IsInst
import HandS.StrMore
import HandS.Deep
import HandS.Rev
import HandS.ClsMeth
import HandS.Property
import HandS.TupAny
import HandS.IterVal
import HandS.GenList
import HandS.GenYield
import HandS.OwnIter
import HandS.GenBody
import HandS.GenCall
import HandS.Iter
import HandS.Text
import HandS.EndBits
import PySem.Challenge.RW_whatisdue_k86_whole_due_by_all_cases
set_option Elab.async false
set_option linter.all false
set_option maxRecDepth 100000
set_option maxHeartbeats 1000000
/-! DL1: values as data (no heap), what represents them, and the readings of expressions by plain functions. -/
namespace DL
open PySem PySem.Spec PyProof.Rows L2

/-- a value as plain data -/
inductive D where
  | non | bl (b : Bool) | int (i : Int) | str (x : Str)
  | tup (xs : List D) | lst (xs : List D) | obj (c : Str) (ns : List Str) (fs : List D)
  deriving Inhabited

structure Exn where
  c : Str
  ns : List Str
  fs : List D

inductive Res (α : Type) where
  | ok (a : α) | er (x : Exn) | st
def Res.bind {α β : Type} (r : Res α) (g : α → Res β) : Res β := match r with
  | .ok a => g a
  | .er x => .er x
  | .st => .st

/-- what a slot holds: nothing that is known, a value that stands still, a list of the def's own that may change, an instance of its own; t: it came in that slot at the entry -/
inductive Slot where
  | un | d (v : D) | own (t : Bool) (xs : List D) | obo (t : Bool) (c : Str) (ns : List Str) (fs : List D)
def Slot.val : Slot → Option D
  | .un => none
  | .d v => some v
  | .own _ xs => some (.lst xs)
  | .obo _ c ns fs => some (.obj c ns fs)
abbrev DEnv := List Slot

mutual
inductive Rep (K : PySem.W.Frag) (mg : Str → Option Value) (F : Hp) : V → D → Prop
  | non : Rep K mg F .non .non
  | bl (b : Bool) : Rep K mg F (.bl b) (.bl b)
  | int (i : Int) : Rep K mg F (.int i) (.int i)
  | str (x : Str) : Rep K mg F (.str x) (.str x)
  | lst {a : Addr} {xs : List V} {ds : List D} : SqL K F a xs → RepAll K mg F xs ds → Rep K mg F (.ref a) (.lst ds)
  | tup {a : Addr} {xs : List V} {ds : List D} : SqT K F a xs → RepAll K mg F xs ds → Rep K mg F (.ref a) (.tup ds)
  | obj {a C dx : Addr} {c : Str} {ns : List Str} {fs : List (Str × V)} {ds : List D} : mg c = some (.ref C) → F a = some (.ins C dx fs) → fs.map (·.1) = ns → RepAll K mg F (fs.map (·.2)) ds → Rep K mg F (.ref a) (.obj c ns ds)
inductive RepAll (K : PySem.W.Frag) (mg : Str → Option Value) (F : Hp) : List V → List D → Prop
  | nil : RepAll K mg F [] []
  | cons {v : V} {vs : List V} {d : D} {ds : List D} : Rep K mg F v d → RepAll K mg F vs ds → RepAll K mg F (v :: vs) (d :: ds)
end

mutual
/-- no list within; b: no instance either -/
def D.nlx (b : Bool) : D → Bool
  | .lst _ => false
  | .tup xs => nlxs b xs
  | .obj _ _ fs => !b && nlxs b fs
  | _ => true
def nlxs (b : Bool) : List D → Bool
  | [] => true
  | d :: ds => d.nlx b && nlxs b ds
end

section
variable {K : PySem.W.Frag} {mg : Str → Option Value}
mutual
theorem Rep.mono {F F' : Hp} (e : Same F F') : ∀ (d : D) (v : V), Rep K mg F v d → Rep K mg F' v d
  | .non, _, h => by cases h; exact .non
  | .bl b, _, h => by cases h; exact .bl b
  | .int i, _, h => by cases h; exact .int i
  | .str x, _, h => by cases h; exact .str x
  | .lst ds, _, h => by
    cases h with
    | lst a b => exact .lst (e.seq a) (RepAll.mono e ds _ b)
  | .tup ds, _, h => by
    cases h with
    | tup a b =>
      refine .tup ?_ (RepAll.mono e ds _ b)
      rcases a with (a | ⟨o, a⟩) | a
      · exact .inl (.inl (e _ _ a))
      · exact .inl (.inr ⟨o, e _ _ a⟩)
      · exact .inr a
  | .obj c ns ds, _, h => by
    cases h with
    | obj a b n r => exact .obj a (e _ _ b) n (RepAll.mono e ds _ r)
theorem RepAll.mono {F F' : Hp} (e : Same F F') : ∀ (ds : List D) (vs : List V), RepAll K mg F vs ds → RepAll K mg F' vs ds
  | [], _, h => by cases h; exact .nil
  | d :: ds, _, h => by
    cases h with
    | cons a b => exact .cons (Rep.mono e d _ a) (RepAll.mono e ds _ b)
end
/-- lists taken away; b: instances too -/
def LessL (b : Bool) (F F' : Hp) : Prop := ∀ p o, F p = some o → ((∃ xs, o = .lst xs) ∨ (b = true ∧ ∃ C dx fs, o = .ins C dx fs)) ∨ F' p = some o
mutual
theorem Rep.less {b : Bool} {F F' : Hp} (e : LessL b F F') : ∀ (d : D) (v : V), d.nlx b = true → Rep K mg F v d → Rep K mg F' v d
  | .non, _, _, h => by cases h; exact .non
  | .bl b, _, _, h => by cases h; exact .bl b
  | .int i, _, _, h => by cases h; exact .int i
  | .str x, _, _, h => by cases h; exact .str x
  | .lst ds, _, n, h => by
    have : false = true := n
    cases this
  | .tup ds, _, n, h => by
    cases h with
    | tup a c =>
      refine .tup ?_ (RepAll.less e ds _ n c)
      rcases a with (a | ⟨o, a⟩) | a
      · rcases e _ _ a with (⟨xs, q⟩ | ⟨_, _, _, _, q⟩) | q
        · cases q
        · cases q
        · exact .inl (.inl q)
      · rcases e _ _ a with (⟨xs, q⟩ | ⟨_, _, _, _, q⟩) | q
        · cases q
        · cases q
        · exact .inl (.inr ⟨o, q⟩)
      · exact .inr a
  | .obj c ns ds, _, n, h => by
    have n : (!b && nlxs b ds) = true := n
    rw [Bool.and_eq_true, Bool.not_eq_true'] at n
    cases h with
    | obj a c m r =>
      rcases e _ _ c with (⟨xs, q⟩ | ⟨q, _⟩) | q
      · cases q
      · rw [n.1] at q; cases q
      · exact .obj a q m (RepAll.less e ds _ n.2 r)
theorem RepAll.less {b : Bool} {F F' : Hp} (e : LessL b F F') : ∀ (ds : List D) (vs : List V), nlxs b ds = true → RepAll K mg F vs ds → RepAll K mg F' vs ds
  | [], _, _, h => by cases h; exact .nil
  | d :: ds, _, n, h => by
    have n' : (d.nlx b && nlxs b ds) = true := n
    rw [Bool.and_eq_true] at n'
    cases h with
    | cons a c => exact .cons (Rep.less e d _ n'.1 a) (RepAll.less e ds _ n'.2 c)
end
theorem RepAll.length {F : Hp} : ∀ {vs : List V} {ds : List D}, RepAll K mg F vs ds → vs.length = ds.length
  | [], [], _ => rfl
  | [], _ :: _, h => by cases h
  | _ :: _, [], h => by cases h
  | _ :: _, _ :: _, h => by
    cases h with
    | cons a b => rw [List.length_cons, List.length_cons, RepAll.length b]
theorem RepAll.get {F : Hp} : ∀ {vs : List V} {ds : List D} {i : Nat} {d : D}, RepAll K mg F vs ds → ds[i]? = some d → ∃ v, vs[i]? = some v ∧ Rep K mg F v d
  | [], [], _, _, _, e => by simp at e
  | [], _ :: _, _, _, h, _ => by cases h
  | _ :: _, [], _, _, h, _ => by cases h
  | _ :: _, _ :: _, 0, _, h, e => by
    cases h with
    | cons a b => simp at e; subst e; exact ⟨_, rfl, a⟩
  | _ :: _, _ :: _, i + 1, _, h, e => by
    cases h with
    | cons a b =>
      obtain ⟨v, h1, h2⟩ := RepAll.get (i := i) b (by simpa using e)
      exact ⟨v, by simpa using h1, h2⟩
theorem RepAll.append {F : Hp} : ∀ {vs us : List V} {ds es : List D}, RepAll K mg F vs ds → RepAll K mg F us es → RepAll K mg F (vs ++ us) (ds ++ es)
  | [], _, [], _, _, s => s
  | [], _, _ :: _, _, h, _ => by cases h
  | _ :: _, _, [], _, h, _ => by cases h
  | _ :: _, _, _ :: _, _, h, s => by
    cases h with
    | cons a b => exact .cons a (RepAll.append b s)
theorem RepAll.take {F : Hp} : ∀ {vs : List V} {ds : List D} (n : Nat), RepAll K mg F vs ds → RepAll K mg F (vs.take n) (ds.take n)
  | _, _, 0, _ => by simpa using RepAll.nil
  | [], [], _ + 1, _ => .nil
  | [], _ :: _, _ + 1, h => by cases h
  | _ :: _, [], _ + 1, h => by cases h
  | _ :: _, _ :: _, n + 1, h => by
    cases h with
    | cons a b => exact .cons a (RepAll.take n b)
theorem RepAll.drop {F : Hp} : ∀ {vs : List V} {ds : List D} (n : Nat), RepAll K mg F vs ds → RepAll K mg F (vs.drop n) (ds.drop n)
  | _, _, 0, h => h
  | [], [], _ + 1, _ => .nil
  | [], _ :: _, _ + 1, h => by cases h
  | _ :: _, [], _ + 1, h => by cases h
  | _ :: _, _ :: _, n + 1, h => by
    cases h with
    | cons a b => exact RepAll.drop n b
theorem RepAll.set {F : Hp} {v : V} {d : D} (r : Rep K mg F v d) : ∀ {vs : List V} {ds : List D} (i : Nat), RepAll K mg F vs ds → RepAll K mg F (vs.set i v) (ds.set i d)
  | [], [], _, _ => .nil
  | [], _ :: _, _, h => by cases h
  | _ :: _, [], _, h => by cases h
  | _ :: _, _ :: _, 0, h => by
    cases h with
    | cons a b => exact .cons r b
  | _ :: _, _ :: _, i + 1, h => by
    cases h with
    | cons a b => exact .cons a (RepAll.set r i b)
theorem RepAll.reverse {F : Hp} : ∀ {vs : List V} {ds : List D}, RepAll K mg F vs ds → RepAll K mg F vs.reverse ds.reverse
  | [], [], _ => .nil
  | [], _ :: _, h => by cases h
  | _ :: _, [], h => by cases h
  | _ :: _, _ :: _, h => by
    cases h with
    | cons a b =>
      rw [List.reverse_cons, List.reverse_cons]
      exact RepAll.append (RepAll.reverse b) (.cons a .nil)
theorem RepAll.one {F : Hp} {vs : List V} {d : D} (h : RepAll K mg F vs [d]) : ∃ v, vs = [v] ∧ Rep K mg F v d := by
  cases h with
  | cons a b => cases b; exact ⟨_, rfl, a⟩
theorem RepAll.two {F : Hp} {vs : List V} {d e : D} (h : RepAll K mg F vs [d, e]) : ∃ v u, vs = [v, u] ∧ Rep K mg F v d ∧ Rep K mg F u e := by
  cases h with
  | cons a b =>
    cases b with
    | cons a' b' => cases b'; exact ⟨_, _, rfl, a, a'⟩
end

/-! ### the heap grows -/
/-- from (F, H): F what stands still, H all that is tracked -/
def Ext (F H F' H' : Hp) : Prop := Same F F' ∧ Same F' H' ∧ Same H H' ∧ ∀ p o, H p = some o → F' p = F p
section
variable {F H F1 H1 F2 H2 : Hp} {p : Addr} {o : HO}
theorem Ext.refl (h : Same F H) : Ext F H F H := ⟨Same.refl F, h, Same.refl H, fun _ _ _ => rfl⟩
theorem Ext.trans (a : Ext F H F1 H1) (b : Ext F1 H1 F2 H2) : Ext F H F2 H2 :=
  ⟨a.1.trans b.1, b.2.1, a.2.2.1.trans b.2.2.1, fun p o h => (b.2.2.2 p o (a.2.2.1 p o h)).trans (a.2.2.2 p o h)⟩
theorem same_upd (n : H p = none) : Same H (upd H p o) := fun b x e => by
  rw [upd_ne (ne_of_none e n)]
  exact e
theorem Ext.new (h : Same F H) (n : H p = none) : Ext F H (upd F p o) (upd H p o) := by
  refine ⟨same_upd (h.free n), fun b x e => ?_, same_upd n, fun b x e => ?_⟩
  · by_cases z : b = p
    · subst z; rw [upd_same] at e ⊢; exact e
    · rw [upd_ne z] at e ⊢; exact h _ _ e
  · exact upd_ne (ne_of_none e n)
/-- a new object that is not frozen -/
theorem Ext.new0 (h : Same F H) (n : H p = none) : Ext F H F (upd H p o) :=
  ⟨Same.refl F, h.trans (same_upd n), same_upd n, fun _ _ _ => rfl⟩
end

/-! ### what comes out -/
def XFs (K : PySem.W.Frag) (mg : Str → Option Value) (H H' : Hp) (d : Option Addr) (ns : List Str) (fs : List D) : Prop :=
  (ns = [] ∧ d = none) ∨ ∃ dx fv, d = some dx ∧ H dx = none ∧ H' dx = some (.xd fv) ∧ fv.map (·.1) = ns ∧ RepAll K mg (fun _ => none) (fv.map (·.2)) fs
theorem XFs.back {K : PySem.W.Frag} {mg : Str → Option Value} {H H1 H' : Hp} {d : Option Addr} {ns : List Str} {fs : List D} (e : Same H H1) (x : XFs K mg H1 H' d ns fs) : XFs K mg H H' d ns fs := by
  rcases x with x | ⟨dx, fv, e1, e2, r⟩
  · exact .inl x
  · exact .inr ⟨dx, fv, e1, e.free e2, r⟩

def Out (K : PySem.W.Frag) (mg : Str → Option Value) {α β : Type} (We : WX) (R : Hp → Hp → Hp → α → β → Prop) (F H : Hp) (σ : L2.St) (Q : α → Hp → Prop) : Res β → Prop
  | .ok d => ∀ F' H' v, Ext F H F' H' → R H F' H' v d → Q v H'
  | .er x => ∀ C d H', Same H H' → mg x.c = some (.ref C) → XFs K mg H H' d x.ns x.fs → We (.ref C) d σ H'
  | .st => False
abbrev RD (K : PySem.W.Frag) (mg : Str → Option Value) : Hp → Hp → Hp → V → D → Prop := fun _ F' _ v d => Rep K mg F' v d
abbrev RDs (K : PySem.W.Frag) (mg : Str → Option Value) : Hp → Hp → Hp → List V → List D → Prop := fun _ F' _ v d => RepAll K mg F' v d
abbrev RB : Hp → Hp → Hp → Bool → Bool → Prop := fun _ _ _ v d => v = d
/-- a new list -/
def RF (K : PySem.W.Frag) (mg : Str → Option Value) : Hp → Hp → Hp → V → List D → Prop := fun H F' H' v xs =>
  ∃ p vs, v = .ref p ∧ H p = none ∧ F' p = none ∧ H' p = some (.lst vs) ∧ RepAll K mg F' vs xs
class Anti {α β : Type} (R : Hp → Hp → Hp → α → β → Prop) : Prop where
  anti : ∀ {H H1 F' H' : Hp} {v : α} {d : β}, Same H H1 → R H1 F' H' v d → R H F' H' v d
instance {K : PySem.W.Frag} {mg : Str → Option Value} : Anti (RD K mg) := ⟨fun _ h => h⟩
instance {K : PySem.W.Frag} {mg : Str → Option Value} : Anti (RDs K mg) := ⟨fun _ h => h⟩
instance : Anti RB := ⟨fun _ h => h⟩
instance {K : PySem.W.Frag} {mg : Str → Option Value} : Anti (RF K mg) := ⟨fun e ⟨p, vs, h1, h2, h3⟩ => ⟨p, vs, h1, e.free h2, h3⟩⟩
section
variable {K : PySem.W.Frag} {mg : Str → Option Value} {α β γ δ : Type} {We : WX} {R : Hp → Hp → Hp → α → β → Prop} {T : Hp → Hp → Hp → γ → δ → Prop} {F H F1 H1 : Hp} {σ : L2.St} {Q : α → Hp → Prop} {Q' : γ → Hp → Prop}
theorem Out.mono [Anti R] {r : Res β} (h : Out K mg We R F H σ Q r) (e : Ext F H F1 H1) : Out K mg We R F1 H1 σ Q r := by
  cases r with
  | ok d => exact fun F' H' v e' q => h F' H' v (e.trans e') (Anti.anti e.2.2.1 q)
  | er x => exact fun C d H' e' m q => h C d H' (e.2.2.1.trans e') m (q.back e.2.2.1)
  | st => exact h
theorem Out.bind [Anti R] {r : Res δ} {g : δ → Res β} (h : Out K mg We R F H σ Q (r.bind g)) (k : ∀ d F1 H1 v, Ext F H F1 H1 → T H F1 H1 v d → Out K mg We R F1 H1 σ Q (g d) → Q' v H1) : Out K mg We T F H σ Q' r := by
  cases r with
  | ok d => exact fun F' H' v e' q => k d F' H' v e' q (Out.mono (R := R) h e')
  | er x => exact h
  | st => exact h
theorem Out.imp {r : Res β} {Q1 : α → Hp → Prop} (h : Out K mg We R F H σ Q r) (k : ∀ F' H' v d, Ext F H F' H' → R H F' H' v d → Q v H' → Q1 v H') : Out K mg We R F H σ Q1 r := by
  cases r with
  | ok d => exact fun F' H' v e' q => k F' H' v d e' q (h F' H' v e' q)
  | er x => exact h
  | st => exact h
end

/-! ### the slots as data -/
def EnvE (K : PySem.W.Frag) (mg : Str → Option Value) (S : List Nat) (F : Hp) (σ : L2.St) (ρ : DEnv) : Prop :=
  σ.length = ρ.length ∧ ∀ i ∈ S, ∀ s d, ρ[i]? = some s → s.val = some d → ∃ v, σ[i]? = some (some v) ∧ Rep K mg F v d
section
variable {K : PySem.W.Frag} {mg : Str → Option Value} {S T : List Nat} {F F' : Hp} {σ : L2.St} {ρ : DEnv}
theorem EnvE.mono (h : EnvE K mg S F σ ρ) (e : Same F F') : EnvE K mg S F' σ ρ := ⟨h.1, fun i hi s d a b => by
  obtain ⟨v, q, r⟩ := h.2 i hi s d a b
  exact ⟨v, q, r.mono e⟩⟩
theorem EnvE.sub (h : EnvE K mg T F σ ρ) (e : ∀ i ∈ S, i ∈ T) : EnvE K mg S F σ ρ := ⟨h.1, fun i hi => h.2 i (e i hi)⟩
theorem EnvE.l (h : EnvE K mg (S ++ T) F σ ρ) : EnvE K mg S F σ ρ := h.sub fun _ q => List.mem_append_left _ q
theorem EnvE.r (h : EnvE K mg (S ++ T) F σ ρ) : EnvE K mg T F σ ρ := h.sub fun _ q => List.mem_append_right _ q
end
/-- the reading of a function of the slots -/
def tG (K : PySem.W.Frag) (mg : Str → Option Value) {α β : Type} (We : WX) (R : Hp → Hp → Hp → α → β → Prop) (S : List Nat) (f : DEnv → Res β) : L2.St → Hp → (α → Hp → Prop) → Prop := fun σ H Q =>
  ∃ F ρ, Same F H ∧ EnvE K mg S F σ ρ ∧ Out K mg We R F H σ Q (f ρ)

abbrev PD (X : Cx) (We : WX) (S : List Nat) (e : PySem.Expr) (f : DEnv → Res D) : Prop := PE X e (tG X.K X.mg We (RD X.K X.mg) S f)
abbrev PF (X : Cx) (We : WX) (S : List Nat) (e : PySem.Expr) (f : DEnv → Res (List D)) : Prop := PE X e (tG X.K X.mg We (RF X.K X.mg) S f)
abbrev PTD (X : Cx) (We : WX) (S : List Nat) (e : PySem.Expr) (f : DEnv → Res Bool) : Prop := PT X e (tG X.K X.mg We RB S f)
abbrev PWD (X : Cx) (We : WX) (S : List Nat) (e : PySem.Expr) (f : DEnv → Res Bool) : Prop := PW X e (tG X.K X.mg We RB S f)
abbrev PAD (X : Cx) (We : WX) (S : List Nat) (es : List PySem.Expr) (f : DEnv → Res (List D)) : Prop := PA X es (tG X.K X.mg We (RDs X.K X.mg) S f)

section
variable {X : Cx} {e : PySem.Expr} {es : List PySem.Expr}
theorem pe_imp {t t' : TE} (h : PE X e t) (i : ∀ σ H Q, t' σ H Q → t σ H Q) : PE X e t' := ⟨fun pins s σ H Q I q => h.run pins s σ H Q I (i σ H Q q)⟩
theorem pt_imp {t t' : TT} (h : PT X e t) (i : ∀ σ H Q, t' σ H Q → t σ H Q) : PT X e t' := ⟨fun pins s σ H Q I q => h.run pins s σ H Q I (i σ H Q q)⟩
theorem pw_imp {t t' : TT} (h : PW X e t) (i : ∀ σ H Q, t' σ H Q → t σ H Q) : PW X e t' := ⟨fun wh pins s σ H Q I q => h.run wh pins s σ H Q I (i σ H Q q)⟩
theorem pa_imp {t t' : TA} (h : PA X es t) (i : ∀ σ H Q, t' σ H Q → t σ H Q) : PA X es t' := ⟨fun pos pins s σ H Q I q => h.run pos pins s σ H Q I (i σ H Q q)⟩
theorem ps_imp {st : Stmt} {t t' : TS} (h : PS X st t) (i : ∀ D σ H, t' D σ H → t D σ H) : PS X st t' := ⟨fun pins s σ H D I q => h.run pins s σ H D I (i D σ H q)⟩
theorem pss_imp {st : List Stmt} {t t' : TS} (h : PSs X st t) (i : ∀ D σ H, t' D σ H → t D σ H) : PSs X st t' := ⟨fun pins s σ H D I q => h.run pins s σ H D I (i D σ H q)⟩
end

/-! ### names, constants -/
def eVar (i : Nat) : DEnv → Res D := fun ρ => match ρ[i]? with
  | some s => match s.val with
    | some d => .ok d
    | none => .st
  | none => .st
def eC (d : D) : DEnv → Res D := fun _ => .ok d
section
variable {X : Cx} {We : WX} {pos : Pos}
theorem pd_var (i : Nat) {x : Str} (hN : X.N[i]? = some x := by rfl) (hv : Vis X.env.scope x := by first | exact Or.inl rfl | exact Or.inr (Or.inl rfl) | exact Or.inr (Or.inr rfl)) (hd : (x == ("__debug__" : Str)) = false := by decide)
    (hcd : (x == ("__classdict__" : Str)) = false := by decide) : PD X We [i] (.Name x pos) (eVar i) := by
  refine pe_imp (pe_var hN hv hd hcd) fun σ H Q ⟨F, ρ, hF, hE, h⟩ => ?_
  unfold eVar at h
  cases h1 : ρ[i]? with
  | none => rw [h1] at h; exact h.elim
  | some s =>
    rw [h1] at h
    cases h2 : s.val with
    | none => simp only [h2] at h; exact h.elim
    | some d =>
      simp only [h2] at h
      obtain ⟨v, a, b⟩ := hE.2 i (by simp) s d h1 h2
      exact ⟨v, a, h F H v (Ext.refl hF) b⟩
theorem pd_c {v : V} {d : D} (h : PE X e (tC v)) (r : ∀ F, Rep X.K X.mg F v d) : PD X We [] e (eC d) :=
  pe_imp h fun σ H Q ⟨F, ρ, hF, hE, q⟩ => q F H v (Ext.refl hF) (r F)
theorem pd_int {i : Int} {j} : PD X We [] (.Constant (.int i) j pos) (eC (.int i)) := pd_c pe_int fun _ => .int i
theorem pd_bl {b : Bool} {j} : PD X We [] (.Constant (.bool b) j pos) (eC (.bl b)) := pd_c pe_bl fun _ => .bl b
theorem pd_non {j} : PD X We [] (.Constant .none j pos) (eC .non) := pd_c pe_non fun _ => .non
theorem pd_str {x : Str} {j} : PD X We [] (.Constant (.str x) j pos) (eC (.str x)) := pd_c pe_str fun _ => .str x
end

/-! ### operators by values -/
/-- what an operator's rule asks, from data -/
def OpD (K : PySem.W.Frag) (mg : Str → Option Value) (r : R2) (o : D → D → Res D) : Prop :=
  ∀ (We : WX) (F H : Hp) (σ : L2.St) (x y : D) (v u : V) (Q : VK), Same F H → Rep K mg F v x → Rep K mg F u y → Out K mg We (RD K mg) F H σ Q (o x y) → r v u H Q
def OpF (K : PySem.W.Frag) (mg : Str → Option Value) (r : R2) (o : D → D → Res (List D)) : Prop :=
  ∀ (We : WX) (F H : Hp) (σ : L2.St) (x y : D) (v u : V) (Q : VK), Same F H → Rep K mg F v x → Rep K mg F u y → Out K mg We (RF K mg) F H σ Q (o x y) → r v u H Q
def e2 {β : Type} (o : D → D → Res β) (fa fb : DEnv → Res D) : DEnv → Res β := fun ρ => (fa ρ).bind fun x => (fb ρ).bind fun y => o x y
def e1 {β : Type} (o : D → Res β) (fa : DEnv → Res D) : DEnv → Res β := fun ρ => (fa ρ).bind fun x => o x
section
variable {K : PySem.W.Frag} {mg : Str → Option Value} {We : WX} {Sa Sb Sc : List Nat} {fa fb fc : DEnv → Res D}
theorem tG_op {r : R2} {o : D → D → Res D} (hop : OpD K mg r o) {σ : L2.St} {H : Hp} {Q : VK} (h : tG K mg We (RD K mg) (Sa ++ Sb) (e2 o fa fb) σ H Q) :
    tOp r (tG K mg We (RD K mg) Sa fa) (tG K mg We (RD K mg) Sb fb) σ H Q := by
  obtain ⟨F, ρ, hF, hE, q⟩ := h
  refine ⟨F, ρ, hF, hE.l, Out.bind q fun x F1 H1 v ex rx q1 => ?_⟩
  refine ⟨F1, ρ, ex.2.1, hE.r.mono ex.1, Out.bind q1 fun y F2 H2 u ey ry q2 => ?_⟩
  exact hop We F2 H2 σ x y v u Q ey.2.1 (rx.mono ey.1) ry q2
theorem tG_opF {r : R2} {o : D → D → Res (List D)} (hop : OpF K mg r o) {σ : L2.St} {H : Hp} {Q : VK} (h : tG K mg We (RF K mg) (Sa ++ Sb) (e2 o fa fb) σ H Q) :
    tOp r (tG K mg We (RD K mg) Sa fa) (tG K mg We (RD K mg) Sb fb) σ H Q := by
  obtain ⟨F, ρ, hF, hE, q⟩ := h
  refine ⟨F, ρ, hF, hE.l, Out.bind q fun x F1 H1 v ex rx q1 => ?_⟩
  refine ⟨F1, ρ, ex.2.1, hE.r.mono ex.1, Out.bind q1 fun y F2 H2 u ey ry q2 => ?_⟩
  exact hop We F2 H2 σ x y v u Q ey.2.1 (rx.mono ey.1) ry q2
end
section
variable {X : Cx} {We : WX} {Sa Sb Sc : List Nat} {fa fb fc : DEnv → Res D} {a b c : PySem.Expr} {pos : Pos} {op op' : Operator}
theorem pd_bin {op : Operator} {r : R2} {o : D → D → Res D} (ho : OpR X (binaryOp op) r) (hop : OpD X.K X.mg r o) (ha : PD X We Sa a fa) (hb : PD X We Sb b fb) : PD X We (Sa ++ Sb) (.BinOp a op b pos) (e2 o fa fb) :=
  pe_imp (pe_op ho ha hb) fun _ _ _ h => tG_op hop h
theorem pf_bin {op : Operator} {r : R2} {o : D → D → Res (List D)} (ho : OpR X (binaryOp op) r) (hop : OpF X.K X.mg r o) (ha : PD X We Sa a fa) (hb : PD X We Sb b fb) : PF X We (Sa ++ Sb) (.BinOp a op b pos) (e2 o fa fb) :=
  pe_imp (pe_op ho ha hb) fun _ _ _ h => tG_opF hop h
theorem pd_cmp {op : CmpOp} {r : R2} {o : D → D → Res D} (ho : OpR X (compareOp op) r) (hop : OpD X.K X.mg r o) (ha : PD X We Sa a fa) (hb : PD X We Sb b fb) (hm : behindInMarks op b = false) : PD X We (Sa ++ Sb) (.Compare a [op] [b] pos) (e2 o fa fb) :=
  pe_imp (pe_cmpR ho ha hb hm) fun _ _ _ h => tG_op hop h
end
/-- a result that is a bool -/
def asB : D → Res Bool
  | .bl b => .ok b
  | _ => .st
def eB (f : DEnv → Res D) : DEnv → Res Bool := fun ρ => (f ρ).bind asB
section
variable {K : PySem.W.Frag} {mg : Str → Option Value} {We : WX} {F H : Hp} {σ : L2.St}
theorem asB_out {d : D} {v : V} {Q : Bool → Hp → Prop} (hF : Same F H) (r : Rep K mg F v d) (h : Out K mg We RB F H σ Q (asB d)) : ∃ k, v = .bl k ∧ Q k H := by
  cases d with
  | bl b => cases r; exact ⟨b, rfl, h F H b (Ext.refl hF) rfl⟩
  | _ => exact h.elim
/-- a value's reading continues as a bool's -/
theorem tG_B {S : List Nat} {f : DEnv → Res D} {Q : Bool → Hp → Prop} (h : tG K mg We RB S (eB f) σ H Q) : tG K mg We (RD K mg) S f σ H (fun x H' => ∃ k, x = .bl k ∧ Q k H') := by
  obtain ⟨F, ρ, hF, hE, q⟩ := h
  exact ⟨F, ρ, hF, hE, Out.bind q fun x F1 H1 v ex rx q1 => asB_out ex.2.1 rx q1⟩
end
section
variable {X : Cx} {We : WX} {Sa Sb Sc : List Nat} {fa fb fc : DEnv → Res D} {a b c : PySem.Expr} {pos : Pos}
theorem ptd_cmp {op : CmpOp} {r : R2} {o : D → D → Res D} (ho : OpR X (compareOp op) r) (hop : OpD X.K X.mg r o) (ha : PD X We Sa a fa) (hb : PD X We Sb b fb) (hm : behindInMarks op b = false) : PTD X We (Sa ++ Sb) (.Compare a [op] [b] pos) (eB (e2 o fa fb)) :=
  pt_imp (pt_cmpR ho ha hb hm) fun _ _ _ h => tG_op hop (tG_B h)
/-- a op b op' c -/
def eCh (o o' : D → D → Res D) (fa fb fc : DEnv → Res D) : DEnv → Res D := fun ρ => (fa ρ).bind fun x => (fb ρ).bind fun y => (o x y).bind fun k => match k with
  | .bl true => (fc ρ).bind fun z => o' y z
  | .bl false => .ok (.bl false)
  | _ => .st
theorem tG_ch {r r' : R2} {o o' : D → D → Res D} (hop : OpD X.K X.mg r o) (hop' : OpD X.K X.mg r' o') {σ : L2.St} {H : Hp} {Q : VK} (h : tG X.K X.mg We (RD X.K X.mg) (Sa ++ Sb ++ Sc) (eCh o o' fa fb fc) σ H Q) :
    tChain r r' (tG X.K X.mg We (RD X.K X.mg) Sa fa) (tG X.K X.mg We (RD X.K X.mg) Sb fb) (tG X.K X.mg We (RD X.K X.mg) Sc fc) σ H Q := by
  obtain ⟨F, ρ, hF, hE, q⟩ := h
  refine ⟨F, ρ, hF, hE.l.l, Out.bind q fun x F1 H1 v ex rx q1 => ?_⟩
  refine ⟨F1, ρ, ex.2.1, hE.l.r.mono ex.1, Out.bind q1 fun y F2 H2 u ey ry q2 => ?_⟩
  refine hop We F2 H2 σ x y v u _ ey.2.1 (rx.mono ey.1) ry (Out.bind q2 fun k F3 H3 z ek rk q3 => ?_)
  cases k with
  | bl k =>
    cases rk
    refine ⟨k, rfl, ?_⟩
    cases k with
    | true =>
      rw [if_pos rfl]
      refine ⟨F3, ρ, ek.2.1, hE.r.mono ((ex.1.trans ey.1).trans ek.1), Out.bind q3 fun z F4 H4 w ez rz q4 => ?_⟩
      exact hop' We F4 H4 σ y z u w Q ez.2.1 ((ry.mono ek.1).mono ez.1) rz q4
    | false =>
      rw [if_neg Bool.false_ne_true]
      exact q3 F3 H3 _ (Ext.refl ek.2.1) (.bl false)
  | _ => exact q3.elim
theorem pd_chain {op op' : CmpOp} {r r' : R2} {o o' : D → D → Res D} (ho : OpR X (compareOp op) r) (hop : OpD X.K X.mg r o) (ho' : OpR X (compareOp op') r') (hop' : OpD X.K X.mg r' o') (ha : PD X We Sa a fa) (hb : PD X We Sb b fb) (hc : PD X We Sc c fc)
    (hm : lastMarks [op, op'] [b, c] = false := by with_unfolding_all rfl) : PD X We (Sa ++ Sb ++ Sc) (.Compare a [op, op'] [b, c] pos) (eCh o o' fa fb fc) :=
  pe_imp (pe_chain ho ho' ha hb hc hm) fun _ _ _ h => tG_ch hop hop' h
theorem ptd_chain {op op' : CmpOp} {r r' : R2} {o o' : D → D → Res D} (ho : OpR X (compareOp op) r) (hop : OpD X.K X.mg r o) (ho' : OpR X (compareOp op') r') (hop' : OpD X.K X.mg r' o') (ha : PD X We Sa a fa) (hb : PD X We Sb b fb) (hc : PD X We Sc c fc)
    (hm : lastMarks [op, op'] [b, c] = false := by with_unfolding_all rfl) : PTD X We (Sa ++ Sb ++ Sc) (.Compare a [op, op'] [b, c] pos) (eB (eCh o o' fa fb fc)) :=
  pt_imp (pt_chain ho ho' ha hb hc hm) fun _ _ _ h => tG_ch hop hop' (tG_B h)
end

/-! ### tests -/
def lim : Nat := 100000
theorem lim_le : lim ≤ sizeLine := by rw [sizeLine_eq]; decide
theorem le_line {n : Nat} (h : n ≤ lim) : n ≤ sizeLine := Nat.le_trans h lim_le
theorem lt_line {n : Nat} (h : n < lim) : n < sizeLine := Nat.lt_of_lt_of_le h lim_le
/-- a value's truth -/
def truth : D → Res Bool
  | .non => .ok false
  | .bl b => .ok b
  | .int i => .ok (i != 0)
  | .str z => if z.length ≤ lim then .ok ((z.length : Int) != 0) else .st
  | .lst xs => .ok (!xs.isEmpty)
  | .tup xs => .ok (!xs.isEmpty)
  | .obj _ _ _ => .st
theorem RepAll.isEmpty {K : PySem.W.Frag} {mg : Str → Option Value} {F : Hp} {vs : List V} {ds : List D} (r : RepAll K mg F vs ds) : vs.isEmpty = ds.isEmpty := by
  cases r <;> rfl
theorem SqL.same {K : PySem.W.Frag} {F H : Hp} {a : Addr} {xs : List V} (e : Same F H) (h : SqL K F a xs) : SqL K H a xs := e.seq h
theorem SqT.same {K : PySem.W.Frag} {F H : Hp} {a : Addr} {xs : List V} (e : Same F H) (h : SqT K F a xs) : SqT K H a xs := by
  rcases h with (h | ⟨o, h⟩) | h
  · exact .inl (.inl (e _ _ h))
  · exact .inl (.inr ⟨o, e _ _ h⟩)
  · exact .inr h
section
variable {K : PySem.W.Frag} {mg : Str → Option Value} {We : WX} {F H : Hp} {σ : L2.St}
theorem truth_out {d : D} {v : V} {Q : Bool → Hp → Prop} (hF : Same F H) (r : Rep K mg F v d) (h : Out K mg We RB F H σ Q (truth d)) : ∃ k, TruV K v H k ∧ Q k H := by
  cases d with
  | non => cases r; exact ⟨false, rfl, h F H _ (Ext.refl hF) rfl⟩
  | bl b => cases r; exact ⟨b, rfl, h F H _ (Ext.refl hF) rfl⟩
  | int i => cases r; exact ⟨i != 0, rfl, h F H _ (Ext.refl hF) rfl⟩
  | str z =>
    cases r
    have h : Out K mg We RB F H σ Q (if z.length ≤ lim then .ok ((z.length : Int) != 0) else .st) := h
    by_cases hz : z.length ≤ lim
    · rw [if_pos hz] at h
      exact ⟨_, ⟨le_line hz, rfl⟩, h F H _ (Ext.refl hF) rfl⟩
    · rw [if_neg hz] at h; exact h.elim
  | lst xs =>
    cases r with
    | lst a b => exact ⟨_, .inl ⟨_, SqL.same hF a, rfl⟩, h F H _ (Ext.refl hF) (by rw [b.isEmpty])⟩
  | tup xs =>
    cases r with
    | tup a b => exact ⟨_, .inr (.inl ⟨_, SqT.same hF a, rfl⟩), h F H _ (Ext.refl hF) (by rw [b.isEmpty])⟩
  | obj _ _ _ => exact h.elim
end
def eTru (f : DEnv → Res D) : DEnv → Res Bool := fun ρ => (f ρ).bind truth
def eAnd (f g : DEnv → Res Bool) : DEnv → Res Bool := fun ρ => (f ρ).bind fun b => if b then g ρ else .ok false
def eOr (f g : DEnv → Res Bool) : DEnv → Res Bool := fun ρ => (f ρ).bind fun b => if b then .ok true else g ρ
def eNot (f : DEnv → Res Bool) : DEnv → Res Bool := fun ρ => (f ρ).bind fun b => .ok (!b)
def eIf {β : Type} (c : DEnv → Res Bool) (f g : DEnv → Res β) : DEnv → Res β := fun ρ => (c ρ).bind fun b => if b then f ρ else g ρ
def eAndV (f g : DEnv → Res D) : DEnv → Res D := fun ρ => (f ρ).bind fun x => (asB x).bind fun b => if b then g ρ else .ok (.bl false)
def eOrV (f g : DEnv → Res D) : DEnv → Res D := fun ρ => (f ρ).bind fun x => (asB x).bind fun b => if b then .ok (.bl true) else g ρ
def eNotV (f : DEnv → Res D) : DEnv → Res D := fun ρ => (f ρ).bind fun x => (asB x).bind fun b => .ok (.bl (!b))
section
variable {X : Cx} {We : WX} {Sa Sb Sc : List Nat} {fa fb : DEnv → Res D} {ca cb : DEnv → Res Bool} {a b c : PySem.Expr} {rest : List PySem.Expr} {pos : Pos}
theorem ptd_tru (ha : PD X We Sa a fa) (he : ∀ whole, isTrue a X.env whole = (do let v ← whole; standAt a.pos; holding [v] (truthy v)) := by intro _; rfl) : PTD X We Sa a (eTru fa) :=
  pt_imp (pt_truth ha he) fun σ H Q ⟨F, ρ, hF, hE, q⟩ => ⟨F, ρ, hF, hE, Out.bind q fun x F1 H1 v ex rx q1 => truth_out ex.2.1 rx q1⟩
theorem ptd_val (ha : PD X We Sa a fa) (he : ∀ whole, isTrue a X.env whole = (do let v ← whole; standAt a.pos; holding [v] (truthy v)) := by intro _; rfl) : PTD X We Sa a (eB fa) :=
  pt_imp (pt_val ha he) fun σ H Q h => tG_B h
theorem ptd_not (ha : PTD X We Sa a ca) : PTD X We Sa (.UnaryOp .Not a pos) (eNot ca) :=
  pt_imp (pt_not ha) fun σ H Q ⟨F, ρ, hF, hE, q⟩ => ⟨F, ρ, hF, hE, Out.bind q fun x F1 H1 v ex rx q1 => by
    have e : v = x := rx
    subst e
    exact q1 F1 H1 _ (Ext.refl ex.2.1) rfl⟩
theorem tG_and {σ : L2.St} {H : Hp} {Q : Bool → Hp → Prop} (h : tG X.K X.mg We RB (Sa ++ Sb) (eAnd ca cb) σ H Q) : tAnd (tG X.K X.mg We RB Sa ca) (tG X.K X.mg We RB Sb cb) σ H Q := by
  obtain ⟨F, ρ, hF, hE, q⟩ := h
  refine ⟨F, ρ, hF, hE.l, Out.bind q fun x F1 H1 v ex rx q1 => ?_⟩
  have e : v = x := rx
  subst e
  cases v with
  | true => rw [if_pos rfl]; exact ⟨F1, ρ, ex.2.1, hE.r.mono ex.1, q1⟩
  | false => rw [if_neg Bool.false_ne_true]; exact q1 F1 H1 _ (Ext.refl ex.2.1) rfl
theorem tG_or {σ : L2.St} {H : Hp} {Q : Bool → Hp → Prop} (h : tG X.K X.mg We RB (Sa ++ Sb) (eOr ca cb) σ H Q) : tOr (tG X.K X.mg We RB Sa ca) (tG X.K X.mg We RB Sb cb) σ H Q := by
  obtain ⟨F, ρ, hF, hE, q⟩ := h
  refine ⟨F, ρ, hF, hE.l, Out.bind q fun x F1 H1 v ex rx q1 => ?_⟩
  have e : v = x := rx
  subst e
  cases v with
  | true => rw [if_pos rfl]; exact q1 F1 H1 _ (Ext.refl ex.2.1) rfl
  | false => rw [if_neg Bool.false_ne_true]; exact ⟨F1, ρ, ex.2.1, hE.r.mono ex.1, q1⟩
theorem pwd_and1 (ha : PTD X We Sa a ca) : PWD X We Sa (.BoolOp .And [a] pos) ca := pw_and1 ha
theorem pwd_or1 (ha : PTD X We Sa a ca) : PWD X We Sa (.BoolOp .Or [a] pos) ca := pw_or1 ha
theorem pwd_and (ha : PTD X We Sa a ca) (hb : PWD X We Sb (.BoolOp .And (b :: rest) pos) cb) : PWD X We (Sa ++ Sb) (.BoolOp .And (a :: b :: rest) pos) (eAnd ca cb) :=
  pw_imp (pw_and ha hb) fun _ _ _ h => tG_and h
theorem pwd_or (ha : PTD X We Sa a ca) (hb : PWD X We Sb (.BoolOp .Or (b :: rest) pos) cb) : PWD X We (Sa ++ Sb) (.BoolOp .Or (a :: b :: rest) pos) (eOr ca cb) :=
  pw_imp (pw_or ha hb) fun _ _ _ h => tG_or h
theorem ptd_w (h : PWD X We Sa a ca) : PTD X We Sa a ca := h.pt
theorem pd_one {op} (h : PD X We Sa a fa) : PD X We Sa (.BoolOp op [a] pos) fa := pe_one h
theorem pd_and (ha : PD X We Sa a fa) (hb : PD X We Sb (.BoolOp .And (b :: rest) pos) fb) : PD X We (Sa ++ Sb) (.BoolOp .And (a :: b :: rest) pos) (eAndV fa fb) :=
  pe_imp (pe_and ha hb) fun σ H Q ⟨F, ρ, hF, hE, q⟩ => ⟨F, ρ, hF, hE.l, Out.bind q fun x F1 H1 v ex rx q1 => by
    cases x with
    | bl k =>
      cases rx
      refine ⟨k, rfl, ?_⟩
      cases k with
      | true => rw [if_pos rfl]; exact ⟨F1, ρ, ex.2.1, hE.r.mono ex.1, q1⟩
      | false => rw [if_neg Bool.false_ne_true]; exact q1 F1 H1 _ (Ext.refl ex.2.1) (.bl false)
    | _ => exact q1.elim⟩
theorem pd_or (ha : PD X We Sa a fa) (hb : PD X We Sb (.BoolOp .Or (b :: rest) pos) fb) : PD X We (Sa ++ Sb) (.BoolOp .Or (a :: b :: rest) pos) (eOrV fa fb) :=
  pe_imp (pe_or ha hb) fun σ H Q ⟨F, ρ, hF, hE, q⟩ => ⟨F, ρ, hF, hE.l, Out.bind q fun x F1 H1 v ex rx q1 => by
    cases x with
    | bl k =>
      cases rx
      refine ⟨k, rfl, ?_⟩
      cases k with
      | true => rw [if_pos rfl]; exact q1 F1 H1 _ (Ext.refl ex.2.1) (.bl true)
      | false => rw [if_neg Bool.false_ne_true]; exact ⟨F1, ρ, ex.2.1, hE.r.mono ex.1, q1⟩
    | _ => exact q1.elim⟩
theorem pd_not (ha : PD X We Sa a fa) : PD X We Sa (.UnaryOp .Not a pos) (eNotV fa) :=
  pe_imp (pe_not ha) fun σ H Q ⟨F, ρ, hF, hE, q⟩ => ⟨F, ρ, hF, hE, Out.bind q fun x F1 H1 v ex rx q1 => by
    cases x with
    | bl k =>
      cases rx
      exact ⟨k, rfl, q1 F1 H1 _ (Ext.refl ex.2.1) (.bl (!k))⟩
    | _ => exact q1.elim⟩
theorem tG_if {α β : Type} {R : Hp → Hp → Hp → α → β → Prop} [Anti R] {f g : DEnv → Res β} {σ : L2.St} {H : Hp} {Q : α → Hp → Prop} (h : tG X.K X.mg We R (Sa ++ Sb ++ Sc) (eIf ca f g) σ H Q) :
    tG X.K X.mg We RB Sa ca σ H fun c H1 => if c = true then tG X.K X.mg We R Sb f σ H1 Q else tG X.K X.mg We R Sc g σ H1 Q := by
  obtain ⟨F, ρ, hF, hE, q⟩ := h
  refine ⟨F, ρ, hF, hE.l.l, Out.bind q fun x F1 H1 v ex rx q1 => ?_⟩
  have e : v = x := rx
  subst e
  cases v with
  | true => rw [if_pos rfl] at q1 ⊢; exact ⟨F1, ρ, ex.2.1, hE.l.r.mono ex.1, q1⟩
  | false => rw [if_neg Bool.false_ne_true] at q1 ⊢; exact ⟨F1, ρ, ex.2.1, hE.r.mono ex.1, q1⟩
theorem pd_if (hc : PTD X We Sa c ca) (ha : PD X We Sb a fa) (hb : PD X We Sc b fb) : PD X We (Sa ++ Sb ++ Sc) (.IfExp c a b pos) (eIf ca fa fb) :=
  pe_imp (pe_ifExp hc ha hb) fun _ _ _ h => tG_if h
end

/-! ### arguments, displays -/
def eNil : DEnv → Res (List D) := fun _ => .ok []
def eCons (f : DEnv → Res D) (g : DEnv → Res (List D)) : DEnv → Res (List D) := fun ρ => (f ρ).bind fun x => (g ρ).bind fun xs => .ok (x :: xs)
/-- the length as a display or a call wants it -/
def okLen (xs : List D) : Res (List D) := if xs.length ≤ lim then .ok xs else .st
def eTup (f : DEnv → Res (List D)) : DEnv → Res D := fun ρ => (f ρ).bind fun xs => (okLen xs).bind fun ys => .ok (.tup ys)
def eLst (f : DEnv → Res (List D)) : DEnv → Res (List D) := fun ρ => (f ρ).bind okLen
/-- a new list as a value -/
def eFz (f : DEnv → Res (List D)) : DEnv → Res D := fun ρ => (f ρ).bind fun xs => .ok (.lst xs)
section
variable {X : Cx} {We : WX} {Sa Sb : List Nat} {f : DEnv → Res D} {g : DEnv → Res (List D)} {e : PySem.Expr} {es : List PySem.Expr} {pos : Pos}
theorem pad_nil : PAD X We [] [] eNil := pa_imp pa_nil fun σ H Q ⟨F, ρ, hF, hE, q⟩ => q F H _ (Ext.refl hF) .nil
theorem pad_cons (ha : PD X We Sa e f) (hr : PAD X We Sb es g) (hs : starEach (e :: es) X.env = (false, eval e X.env) :: starEach es X.env := by rfl) : PAD X We (Sa ++ Sb) (e :: es) (eCons f g) :=
  pa_imp (pa_cons ha hr hs) fun σ H Q ⟨F, ρ, hF, hE, q⟩ => ⟨F, ρ, hF, hE.l, Out.bind q fun x F1 H1 v ex rx q1 =>
    ⟨F1, ρ, ex.2.1, hE.r.mono ex.1, Out.bind q1 fun xs F2 H2 vs ey ry q2 => q2 F2 H2 _ (Ext.refl ey.2.1) (.cons (rx.mono ey.1) ry)⟩⟩
theorem pd_tup {k} (h : PAD X We Sa es g) : PD X We Sa (.Tuple es k pos) (eTup g) :=
  pe_imp (pe_tup h) fun σ H Q ⟨F, ρ, hF, hE, q⟩ => ⟨F, ρ, hF, hE, Out.bind q fun xs F1 H1 vs ex rx q1 => by
    unfold okLen at q1
    by_cases hl : xs.length ≤ lim
    · rw [if_pos hl] at q1
      refine ⟨by rw [rx.length]; exact le_line hl, fun p hp => ?_⟩
      exact q1 (upd F1 p (.tup vs)) _ _ (Ext.new ex.2.1 hp) (.tup (SqT.of upd_same) (rx.mono (same_upd (ex.2.1.free hp))))
    · rw [if_neg hl] at q1; exact q1.elim⟩
theorem pf_lst (h : PAD X We Sa es g) : PF X We Sa (.List es pos) (eLst g) :=
  pe_imp (pe_lst h) fun σ H Q ⟨F, ρ, hF, hE, q⟩ => ⟨F, ρ, hF, hE, Out.bind q fun xs F1 H1 vs ex rx q1 => by
    unfold okLen at q1
    by_cases hl : xs.length ≤ lim
    · rw [if_pos hl] at q1
      refine ⟨by rw [rx.length]; exact le_line hl, fun p hp => ?_⟩
      exact q1 F1 _ _ (Ext.new0 ex.2.1 hp) ⟨p, vs, rfl, hp, ex.2.1.free hp, upd_same, rx⟩
    · rw [if_neg hl] at q1; exact q1.elim⟩
/-- a new list put to rest -/
theorem fz_ok {K : PySem.W.Frag} {mg : Str → Option Value} {F H F1 H1 : Hp} {v : V} {xs : List D} (ex : Ext F H F1 H1) (h : RF K mg H F1 H1 v xs) : ∃ F2, Ext F H F2 H1 ∧ Same F1 F2 ∧ Rep K mg F2 v (.lst xs) := by
  obtain ⟨p, vs, rfl, hp, f1, h1, r⟩ := h
  refine ⟨upd F1 p (.lst vs), ⟨ex.1.trans (same_upd f1), fun b o q => ?_, ex.2.2.1, fun b o q => ?_⟩, same_upd f1, .lst (SqL.of upd_same) (r.mono (same_upd f1))⟩
  · by_cases z : b = p
    · subst z; rw [upd_same] at q; cases q; exact h1
    · rw [upd_ne z] at q; exact ex.2.1 _ _ q
  · rw [upd_ne (ne_of_none q hp)]; exact ex.2.2.2 b o q
theorem pd_fz (h : PF X We Sa e g) : PD X We Sa e (eFz g) :=
  pe_imp h fun σ H Q ⟨F, ρ, hF, hE, q⟩ => ⟨F, ρ, hF, hE, by
    show Out _ _ _ _ _ _ _ _ (g ρ)
    have q' : Out X.K X.mg We (RD X.K X.mg) F H σ Q ((g ρ).bind fun xs => .ok (.lst xs)) := q
    cases hg : g ρ with
    | ok xs =>
      rw [hg] at q'
      intro F' H' v ex r
      obtain ⟨F2, ex2, _, r2⟩ := fz_ok ex r
      exact q' F2 H' v ex2 r2
    | er x => rw [hg] at q'; exact q'
    | st => rw [hg] at q'; exact q'⟩
end
end DL
set_option Elab.async false
set_option linter.all false
set_option maxRecDepth 100000
set_option maxHeartbeats 1000000
/-! DL2: statements by plain functions of the slots. -/
namespace DL
open PySem PySem.Spec PyProof.Rows L2

/-- a def's base: what stands still and what is tracked at its entry (without what is its own), the addresses of its own things by slot -/
structure Bs where
  F : Hp
  H : Hp
  τ : Nat → Addr
def SlotOk (K : PySem.W.Frag) (mg : Str → Option Value) (B : Bs) (F H : Hp) (i : Nat) (x : Option (Option V)) : Slot → Prop
  | .un => True
  | .d d => ∃ v, x = some (some v) ∧ Rep K mg F v d
  | .own t xs => ∃ a vs, x = some (some (.ref a)) ∧ F a = none ∧ B.H a = none ∧ H a = some (.lst vs) ∧ RepAll K mg F vs xs ∧ (t = true → B.τ i = a)
  | .obo t c ns fs => ∃ a C dx fv, x = some (some (.ref a)) ∧ F a = none ∧ B.H a = none ∧ mg c = some (.ref C) ∧ H a = some (.ins C dx fv) ∧ fv.map (·.1) = ns ∧ RepAll K mg F (fv.map (·.2)) fs ∧ (t = true → B.τ i = a)
def Slot.isO : Slot → Bool
  | .own _ _ => true
  | .obo _ _ _ _ => true
  | _ => false
/-- a def's state -/
structure EnvS (K : PySem.W.Frag) (mg : Str → Option Value) (B : Bs) (F : Hp) (σ : L2.St) (H : Hp) (ρ : DEnv) : Prop where
  f0 : Same B.F B.H
  ff : Same B.F F
  fh : Same F H
  hh : Same B.H H
  ag : ∀ p o, B.H p = some o → F p = B.F p
  len : σ.length = ρ.length
  sl : ∀ (i : Nat) (s : Slot), ρ[i]? = some s → SlotOk K mg B F H i σ[i]? s
  ap : ∀ (i j : Nat) (a : Addr) (s t : Slot), ρ[i]? = some s → ρ[j]? = some t → s.isO = true → t.isO = true → σ[i]? = some (some (V.ref a)) → σ[j]? = some (some (V.ref a)) → i = j

def demS (b : Bool) : Slot → Slot
  | .own t xs => if b then .d (.lst xs) else .own t xs
  | .obo t c ns fs => if b then .d (.obj c ns fs) else .obo t c ns fs
  | s => s
def dem (S : List Nat) (ρ : DEnv) : DEnv := ρ.mapIdx fun i s => demS (S.contains i) s
/-- is an instance of the def's own among S -/
def hasO (S : List Nat) (ρ : DEnv) : Bool := S.any fun i => match ρ[i]? with
  | some (.obo _ _ _ _) => true
  | _ => false

section
variable {K : PySem.W.Frag} {mg : Str → Option Value} {B : Bs} {F F1 H H1 : Hp} {σ : L2.St} {ρ : DEnv} {S : List Nat}
theorem EnvS.ext (E : EnvS K mg B F σ H ρ) : Ext B.F B.H F H := ⟨E.ff, E.fh, E.hh, E.ag⟩
theorem dem_get {i : Nat} : (dem S ρ)[i]? = (ρ[i]?).map (demS (S.contains i)) := by
  unfold dem
  rw [List.getElem?_mapIdx]
/-- a slot that is the def's own behind dem was so before -/
theorem dem_own {i : Nat} {t : Slot} (h : (dem S ρ)[i]? = some t) (o : t.isO = true) : ρ[i]? = some t ∧ S.contains i = false := by
  rw [dem_get] at h
  cases h3 : ρ[i]? with
  | none => rw [h3] at h; cases h
  | some u =>
    rw [h3] at h
    have h : demS (S.contains i) u = t := Option.some.inj h
    cases z : S.contains i with
    | true =>
      rw [z] at h
      subst h
      cases u <;> cases o
    | false =>
      rw [z] at h
      subst h
      cases u <;> first | (cases o; done) | exact ⟨rfl, rfl⟩
/-- the heap grows, what stands still too -/
theorem EnvS.grow (E : EnvS K mg B F σ H ρ) (e : Ext F H F1 H1) : EnvS K mg B F1 σ H1 ρ where
  f0 := E.f0
  ff := E.ff.trans e.1
  fh := e.2.1
  hh := E.hh.trans e.2.2.1
  ag := fun p o q => (e.2.2.2 p o (E.hh p o q)).trans (E.ag p o q)
  len := E.len
  sl := fun i s q => by
    have z := E.sl i s q
    cases s with
    | un => trivial
    | d d => obtain ⟨v, a, b⟩ := z; exact ⟨v, a, b.mono e.1⟩
    | own t xs => obtain ⟨a, vs, a1, a2, a3, a4, a5, a6⟩ := z; exact ⟨a, vs, a1, (e.2.2.2 _ _ a4).trans a2, a3, e.2.2.1 _ _ a4, a5.mono e.1, a6⟩
    | obo t c ns fs => obtain ⟨a, C, dx, fv, a1, a2, a3, m, a4, n, a5, a6⟩ := z; exact ⟨a, C, dx, fv, a1, (e.2.2.2 _ _ a4).trans a2, a3, m, e.2.2.1 _ _ a4, n, a5.mono e.1, a6⟩
  ap := E.ap
theorem EnvS.heap (E : EnvS K mg B F σ H ρ) (e : Same H H1) : EnvS K mg B F σ H1 ρ :=
  E.grow ⟨Same.refl F, E.fh.trans e, e, fun _ _ _ => rfl⟩

/-- the address of the def's own thing at a slot -/
theorem EnvS.at (E : EnvS K mg B F σ H ρ) {i : Nat} {s : Slot} (h : ρ[i]? = some s) (o : s.isO = true) : ∃ a u, σ[i]? = some (some (.ref a)) ∧ F a = none ∧ B.H a = none ∧ H a = some u ∧
    ((∃ t xs, s = .own t xs ∧ ∃ vs, u = .lst vs ∧ RepAll K mg F vs xs ∧ (t = true → B.τ i = a)) ∨ ∃ t c ns fs, s = .obo t c ns fs ∧ ∃ C dx fv, u = .ins C dx fv ∧ mg c = some (.ref C) ∧ fv.map (·.1) = ns ∧ RepAll K mg F (fv.map (·.2)) fs ∧ (t = true → B.τ i = a)) := by
  have z := E.sl i s h
  cases s with
  | un => cases o
  | d d => cases o
  | own t xs => obtain ⟨a, vs, a1, a2, a3, a4, a5, a6⟩ := z; exact ⟨a, _, a1, a2, a3, a4, .inl ⟨t, xs, rfl, vs, rfl, a5, a6⟩⟩
  | obo t c ns fs => obtain ⟨a, C, dx, fv, a1, a2, a3, m, a4, n, a5, a6⟩ := z; exact ⟨a, _, a1, a2, a3, a4, .inr ⟨t, c, ns, fs, rfl, C, dx, fv, rfl, m, n, a5, a6⟩⟩
/-- the own things of S are put to rest for a while -/
theorem EnvS.fz (E : EnvS K mg B F σ H ρ) (S : List Nat) : ∃ Fp, Same Fp H ∧ EnvE K mg S Fp σ ρ ∧ (∀ F' H', Ext Fp H F' H' → EnvS K mg B F' σ H' (dem S ρ)) ∧
    ∀ F' H', Ext Fp H F' H' → ∃ F2, EnvS K mg B F2 σ H' ρ ∧ LessL (hasO S ρ) F' F2 ∧ Same F2 F' := by
  classical
  let own : Addr → Prop := fun p => ∃ i ∈ S, ∃ s, ρ[i]? = some s ∧ s.isO = true ∧ σ[i]? = some (some (V.ref p))
  have ownF : ∀ p, own p → F p = none ∧ B.H p = none ∧ ∃ u, H p = some u ∧ ((∃ vs, u = .lst vs) ∨ (hasO S ρ = true ∧ ∃ C dx fv, u = .ins C dx fv)) := fun p ⟨i, hi, s, h1, ho, h2⟩ => by
    obtain ⟨a, u, a1, a2, a3, a4, z⟩ := E.at h1 ho
    rw [h2] at a1; cases a1
    refine ⟨a2, a3, u, a4, ?_⟩
    rcases z with ⟨_, xs, _, vs, e, _⟩ | ⟨_, c, ns, fs, es, C, dx, fv, e, _⟩
    · exact .inl ⟨vs, e⟩
    · refine .inr ⟨List.any_eq_true.mpr ⟨i, hi, ?_⟩, C, dx, fv, e⟩
      rw [h1, es]
  let Fp : Hp := fun p => if own p then H p else F p
  have fpo : ∀ p, own p → Fp p = H p := fun p h => if_pos h
  have fpn : ∀ p, ¬ own p → Fp p = F p := fun p h => if_neg h
  have sF : Same F Fp := fun p o q => by
    have n : ¬ own p := fun z => by rw [(ownF p z).1] at q; cases q
    rw [fpn p n]; exact q
  have sH : Same Fp H := fun p o q => by
    by_cases z : own p
    · rw [fpo p z] at q; exact q
    · rw [fpn p z] at q; exact E.fh _ _ q
  -- behind the evaluation
  have after : ∀ F' H', Ext Fp H F' H' → Same F F' ∧ (∀ p o, B.H p = some o → F' p = B.F p) := fun F' H' e => ⟨sF.trans e.1, fun p o q => by
    have n : ¬ own p := fun z => by rw [(ownF p z).2.1] at q; cases q
    rw [e.2.2.2 p o (E.hh p o q), fpn p n]
    exact E.ag p o q⟩
  have apart : ∀ {i a u}, S.contains i = false → (∃ s, ρ[i]? = some s ∧ s.isO = true) → σ[i]? = some (some (V.ref a)) → H a = some u → F a = none → ∀ F' H', Ext Fp H F' H' → F' a = none := fun {i a u} hi ⟨s, h1, ho⟩ a1 a4 a2 F' H' e => by
    have n : ¬ own a := fun ⟨j, hj, t, q1, qo, q2⟩ => by
      have := E.ap i j a s t h1 q1 ho qo a1 q2
      subst this
      have : S.contains i = true := by simpa using hj
      rw [hi] at this; cases this
    rw [e.2.2.2 _ _ a4, fpn a n]; exact a2
  refine ⟨Fp, sH, ⟨E.len, fun i hi s d h1 h2 => ?_⟩, fun F' H' e => ?_, fun F' H' e => ?_⟩
  · have z := E.sl i s h1
    cases s with
    | un => cases h2
    | d v =>
      cases h2
      obtain ⟨v, a, b⟩ := z
      exact ⟨v, a, b.mono sF⟩
    | own t xs =>
      cases h2
      obtain ⟨a, vs, a1, a2, a3, a4, a5, a6⟩ := z
      refine ⟨_, a1, .lst (SqL.of ?_) (a5.mono sF)⟩
      rw [fpo a ⟨i, hi, _, h1, rfl, a1⟩]; exact a4
    | obo t c ns fs =>
      cases h2
      obtain ⟨a, C, dx, fv, a1, a2, a3, m, a4, n, a5, a6⟩ := z
      refine ⟨_, a1, .obj (dx := dx) m ?_ n (a5.mono sF)⟩
      rw [fpo a ⟨i, hi, _, h1, rfl, a1⟩]; exact a4
  · obtain ⟨aF, ag⟩ := after F' H' e
    refine ⟨E.f0, E.ff.trans aF, e.2.1, E.hh.trans e.2.2.1, ag, ?_, fun i s h1 => ?_, fun i j a s t h1 h2 o1 o2 => ?_⟩
    · unfold dem; rw [List.length_mapIdx]; exact E.len
    · rw [dem_get] at h1
      cases h2 : ρ[i]? with
      | none => rw [h2] at h1; cases h1
      | some t =>
        rw [h2] at h1
        have h1 : demS (S.contains i) t = s := Option.some.inj h1
        have z := E.sl i t h2
        cases t with
        | un => subst h1; trivial
        | d d => subst h1; obtain ⟨v, a, b⟩ := z; exact ⟨v, a, b.mono aF⟩
        | own t xs =>
          obtain ⟨a, vs, a1, a2, a3, a4, a5, a6⟩ := z
          cases hi : S.contains i with
          | true =>
            rw [hi] at h1
            subst h1
            have hi' : i ∈ S := by simpa using hi
            refine ⟨_, a1, .lst (SqL.of (e.1 _ _ ?_)) (a5.mono aF)⟩
            rw [fpo a ⟨i, hi', _, h2, rfl, a1⟩]; exact a4
          | false =>
            rw [hi] at h1
            subst h1
            exact ⟨a, vs, a1, apart hi ⟨_, h2, rfl⟩ a1 a4 a2 F' H' e, a3, e.2.2.1 _ _ a4, a5.mono aF, a6⟩
        | obo t c ns fs =>
          obtain ⟨a, C, dx, fv, a1, a2, a3, m, a4, n, a5, a6⟩ := z
          cases hi : S.contains i with
          | true =>
            rw [hi] at h1
            subst h1
            have hi' : i ∈ S := by simpa using hi
            refine ⟨_, a1, .obj (dx := dx) m (e.1 _ _ ?_) n (a5.mono aF)⟩
            rw [fpo a ⟨i, hi', _, h2, rfl, a1⟩]; exact a4
          | false =>
            rw [hi] at h1
            subst h1
            exact ⟨a, C, dx, fv, a1, apart hi ⟨_, h2, rfl⟩ a1 a4 a2 F' H' e, a3, m, e.2.2.1 _ _ a4, n, a5.mono aF, a6⟩
    · exact E.ap i j a s t (dem_own h1 o1).1 (dem_own h2 o2).1 o1 o2
  · obtain ⟨aF, ag⟩ := after F' H' e
    let F2 : Hp := fun p => if own p then none else F' p
    have f2o : ∀ p, own p → F2 p = none := fun p h => if_pos h
    have f2n : ∀ p, ¬ own p → F2 p = F' p := fun p h => if_neg h
    have s2 : Same F2 F' := fun p o q => by
      by_cases z : own p
      · rw [f2o p z] at q; cases q
      · rw [f2n p z] at q; exact q
    have sF2 : Same F F2 := fun p o q => by
      have n : ¬ own p := fun z => by rw [(ownF p z).1] at q; cases q
      rw [f2n p n]; exact aF _ _ q
    have at2 : ∀ {a u}, F a = none → H a = some u → F2 a = none := fun {a u} a2 a4 => by
      by_cases z : own a
      · exact f2o a z
      · rw [f2n a z, e.2.2.2 _ _ a4, fpn a z]; exact a2
    refine ⟨F2, ⟨E.f0, E.ff.trans sF2, s2.trans e.2.1, E.hh.trans e.2.2.1, fun p o q => ?_, E.len, fun i s h1 => ?_, E.ap⟩, fun p o q => ?_, s2⟩
    · have n : ¬ own p := fun z => by rw [(ownF p z).2.1] at q; cases q
      rw [f2n p n]; exact ag p o q
    · have z := E.sl i s h1
      cases s with
      | un => trivial
      | d d => obtain ⟨v, a, b⟩ := z; exact ⟨v, a, b.mono sF2⟩
      | own t xs =>
        obtain ⟨a, vs, a1, a2, a3, a4, a5, a6⟩ := z
        exact ⟨a, vs, a1, at2 a2 a4, a3, e.2.2.1 _ _ a4, a5.mono sF2, a6⟩
      | obo t c ns fs =>
        obtain ⟨a, C, dx, fv, a1, a2, a3, m, a4, n, a5, a6⟩ := z
        exact ⟨a, C, dx, fv, a1, at2 a2 a4, a3, m, e.2.2.1 _ _ a4, n, a5.mono sF2, a6⟩
    · by_cases z : own p
      · obtain ⟨_, _, u, q2, z2⟩ := ownF p z
        have q3 : F' p = some u := e.1 p _ (by rw [fpo p z]; exact q2)
        rw [q3] at q; cases q
        exact .inl z2
      · exact .inr (by rw [f2n p z]; exact q)

theorem set_get {α : Type} {l : List α} {i j : Nat} {x y : α} (h : (l.set i x)[j]? = some y) : (j = i ∧ y = x ∧ i < l.length) ∨ (j ≠ i ∧ l[j]? = some y) := by
  by_cases e : j = i
  · subst e
    by_cases hl : j < l.length
    · rw [List.getElem?_set_self hl] at h
      exact .inl ⟨rfl, (Option.some.inj h).symm, hl⟩
    · rw [List.getElem?_eq_none (by simpa using hl)] at h; cases h
  · rw [List.getElem?_set_ne (Ne.symm e)] at h
    exact .inr ⟨e, h⟩
theorem EnvS.set (E : EnvS K mg B F σ H ρ) {v : V} {d : D} (r : Rep K mg F v d) (i : Nat) : EnvS K mg B F (σ.set i (some v)) H (ρ.set i (.d d)) := by
  refine ⟨E.f0, E.ff, E.fh, E.hh, E.ag, by rw [List.length_set, List.length_set]; exact E.len, fun j s h => ?_, fun j k a s t h1 h2 o1 o2 h3 h4 => ?_⟩
  · rcases set_get h with ⟨rfl, rfl, hl⟩ | ⟨hn, h⟩
    · exact ⟨v, by rw [List.getElem?_set_self (by rw [E.len]; exact hl)], r⟩
    · rw [List.getElem?_set_ne (Ne.symm hn)]
      exact E.sl j s h
  · rcases set_get h1 with ⟨_, z, _⟩ | ⟨n1, h1⟩
    · rw [z] at o1; cases o1
    · rcases set_get h2 with ⟨_, z, _⟩ | ⟨n2, h2⟩
      · rw [z] at o2; cases o2
      · rw [List.getElem?_set_ne (Ne.symm n1)] at h3
        rw [List.getElem?_set_ne (Ne.symm n2)] at h4
        exact E.ap j k a s t h1 h2 o1 o2 h3 h4
/-- a thing of the def's own comes to slot i -/
theorem EnvS.setO (E : EnvS K mg B F σ H ρ) {p : Addr} {t : Slot} (ok : ∀ i, SlotOk K mg B F H i (some (some (V.ref p))) t) (new : ∀ (j : Nat) s, ρ[j]? = some s → s.isO = true → σ[j]? ≠ some (some (V.ref p))) (i : Nat) :
    EnvS K mg B F (σ.set i (some (V.ref p))) H (ρ.set i t) := by
  refine ⟨E.f0, E.ff, E.fh, E.hh, E.ag, by rw [List.length_set, List.length_set]; exact E.len, fun j s h => ?_, fun j k a s t' h1 h2 o1 o2 h3 h4 => ?_⟩
  · rcases set_get h with ⟨rfl, rfl, hl⟩ | ⟨hn, h⟩
    · rw [List.getElem?_set_self (by rw [E.len]; exact hl)]; exact ok _
    · rw [List.getElem?_set_ne (Ne.symm hn)]
      exact E.sl j s h
  · rcases set_get h1 with ⟨e1, z1, l1⟩ | ⟨n1, h1'⟩
    · rcases set_get h2 with ⟨e2, z2, l2⟩ | ⟨n2, h2'⟩
      · rw [e1, e2]
      · rw [e1, List.getElem?_set_self (by rw [E.len]; exact l1)] at h3
        cases h3
        rw [List.getElem?_set_ne (Ne.symm n2)] at h4
        exact absurd h4 (new k _ h2' o2)
    · rcases set_get h2 with ⟨e2, z2, l2⟩ | ⟨n2, h2'⟩
      · rw [e2, List.getElem?_set_self (by rw [E.len]; exact l2)] at h4
        cases h4
        rw [List.getElem?_set_ne (Ne.symm n1)] at h3
        exact absurd h3 (new j _ h1' o1)
      · rw [List.getElem?_set_ne (Ne.symm n1)] at h3
        rw [List.getElem?_set_ne (Ne.symm n2)] at h4
        exact E.ap j k a _ _ h1' h2' o1 o2 h3 h4
theorem EnvS.setOwn (E : EnvS K mg B F σ H ρ) {p : Addr} {vs : List V} {xs : List D} (n0 : B.H p = none) (nf : F p = none) (hp : H p = some (.lst vs)) (r : RepAll K mg F vs xs) (new : ∀ (j : Nat) s, ρ[j]? = some s → s.isO = true → σ[j]? ≠ some (some (V.ref p))) (i : Nat) :
    EnvS K mg B F (σ.set i (some (V.ref p))) H (ρ.set i (.own false xs)) := E.setO (t := .own false xs) (fun _ => ⟨p, vs, rfl, nf, n0, hp, r, fun z => by cases z⟩) new i
/-- a new address is no slot's -/
theorem EnvS.newA (E : EnvS K mg B F σ H ρ) {p : Addr} (n : H p = none) : ∀ (j : Nat) s, ρ[j]? = some s → s.isO = true → σ[j]? ≠ some (some (V.ref p)) := fun j s h1 o h2 => by
  obtain ⟨a, u, a1, _, _, a4, _⟩ := E.at h1 o
  rw [h2] at a1; cases a1
  rw [n] at a4; cases a4
/-- a new list comes to a slot -/
theorem EnvS.setNew (E : EnvS K mg B F σ H ρ) {p : Addr} {vs : List V} {xs : List D} {H1 : Hp} (e : Ext F H F1 H1) (n : H p = none) (nf : F1 p = none) (hp : H1 p = some (.lst vs)) (r : RepAll K mg F1 vs xs) (i : Nat) :
    EnvS K mg B F1 (σ.set i (some (V.ref p))) H1 (ρ.set i (.own false xs)) := (E.grow e).setOwn (E.hh.free n) nf hp r (E.newA n) i
/-- the def's own thing at slot i changes -/
theorem EnvS.mutO (E : EnvS K mg B F σ H ρ) {i : Nat} {a : Addr} {s t : Slot} {u : HO} (h : ρ[i]? = some s) (o : s.isO = true) (ha : σ[i]? = some (some (V.ref a))) (ok : SlotOk K mg B F (upd H a u) i (some (some (V.ref a))) t) :
    EnvS K mg B F σ (upd H a u) (ρ.set i t) := by
  obtain ⟨a', w, a1, a2, a3, a4, _⟩ := E.at h o
  rw [ha] at a1; cases a1
  have hi : i < ρ.length := (List.getElem?_eq_some_iff.mp h).1
  refine ⟨E.f0, E.ff, fun p o q => ?_, fun p o q => ?_, E.ag, by rw [List.length_set]; exact E.len, fun j s' hj => ?_, fun j k b s' t' h1 h2 o1 o2 h3 h4 => ?_⟩
  · have n : p ≠ a := fun z => by rw [z, a2] at q; cases q
    rw [upd_ne n]; exact E.fh _ _ q
  · have n : p ≠ a := fun z => by rw [z, a3] at q; cases q
    rw [upd_ne n]; exact E.hh _ _ q
  · rcases set_get hj with ⟨rfl, rfl, hl⟩ | ⟨hn, hj⟩
    · rw [ha]; exact ok
    · have z := E.sl j s' hj
      cases s' with
      | un => trivial
      | d d => exact z
      | own t zs =>
        obtain ⟨b, ws, b1, b2, b3, b4, b5⟩ := z
        refine ⟨b, ws, b1, b2, b3, ?_, b5⟩
        have n : b ≠ a := fun z => hn (by subst z; exact E.ap j i b _ s hj h rfl o b1 ha)
        rw [upd_ne n]; exact b4
      | obo t c ns fs =>
        obtain ⟨b, C, dx, fv, b1, b2, b3, m, b4, n', b5⟩ := z
        refine ⟨b, C, dx, fv, b1, b2, b3, m, ?_, n', b5⟩
        have n : b ≠ a := fun z => hn (by subst z; exact E.ap j i b _ s hj h rfl o b1 ha)
        rw [upd_ne n]; exact b4
  · rcases set_get h1 with ⟨e1, z1, _⟩ | ⟨n1, h1'⟩
    · rcases set_get h2 with ⟨e2, z2, _⟩ | ⟨n2, h2'⟩
      · rw [e1, e2]
      · rw [e1] at h3
        rw [e1]
        exact E.ap _ _ b s t' h h2' o o2 h3 h4
    · rcases set_get h2 with ⟨e2, z2, _⟩ | ⟨n2, h2'⟩
      · rw [e2] at h4
        rw [e2]
        exact E.ap _ _ b s' s h1' h o1 o h3 h4
      · exact E.ap _ _ b s' t' h1' h2' o1 o2 h3 h4
theorem EnvS.mut (E : EnvS K mg B F σ H ρ) {i : Nat} {a : Addr} {t : Bool} {xs ys : List D} {us : List V} (h : ρ[i]? = some (.own t xs)) (ha : σ[i]? = some (some (V.ref a))) (r : RepAll K mg F us ys) :
    EnvS K mg B F σ (upd H a (.lst us)) (ρ.set i (.own t ys)) := by
  obtain ⟨a', vs, a1, a2, a3, a4, a5, a6⟩ := E.sl i _ h
  rw [ha] at a1; cases a1
  exact E.mutO h rfl ha ⟨a, us, rfl, a2, a3, upd_same, r, a6⟩
end

/-! ### what a statement comes to -/
inductive SRes where
  | nx (ρ : DEnv) | rt (d : D) | bk (ρ : DEnv) | ct (ρ : DEnv) | er (x : Exn) (ρ : DEnv) | st
/-- how a def hands back: fr: a list that is its own -/
def RR (K : PySem.W.Frag) (mg : Str → Option Value) : Bool → Hp → Hp → Hp → V → D → Prop
  | false => RD K mg
  | true => fun H F' H' v d => ∃ xs, d = .lst xs ∧ RF K mg H F' H' v xs
def OutS (K : PySem.W.Frag) (mg : Str → Option Value) (fr : Bool) (We : WX) (B : Bs) (E : Ends) : SRes → Prop
  | .nx ρ => ∀ F σ H, EnvS K mg B F σ H ρ → E.nx σ H
  | .bk ρ => ∀ F σ H, EnvS K mg B F σ H ρ → E.bk σ H
  | .ct ρ => ∀ F σ H, EnvS K mg B F σ H ρ → E.ct σ H
  | .rt d => ∀ F H v, Ext B.F B.H F H → RR K mg fr B.H F H v d → E.rt v H
  | .er x ρ => ∀ F σ H C d, EnvS K mg B F σ H ρ → mg x.c = some (.ref C) → XFs K mg B.H H d x.ns x.fs → We (.ref C) d σ H
  | .st => False
def tS (K : PySem.W.Frag) (mg : Str → Option Value) (fr : Bool) (We : WX) (g : DEnv → SRes) : TS := fun E σ H => ∃ B F ρ, EnvS K mg B F σ H ρ ∧ OutS K mg fr We B E (g ρ)
abbrev SD (X : Cx) (fr : Bool) (We : WX) (st : Stmt) (g : DEnv → SRes) : Prop := PS X st (tS X.K X.mg fr We g)
abbrev SDs (X : Cx) (fr : Bool) (We : WX) (st : List Stmt) (g : DEnv → SRes) : Prop := PSs X st (tS X.K X.mg fr We g)

def sNil : DEnv → SRes := .nx
def SRes.seq (r : SRes) (g : DEnv → SRes) : SRes := match r with
  | .nx ρ => g ρ
  | r => r
def sSeq (f g : DEnv → SRes) : DEnv → SRes := fun ρ => (f ρ).seq g
/-- what follows an evaluation: keep (S's lists stay the def's own: no list in the value), or not -/
def after {β : Type} (r : Res β) (ρ : DEnv) (g : β → SRes) : SRes := match r with
  | .ok d => g d
  | .er x => .er x ρ
  | .st => .st
def rest (k : Bool) (S : List Nat) (d : Bool → Bool) (ρ : DEnv) (g : DEnv → SRes) : SRes := if k then (if d (hasO S ρ) then g ρ else .st) else g (dem S ρ)

section
variable {K : PySem.W.Frag} {mg : Str → Option Value} {fr : Bool} {We : WX} {B : Bs} {F H : Hp} {σ : L2.St} {ρ : DEnv} {E : Ends} {S : List Nat}
theorem OutS.imp {r : SRes} {E' : Ends} (h : OutS K mg fr We B E r) (h1 : ∀ σ H, E.nx σ H → E'.nx σ H) (h2 : ∀ v H, E.rt v H → E'.rt v H) (h3 : ∀ σ H, E.bk σ H → E'.bk σ H) (h4 : ∀ σ H, E.ct σ H → E'.ct σ H) : OutS K mg fr We B E' r := by
  cases r with
  | nx ρ => exact fun F σ H q => h1 _ _ (h F σ H q)
  | bk ρ => exact fun F σ H q => h3 _ _ (h F σ H q)
  | ct ρ => exact fun F σ H q => h4 _ _ (h F σ H q)
  | rt d => exact fun F H v a b => h2 _ _ (h F H v a b)
  | er x ρ => exact h
  | st => exact h
theorem OutS.seq {r : SRes} {g : DEnv → SRes} (h : OutS K mg fr We B E (r.seq g)) : OutS K mg fr We B { E with nx := tS K mg fr We g E } r := by
  cases r with
  | nx ρ => exact fun F σ H q => ⟨B, F, ρ, q, h⟩
  | bk ρ => exact h
  | ct ρ => exact h
  | rt d => exact h
  | er x ρ => exact h
  | st => exact h
/-- an expression within a statement -/
theorem OutS.eval {α β : Type} {R : Hp → Hp → Hp → α → β → Prop} {f : DEnv → Res β} {g : β → SRes} {Q : α → Hp → Prop} (e : EnvS K mg B F σ H ρ) (h : OutS K mg fr We B E (after (f ρ) ρ g))
    (k : ∀ Fp F' H' v d, f ρ = .ok d → OutS K mg fr We B E (g d) → Ext Fp H F' H' → R H F' H' v d → EnvS K mg B F' σ H' (dem S ρ) → (∃ F2, EnvS K mg B F2 σ H' ρ ∧ LessL (hasO S ρ) F' F2 ∧ Same F2 F') → Q v H') : tG K mg We R S f σ H Q := by
  obtain ⟨Fp, h1, h2, h3, h4⟩ := e.fz S
  refine ⟨Fp, ρ, h1, h2, ?_⟩
  cases hf : f ρ with
  | ok d =>
    rw [hf] at h
    exact fun F' H' v ex r => k Fp F' H' v d hf h ex r (h3 F' H' ex) (h4 F' H' ex)
  | er x =>
    rw [hf] at h
    exact fun C d H' sm m q => h F σ H' C d (e.heap sm) m (q.back e.hh)
  | st => rw [hf] at h; exact h
/-- .. a value -/
theorem OutS.evalD {k : Bool} {f : DEnv → Res D} {g : D → DEnv → SRes} {Q : VK} (e : EnvS K mg B F σ H ρ) (h : OutS K mg fr We B E (after (f ρ) ρ fun d => rest k S (fun b => d.nlx b) ρ (g d)))
    (q : ∀ F' H' v d ρ', EnvS K mg B F' σ H' ρ' → Rep K mg F' v d → OutS K mg fr We B E (g d ρ') → Q v H') : tG K mg We (RD K mg) S f σ H Q := by
  refine OutS.eval e h fun Fp F' H' v d hf hg ex r e1 ⟨F2, e2, l, s2⟩ => ?_
  cases k with
  | true =>
    have hg : OutS K mg fr We B E (if d.nlx (hasO S ρ) then g d ρ else .st) := hg
    cases hn : d.nlx (hasO S ρ) with
    | true =>
      rw [hn, if_pos rfl] at hg
      exact q F2 H' v d ρ e2 (r.less l d v hn) hg
    | false => rw [hn, if_neg Bool.false_ne_true] at hg; exact hg.elim
  | false => exact q F' H' v d _ e1 r hg
/-- .. a bool -/
theorem OutS.evalB {f : DEnv → Res Bool} {g : Bool → SRes} {Q : Bool → Hp → Prop} (e : EnvS K mg B F σ H ρ) (h : OutS K mg fr We B E (after (f ρ) ρ g))
    (q : ∀ F' H' b, EnvS K mg B F' σ H' ρ → OutS K mg fr We B E (g b) → Q b H') : tG K mg We RB S f σ H Q := by
  refine OutS.eval e h fun Fp F' H' v d hf hg ex r e1 ⟨F2, e2, l, s2⟩ => ?_
  have z : v = d := r
  subst z
  exact q F2 H' v e2 hg
end

section
variable {X : Cx} {fr : Bool} {We : WX} {st : Stmt} {rest' : List Stmt} {f g : DEnv → SRes} {e c : PySem.Expr} {S : List Nat} {pos : Pos}
theorem sds_nil : SDs X fr We [] sNil := pss_imp pss_nil fun E σ H ⟨B, F, ρ, e, h⟩ => h F σ H e
theorem sds_cons (h1 : SD X fr We st f) (h2 : SDs X fr We rest' g) : SDs X fr We (st :: rest') (sSeq f g) :=
  pss_imp (pss_cons h1 h2) fun E σ H ⟨B, F, ρ, e, h⟩ => ⟨B, F, ρ, e, OutS.seq h⟩
theorem sds_one (h1 : SD X fr We st f) : SDs X fr We [st] f := pss_one h1
def sNever : DEnv → SRes := fun _ => .st
theorem sd_never : SD X fr We st sNever := ps_imp ps_never fun E σ H ⟨B, F, ρ, e, h⟩ => h
theorem sds_never {sts : List Stmt} : SDs X fr We sts sNever := pss_imp pss_never fun E σ H ⟨B, F, ρ, e, h⟩ => h
theorem sd_pass : SD X fr We (.Pass pos) sNil := ps_imp ps_pass fun E σ H ⟨B, F, ρ, e, h⟩ => h F σ H e
def sBk : DEnv → SRes := .bk
def sCt : DEnv → SRes := .ct
theorem sd_break : SD X fr We (.Break pos) sBk := ps_imp ps_break fun E σ H ⟨B, F, ρ, e, h⟩ => h F σ H e
theorem sd_cont : SD X fr We (.Continue pos) sCt := ps_imp ps_continue fun E σ H ⟨B, F, ρ, e, h⟩ => h F σ H e
/-! ### name = value -/
def sAsg (k : Bool) (S : List Nat) (i : Nat) (f : DEnv → Res D) : DEnv → SRes := fun ρ => after (f ρ) ρ fun d => rest k S (fun b => d.nlx b) ρ fun ρ' => .nx (ρ'.set i (.d d))
theorem sd_asg (k : Bool) {i : Nat} {x : Str} {pos' : Pos} {fe : DEnv → Res D} (hN : X.N.Nodup) (he : PD X We S e fe) (hi : X.N[i]? = some x := by rfl) (hx : Loc X.env.scope x := by first | exact Or.inl rfl | exact Or.inr rfl)
    (hs : swapsWith e (some (.Name x pos')) pos.line X.env = pure false := by rfl) (hf : X.fn x = true ∨ X.env.scope.names.lookup x = some .local := by first | exact .inl rfl | exact .inr rfl | assumption) :
    SD X fr We (.Assign [.Name x pos'] e pos) (sAsg k S i fe) :=
  ps_imp (ps_set hN hi hx he hs hf) fun E σ H ⟨B, F, ρ, e, h⟩ => OutS.evalD e h fun F' H' v d ρ' e' r q => q F' _ H' (e'.set r i)
def sAsgF (k : Bool) (S : List Nat) (i : Nat) (f : DEnv → Res (List D)) : DEnv → SRes := fun ρ => after (f ρ) ρ fun xs => rest k S (fun b => nlxs b xs) ρ fun ρ' => .nx (ρ'.set i (.own false xs))
theorem evalF_set {K : PySem.W.Frag} {mg : Str → Option Value} {B : Bs} {F H : Hp} {σ : L2.St} {ρ : DEnv} {E : Ends} {k : Bool} {i : Nat} {fe : DEnv → Res (List D)} (e : EnvS K mg B F σ H ρ) (h : OutS K mg fr We B E (sAsgF k S i fe ρ)) :
    tG K mg We (RF K mg) S fe σ H (fun v H' => E.nx (σ.set i (some v)) H') := by
  refine OutS.eval e h fun Fp F' H' v xs hf hg ex r e1 ⟨F2, e2, l, s2⟩ => ?_
  obtain ⟨p, vs, rfl, n, nf, hp, r⟩ := r
  have new := e.newA n
  cases k with
  | true =>
    have hg : OutS K mg fr We B E (if nlxs (hasO S ρ) xs then .nx (ρ.set i (.own false xs)) else .st) := hg
    cases hn : nlxs (hasO S ρ) xs with
    | true =>
      rw [hn, if_pos rfl] at hg
      refine hg F2 _ H' (e2.setOwn (e.hh.free n) ?_ hp (r.less l xs vs hn) new i)
      cases q : F2 p with
      | none => rfl
      | some o => rw [s2 p o q] at nf; cases nf
    | false => rw [hn, if_neg Bool.false_ne_true] at hg; exact hg.elim
  | false => exact hg F' _ H' (e1.setOwn (e.hh.free n) nf hp r (fun j s h1 o => new j s (dem_own h1 o).1 o) i)
theorem sd_asgF (k : Bool) {i : Nat} {x : Str} {pos' : Pos} {fe : DEnv → Res (List D)} (hN : X.N.Nodup) (he : PF X We S e fe) (hi : X.N[i]? = some x := by rfl) (hx : Loc X.env.scope x := by first | exact Or.inl rfl | exact Or.inr rfl)
    (hs : swapsWith e (some (.Name x pos')) pos.line X.env = pure false := by rfl) (hf : X.fn x = true ∨ X.env.scope.names.lookup x = some .local := by first | exact .inl rfl | exact .inr rfl | assumption) :
    SD X fr We (.Assign [.Name x pos'] e pos) (sAsgF k S i fe) :=
  ps_imp (ps_set hN hi hx he hs hf) fun E σ H ⟨B, F, ρ, e, h⟩ => evalF_set e h

/-! ### if, while, return -/
def sIf (c : DEnv → Res Bool) (f g : DEnv → SRes) : DEnv → SRes := fun ρ => after (c ρ) ρ fun b => if b then f ρ else g ρ
theorem sd_if {a b : List Stmt} {ce : DEnv → Res Bool} (hc : PTD X We S c ce) (ha : SDs X fr We a f) (hb : SDs X fr We b g) : SD X fr We (.If c a b pos) (sIf ce f g) :=
  ps_imp (ps_if hc ha hb) fun E σ H ⟨B, F, ρ, e, h⟩ => OutS.evalB e h fun F' H' b e' q => by
    cases b with
    | true => rw [if_pos rfl] at q ⊢; exact ⟨B, F', ρ, e', q⟩
    | false => rw [if_neg Bool.false_ne_true] at q ⊢; exact ⟨B, F', ρ, e', q⟩
def sRet (S : List Nat) (f : DEnv → Res D) : DEnv → SRes := fun ρ => after (f ρ) ρ fun d => .rt d
theorem sd_ret {fe : DEnv → Res D} (he : PD X We S e fe) : SD X false We (.Return (some e) pos) (sRet S fe) :=
  ps_imp (ps_ret he) fun E σ H ⟨B, F, ρ, e, h⟩ => OutS.eval e h fun Fp F' H' v d hf hg ex r e1 _ => hg F' H' v e1.ext r
def sRetF (S : List Nat) (f : DEnv → Res (List D)) : DEnv → SRes := fun ρ => after (f ρ) ρ fun xs => .rt (.lst xs)
theorem sd_retF {fe : DEnv → Res (List D)} (he : PF X We S e fe) : SD X true We (.Return (some e) pos) (sRetF S fe) :=
  ps_imp (ps_ret he) fun E σ H ⟨B, F, ρ, e, h⟩ => OutS.eval e h fun Fp F' H' v d hf hg ex r e1 _ => hg F' H' v e1.ext ⟨d, rfl, Anti.anti e.hh r⟩
/-- return of the def's own list -/
def sRetO (i : Nat) : DEnv → SRes := fun ρ => match ρ[i]? with
  | some (.own _ xs) => .rt (.lst xs)
  | _ => .st
theorem sd_retO (i : Nat) {x : Str} {p : Pos} (hN : X.N[i]? = some x := by rfl) (hv : Vis X.env.scope x := by first | exact Or.inl rfl | exact Or.inr (Or.inl rfl) | exact Or.inr (Or.inr rfl)) (hd : (x == ("__debug__" : Str)) = false := by decide)
    (hcd : (x == ("__classdict__" : Str)) = false := by decide) : SD X true We (.Return (some (.Name x p)) pos) (sRetO i) :=
  ps_imp (ps_ret (pe_var hN hv hd hcd)) fun E σ H ⟨B, F, ρ, e, h⟩ => by
    unfold sRetO at h
    cases h1 : ρ[i]? with
    | none => rw [h1] at h; exact h.elim
    | some s =>
      rw [h1] at h
      cases s with
      | own t xs =>
        obtain ⟨a, vs, a1, a2, a3, a4, a5, _⟩ := e.sl i _ h1
        exact ⟨_, a1, h F H _ e.ext ⟨xs, rfl, a, vs, rfl, a3, a2, a4, a5⟩⟩
      | un => exact h.elim
      | d d => exact h.elim
      | obo t c ns fs => exact h.elim
def sRetN : DEnv → SRes := fun _ => .rt .non
theorem sd_retN : SD X false We (.Return none pos) sRetN :=
  ps_imp ps_retN fun E σ H ⟨B, F, ρ, e, h⟩ => h F H .non e.ext .non
/-- while: n turns at most -/
def whL (c : DEnv → Res Bool) (f : DEnv → SRes) : Nat → DEnv → SRes
  | 0, _ => .st
  | n + 1, ρ => after (c ρ) ρ fun b => if b then (match f ρ with
      | .nx ρ' => whL c f n ρ'
      | .ct ρ' => whL c f n ρ'
      | .bk ρ' => .nx ρ'
      | r => r) else .nx ρ
theorem sd_while (n : Nat) {body : List Stmt} {ce : DEnv → Res Bool} (hp : PassesOwn (model X.prog X.w) X.A X.env X.xe) (hc : PTD X We S c ce) (hb : SDs X fr We body f) : SD X fr We (.While c body [] pos) (whL ce f n) :=
  ps_imp (ps_while hp hc hb) fun E σ H ⟨B, F, ρ, e, h⟩ => by
    refine ⟨fun m σ H => ∃ F ρ, EnvS X.K X.mg B F σ H ρ ∧ OutS X.K X.mg fr We B E (whL ce f m ρ), ⟨n, F, ρ, e, h⟩, fun m σ H ⟨F, ρ, e, h⟩ => ?_⟩
    cases m with
    | zero => exact h.elim
    | succ m =>
      refine OutS.evalB e h fun F' H' b e' q => ?_
      cases b with
      | false => rw [if_neg Bool.false_ne_true] at q ⊢; exact q F' σ H' e'
      | true =>
        rw [if_pos rfl] at q ⊢
        refine ⟨fun σ H => ∃ F ρ, EnvS X.K X.mg B F σ H ρ ∧ OutS X.K X.mg fr We B E (whL ce f m ρ), fun σ' H' h' => ⟨m, Nat.lt_succ_self m, h'⟩, B, F', ρ, e', ?_⟩
        cases hf : f ρ with
        | nx ρ' => rw [hf] at q; exact fun F σ H z => ⟨F, ρ', z, q⟩
        | ct ρ' => rw [hf] at q; exact fun F σ H z => ⟨F, ρ', z, q⟩
        | bk ρ' => rw [hf] at q; exact q
        | rt d => rw [hf] at q; exact q
        | er x ρ' => rw [hf] at q; exact q
        | st => rw [hf] at q; exact q
/-- an expression's value is dropped -/
def sDrop (k : Bool) (S : List Nat) (f : DEnv → Res D) : DEnv → SRes := fun ρ => after (f ρ) ρ fun d => rest k S (fun b => d.nlx b) ρ fun ρ' => .nx ρ'
theorem sd_drop (k : Bool) {fe : DEnv → Res D} (he : PD X We S e fe) (hs : swapsWith e none pos.line X.env = pure false := by rfl) : SD X fr We (.Expr e pos) (sDrop k S fe) :=
  ps_imp (ps_expr he hs) fun E σ H ⟨B, F, ρ, e, h⟩ => OutS.evalD e h fun F' H' v d ρ' e' r q => q F' _ H' e'
end

/-! ### targets: which slots get what -/
def setAll {α : Type} (l : List α) : List Nat → List α → List α
  | [], _ => l
  | _ :: _, [] => l
  | i :: is, x :: xs => setAll (l.set i x) is xs
def tT (K : PySem.W.Frag) (mg : Str → Option Value) (sl : List Nat) (g : D → Option (List D)) : TG := fun v σ H Q =>
  ∃ F d ds, Same F H ∧ Rep K mg F v d ∧ g d = some ds ∧ ds.length = sl.length ∧ ∀ vs, RepAll K mg F vs ds → Q (setAll σ sl (vs.map some)) H
def tTs (K : PySem.W.Frag) (mg : Str → Option Value) (sl : List Nat) (g : List D → Option (List D)) : TGs := fun vs σ H Q =>
  ∃ F d ds, Same F H ∧ RepAll K mg F vs d ∧ g d = some ds ∧ ds.length = sl.length ∧ ∀ vs, RepAll K mg F vs ds → Q (setAll σ sl (vs.map some)) H
abbrev GD (X : Cx) (tg : PySem.Expr) (sl : List Nat) (g : D → Option (List D)) : Prop := PG X tg (tT X.K X.mg sl g) ∧ ∀ d ds, g d = some ds → ds.length = sl.length
abbrev GDs (X : Cx) (tgs : List PySem.Expr) (sl : List Nat) (g : List D → Option (List D)) : Prop := PGs X tgs (tTs X.K X.mg sl g) ∧ ∀ d ds, g d = some ds → ds.length = sl.length
theorem pg_imp {X : Cx} {tg : PySem.Expr} {t t' : TG} (h : PG X tg t) (i : ∀ v σ H Q, t' v σ H Q → t v σ H Q) : PG X tg t' := ⟨fun pins s σ H v u Q I r q => h.run pins s σ H v u Q I r (i v σ H Q q)⟩
theorem pgs_imp {X : Cx} {tg : List PySem.Expr} {t t' : TGs} (h : PGs X tg t) (i : ∀ v σ H Q, t' v σ H Q → t v σ H Q) : PGs X tg t' := ⟨fun pins s σ H v u Q I r q => h.run pins s σ H v u Q I r (i v σ H Q q)⟩
def g1 : D → Option (List D) := fun d => some [d]
def gN : List D → Option (List D)
  | [] => some []
  | _ => none
def gC (g : D → Option (List D)) (r : List D → Option (List D)) : List D → Option (List D)
  | d :: ds => (g d).bind fun a => (r ds).bind fun b => some (a ++ b)
  | [] => none
def gT (n : Nat) (g : List D → Option (List D)) : D → Option (List D)
  | .tup xs => if xs.length = n then g xs else none
  | _ => none
def gL (n : Nat) (g : List D → Option (List D)) : D → Option (List D)
  | .lst xs => if xs.length = n then g xs else none
  | _ => none
theorem setAll_append {α : Type} : ∀ (a b : List Nat) (xs ys : List α) (l : List α), xs.length = a.length → setAll l (a ++ b) (xs ++ ys) = setAll (setAll l a xs) b ys
  | [], _, [], _, _, _ => rfl
  | [], _, _ :: _, _, _, h => by cases h
  | _ :: _, _, [], _, _, h => by cases h
  | i :: a, b, x :: xs, ys, l, h => setAll_append a b xs ys (l.set i x) (by simpa using h)
theorem RepAll.split {K : PySem.W.Frag} {mg : Str → Option Value} {F : Hp} : ∀ {ds es : List D} {vs : List V}, RepAll K mg F vs (ds ++ es) → ∃ us ws, vs = us ++ ws ∧ RepAll K mg F us ds ∧ RepAll K mg F ws es
  | [], _, vs, h => ⟨[], vs, rfl, .nil, h⟩
  | d :: ds, es, vs, h => by
    cases h with
    | cons a b =>
      obtain ⟨us, ws, e, r1, r2⟩ := RepAll.split b
      exact ⟨_ :: us, ws, by rw [e]; rfl, .cons a r1, r2⟩
section
variable {X : Cx} {pos : Pos}
theorem gd_name {i : Nat} {x : Str} (hN : X.N.Nodup) (hi : X.N[i]? = some x := by rfl) (hx : Loc X.env.scope x := by first | exact Or.inl rfl | exact Or.inr rfl) (hf : X.fn x = true ∨ X.env.scope.names.lookup x = some .local := by first | exact .inl rfl | exact .inr rfl | assumption) : GD X (.Name x pos) [i] g1 := by
  refine ⟨pg_imp (pg_name hN hi hx hf) fun v σ H Q ⟨F, d, ds, hF, r, e, _, q⟩ => ?_, fun d ds e => ?_⟩
  · cases e
    exact q [v] (.cons r .nil)
  · cases e; rfl
theorem gds_nil : GDs X [] [] gN := by
  refine ⟨pgs_imp pgs_nil fun v σ H Q ⟨F, d, ds, hF, r, e, _, q⟩ => ?_, fun d ds e => ?_⟩
  · cases d with
    | nil => cases r; cases e; exact ⟨rfl, q [] .nil⟩
    | cons a b => cases e
  · cases d with
    | nil => cases e; rfl
    | cons a b => cases e
theorem gC_some {g : D → Option (List D)} {r : List D → Option (List D)} {a : D} {b : List D} {ds : List D} (e : gC g r (a :: b) = some ds) : ∃ x y, g a = some x ∧ r b = some y ∧ ds = x ++ y := by
  have e : ((g a).bind fun x => (r b).bind fun y => some (x ++ y)) = some ds := e
  cases ha : g a with
  | none => rw [ha] at e; cases e
  | some x =>
    rw [ha] at e
    cases hb : r b with
    | none => simp only [Option.bind_some, hb] at e; cases e
    | some y =>
      simp only [Option.bind_some, hb] at e
      cases e
      exact ⟨x, y, rfl, rfl, rfl⟩
theorem gds_cons {e : PySem.Expr} {es : List PySem.Expr} {s1 s2 : List Nat} {g : D → Option (List D)} {r : List D → Option (List D)} (h1 : GD X e s1 g) (h2 : GDs X es s2 r)
    (hs : (assignEach (e :: es) X.env).map (·.2) = assign e X.env :: (assignEach es X.env).map (·.2) := by rfl) : GDs X (e :: es) (s1 ++ s2) (gC g r) := by
  refine ⟨pgs_imp (pgs_cons h1.1 h2.1 hs) fun v σ H Q ⟨F, d, ds, hF, rr, e, _, q⟩ => ?_, fun d ds e => ?_⟩
  · cases d with
    | nil => cases e
    | cons a b =>
      obtain ⟨x, y, ha, hb, rfl⟩ := gC_some e
      cases v with
      | nil => cases rr
      | cons v0 vs0 =>
      cases rr with
      | cons r1 r2 =>
        refine ⟨v0, vs0, rfl, F, a, x, hF, r1, ha, h1.2 _ _ ha, fun us ru => ?_⟩
        refine ⟨F, b, y, hF, r2, hb, h2.2 _ _ hb, fun ws rw' => ?_⟩
        have z := q (us ++ ws) (ru.append rw')
        rw [List.map_append, setAll_append s1 s2 _ _ _ (by rw [List.length_map, ru.length]; exact h1.2 _ _ ha)] at z
        exact z
  · cases d with
    | nil => cases e
    | cons a b =>
      obtain ⟨x, y, ha, hb, rfl⟩ := gC_some e
      rw [List.length_append, List.length_append, h1.2 _ _ ha, h2.2 _ _ hb]
theorem gT_some {n : Nat} {g : List D → Option (List D)} {d : D} {ds : List D} (e : gT n g d = some ds) : ∃ xs, d = .tup xs ∧ xs.length = n ∧ g xs = some ds := by
  cases d with
  | tup xs =>
    have e : (if xs.length = n then g xs else none) = some ds := e
    by_cases hl : xs.length = n
    · rw [if_pos hl] at e; exact ⟨xs, rfl, hl, e⟩
    · rw [if_neg hl] at e; cases e
  | _ => cases e
theorem gd_tup {es : List PySem.Expr} {k n : Nat} {s : List Nat} {g : List D → Option (List D)} (hc : X.calm = true) (h : GDs X es s g)
    (hn : (assignEach es X.env).length = n := by rfl) (hst : (assignEach es X.env).findIdx? (·.1) = none := by rfl) : GD X (.Tuple es k pos) s (gT n g) := by
  refine ⟨pg_imp (pg_tup hc h.1 hn hst) fun v σ H Q ⟨F, d, ds, hF, r, e, l, q⟩ => ?_, fun d ds e => ?_⟩
  · obtain ⟨xs, rfl, hl, e⟩ := gT_some e
    cases r with
    | tup a b => exact ⟨_, _, rfl, SqT.same hF a, by rw [b.length]; exact hl, F, xs, ds, hF, b, e, l, q⟩
  · obtain ⟨xs, rfl, hl, e⟩ := gT_some e
    exact h.2 _ _ e
end

section
variable {K : PySem.W.Frag} {mg : Str → Option Value} {B : Bs} {F H : Hp}
theorem EnvS.setAll : ∀ (sl : List Nat) (vs : List V) (ds : List D) {σ : L2.St} {ρ : DEnv}, EnvS K mg B F σ H ρ → RepAll K mg F vs ds → EnvS K mg B F (DL.setAll σ sl (vs.map some)) H (DL.setAll ρ sl (ds.map Slot.d))
  | [], [], [], _, _, e, _ => e
  | [], _ :: _, _ :: _, _, _, e, _ => e
  | _, [], _ :: _, _, _, _, h => by cases h
  | _, _ :: _, [], _, _, _, h => by cases h
  | _ :: _, [], [], _, _, e, _ => e
  | i :: sl, v :: vs, d :: ds, _, _, e, h => by
    cases h with
    | cons a b => exact EnvS.setAll sl vs ds (e.set a i) b
end
/-- a, b = e -/
def sTgt (k : Bool) (S sl : List Nat) (g : D → Option (List D)) (f : DEnv → Res D) : DEnv → SRes := fun ρ => after (f ρ) ρ fun d => rest k S (fun b => d.nlx b) ρ fun ρ' => match g d with
  | some ds => .nx (setAll ρ' sl (ds.map Slot.d))
  | none => .st
section
variable {X : Cx} {fr : Bool} {We : WX} {S sl : List Nat} {pos : Pos} {e tg : PySem.Expr}
theorem sd_tgt (k : Bool) {g : D → Option (List D)} {fe : DEnv → Res D} (he : PD X We S e fe) (hg : GD X tg sl g) (hs : swapsWithSole [tg] e pos.line X.env = pure false := by rfl) (hw : swappedStores [tg] e X.env = pure none := by rfl)
    (h1 : (assignEach [tg] X.env).map (·.2) = [assign tg X.env] := by rfl) : SD X fr We (.Assign [tg] e pos) (sTgt k S sl g fe) :=
  ps_imp (ps_asg he hg.1 hs hw h1) fun E σ H ⟨B, F, ρ, e, h⟩ => OutS.evalD e h fun F' H' v d ρ' e' r q => by
    cases hd : g d with
    | none => rw [hd] at q; exact q.elim
    | some ds =>
      rw [hd] at q
      exact ⟨F', d, ds, e'.fh, r, hd, hg.2 _ _ hd, fun vs rv => q F' _ H' (EnvS.setAll sl vs ds e' rv)⟩

/-! ### the def's own list changes -/
def sApp (k : Bool) (S : List Nat) (i : Nat) (f : DEnv → Res D) : DEnv → SRes := fun ρ => match ρ[i]? with
  | some (.own _ _) => after (f ρ) ρ fun d => rest k S (fun b => d.nlx b) ρ fun ρ' => match ρ'[i]? with
    | some (.own t xs) => if xs.length < lim then .nx (ρ'.set i (.own t (xs ++ [d]))) else .st
    | _ => .st
  | _ => .st
theorem sd_app (k : Bool) (i : Nat) {x : Str} {np apos cpos : Pos} {e : PySem.Expr} {fe : DEnv → Res D} (he : PD X We S e fe) (hN : X.N[i]? = some x := by rfl) (hv : Vis X.env.scope x := by first | exact Or.inl rfl | exact Or.inr (Or.inl rfl) | exact Or.inr (Or.inr rfl))
    (hpe : ∀ {r : TE} {t : TA}, PE X (.Name x np) r → PA X [e] t → PE X (.Call (.Attribute (.Name x np) "append" apos) [e] [] cpos) (tBM X.K "list" rAppend r t) := by exact fun a b => pe_bm PySem.F.plainAttrs_list PySem.F.slot_list_append PySem.F.type_list_append mt_append a b)
    (hd : (x == ("__debug__" : Str)) = false := by decide) (hcd : (x == ("__classdict__" : Str)) = false := by decide) (hs1 : starEach [e] X.env = (false, eval e X.env) :: starEach [] X.env := by rfl)
    (hs : swapsWith (.Call (.Attribute (.Name x np) "append" apos) [e] [] cpos) none pos.line X.env = pure false := by rfl) : SD X fr We (.Expr (.Call (.Attribute (.Name x np) "append" apos) [e] [] cpos) pos) (sApp k S i fe) :=
  ps_imp (ps_expr (hpe (pe_var hN hv hd hcd) (pa_cons he pa_nil hs1)) hs) fun E σ H ⟨B, F, ρ, e, h⟩ => by
    have h : OutS X.K X.mg fr We B E (match ρ[i]? with
      | some (.own _ _) => after (fe ρ) ρ fun d => rest k S (fun b => d.nlx b) ρ fun ρ' => match ρ'[i]? with
        | some (.own t xs) => if xs.length < lim then .nx (ρ'.set i (.own t (xs ++ [d]))) else .st
        | _ => .st
      | _ => .st) := h
    cases h0 : ρ[i]? with
    | none => rw [h0] at h; exact h.elim
    | some s =>
    rw [h0] at h
    cases s with
    | un => exact h.elim
    | d d => exact h.elim
    | obo t c ns fs => exact h.elim
    | own t xs =>
    obtain ⟨a, vs, ha, a2, a3, a4, a5, _⟩ := e.sl i _ h0
    refine ⟨_, ha, .inl ⟨rfl, _, SqL.of a4⟩, ?_⟩
    refine OutS.evalD (k := k) (g := fun d ρ' => match ρ'[i]? with
        | some (.own t xs) => if xs.length < lim then .nx (ρ'.set i (.own t (xs ++ [d]))) else .st
        | _ => .st) e h fun F' H' v d ρ' e' r q => by
      cases h1 : ρ'[i]? with
      | none => rw [h1] at q; exact q.elim
      | some s =>
        rw [h1] at q
        cases s with
        | un => exact q.elim
        | d d => exact q.elim
        | obo t c ns fs => exact q.elim
        | own t xs =>
          have q : OutS X.K X.mg fr We B E (if xs.length < lim then .nx (ρ'.set i (.own t (xs ++ [d]))) else .st) := q
          by_cases hl : xs.length < lim
          · rw [if_pos hl] at q
            obtain ⟨a', vs, a1, a2, a3, a4, a5, _⟩ := e'.sl i _ h1
            rw [ha] at a1; cases a1
            exact ⟨a, vs, v, rfl, rfl, a4, by rw [a5.length]; exact lt_line hl, q F' σ _ (e'.mut h1 ha (a5.append (.cons r .nil)))⟩
          · rw [if_neg hl] at q; exact q.elim
end
end DL
set_option Elab.async false
set_option linter.all false
set_option maxRecDepth 100000
set_option maxHeartbeats 1000000
/-! DL3: operators, built-ins, by data. -/
namespace DL
open PySem PySem.Spec PyProof.Rows L2

/-! ### arithmetic -/
def dAdd : D → D → Res D
  | .int i, .int j => .ok (.int (i + j))
  | .str x, .str y => if x.length + y.length ≤ lim then .ok (.str (x ++ y)) else .st
  | .tup xs, .tup ys => if xs.length + ys.length ≤ lim then .ok (.tup (xs ++ ys)) else .st
  | _, _ => .st
def dI2 (g : Int → Int → Int) : D → D → Res D
  | .int i, .int j => .ok (.int (g i j))
  | _, _ => .st
def dI2c (c : Int → Int → Bool) (g : Int → Int → Int) : D → D → Res D
  | .int i, .int j => if c i j = true then .ok (.int (g i j)) else .st
  | _, _ => .st
def dI2b (g : Int → Int → Bool) : D → D → Res D
  | .int i, .int j => .ok (.bl (g i j))
  | _, _ => .st
def big : Int := 18446744073709551616
def cMul (i j : Int) : Bool := decide (i.natAbs < 18446744073709551616) || decide (j.natAbs < 18446744073709551616)
def cDiv (_ j : Int) : Bool := decide (0 < j.toNat) && decide (j.toNat < 1073741824)
def cMod (_ j : Int) : Bool := decide (0 < j.toNat)
def cPow (i j : Int) : Bool := decide (0 ≤ j) && decide (j.toNat ≤ 1000000) && decide (i.natAbs < 18446744073709551616)
def cShr (_ j : Int) : Bool := decide (0 ≤ j)
abbrev dSub := dI2 (· - ·)
abbrev dMul := dI2c cMul (· * ·)
abbrev dDiv := dI2c cDiv (· / ·)
abbrev dMod := dI2c cMod (· % ·)
abbrev dPow := dI2c cPow fun i j => i ^ j.toNat
abbrev dShl := dI2c cPow fun i j => i * 2 ^ j.toNat
abbrev dShr := dI2c cShr fun i j => i / 2 ^ j.toNat
abbrev dAnd := dI2 Builtin.bitAnd
abbrev dOr := dI2 Builtin.bitOr
abbrev dXor := dI2 Builtin.bitXor
abbrev dLt := dI2b fun i j => decide (i < j)
abbrev dLe := dI2b fun i j => decide (i ≤ j)
abbrev dGt := dI2b fun i j => decide (j < i)
abbrev dGe := dI2b fun i j => decide (j ≤ i)
def dNeg : D → Res D
  | .int i => .ok (.int (-i))
  | _ => .st
def dInv : D → Res D
  | .int i => .ok (.int (Builtin.bitNot i))
  | _ => .st
section
variable {K : PySem.W.Frag} {mg : Str → Option Value}
theorem od_or {r r' : R2} {o : D → D → Res D} (h : ∀ (We : WX) (F H : Hp) (σ : L2.St) (x y : D) (v u : V) (Q : VK), Same F H → Rep K mg F v x → Rep K mg F u y → Out K mg We (RD K mg) F H σ Q (o x y) → r v u H Q ∨ r' v u H Q) : OpD K mg (fun x y H Q => r x y H Q ∨ r' x y H Q) o := h
theorem od_int {g : Int → Int → Int} : OpD K mg (rI0 fun i j => .int (g i j)) (dI2 g) := fun We F H σ x y v u Q hF rx ry h => by
  cases x <;> try exact h.elim
  cases y <;> try exact h.elim
  cases rx; cases ry
  exact ⟨_, _, rfl, rfl, h F H _ (Ext.refl hF) (.int _)⟩
theorem od_intc {c : Int → Int → Bool} {C : Int → Int → Prop} {g : Int → Int → Int} (hc : ∀ i j, c i j = true → C i j) : OpD K mg (rI C fun i j => .int (g i j)) (dI2c c g) := fun We F H σ x y v u Q hF rx ry h => by
  cases x <;> try exact h.elim
  cases y <;> try exact h.elim
  cases rx; cases ry
  rename_i i j
  have h : Out K mg We (RD K mg) F H σ Q (if c i j = true then .ok (.int (g i j)) else .st) := h
  by_cases z : c i j = true
  · rw [if_pos z] at h
    exact ⟨_, _, rfl, rfl, hc _ _ z, h F H _ (Ext.refl hF) (.int _)⟩
  · rw [if_neg z] at h; exact h.elim
theorem od_intb {g : Int → Int → Bool} : OpD K mg (rI0 fun i j => .bl (g i j)) (dI2b g) := fun We F H σ x y v u Q hF rx ry h => by
  cases x <;> try exact h.elim
  cases y <;> try exact h.elim
  cases rx; cases ry
  exact ⟨_, _, rfl, rfl, h F H _ (Ext.refl hF) (.bl _)⟩
theorem od_sub : OpD K mg (rI0 fun i j => .int (i - j)) dSub := od_int
theorem od_and : OpD K mg (rI0 fun i j => .int (Builtin.bitAnd i j)) dAnd := od_int
theorem od_orr : OpD K mg (rI0 fun i j => .int (Builtin.bitOr i j)) dOr := od_int
theorem od_xor : OpD K mg (rI0 fun i j => .int (Builtin.bitXor i j)) dXor := od_int
theorem od_mul : OpD K mg (rI CMul fun i j => .int (i * j)) dMul := od_intc fun i j h => by
  simp only [cMul, Bool.or_eq_true, decide_eq_true_eq] at h
  have e : (2 : Int) ^ 64 = 18446744073709551616 := rfl
  unfold CMul
  rw [e]
  omega
theorem od_div : OpD K mg (rI CDiv fun i j => .int (i / j)) dDiv := od_intc fun i j h => by
  simp only [cDiv, Bool.and_eq_true, decide_eq_true_eq] at h
  exact ⟨by omega, by show j < 1073741824; omega⟩
theorem od_mod : OpD K mg (rI (fun _ j => 0 < j) fun i j => .int (i % j)) dMod := od_intc fun i j h => by
  simp only [cMod, decide_eq_true_eq] at h
  show 0 < j
  omega
theorem cPow_ok {i j : Int} (h : cPow i j = true) : CPow i j := by
  simp only [cPow, Bool.and_eq_true, decide_eq_true_eq] at h
  unfold CPow
  have e : (2 : Nat) ^ 64 = 18446744073709551616 := rfl
  refine ⟨h.1.1, by omega, ?_⟩
  rw [e]
  omega
theorem od_pow : OpD K mg (rI CPow fun i j => .int (i ^ j.toNat)) dPow := od_intc fun i j h => cPow_ok h
theorem od_shl : OpD K mg (rI CPow fun i j => .int (i * 2 ^ j.toNat)) dShl := od_intc fun i j h => cPow_ok h
theorem od_shr : OpD K mg (rI (fun _ j => 0 ≤ j) fun i j => .int (i / 2 ^ j.toNat)) dShr := od_intc fun i j h => by
  simp only [cShr, decide_eq_true_eq] at h
  exact h
def rAddA (K : PySem.W.Frag) : R2 := fun x y H Q => (rI0 (fun i j => .int (i + j)) x y H Q ∨ (∃ i j, x = .str i ∧ y = .str j ∧ i.length + j.length ≤ sizeLine ∧ Q (.str (i ++ j)) H)) ∨ rCatA K x y H Q
theorem op_addA {X : Cx} : OpR X (binaryOp .Add) (rAddA X.K) := (OpR.or (OpR.or op_add op_add_str) op_catA)
theorem od_add : OpD K mg (rAddA K) dAdd := fun We F H σ x y v u Q hF rx ry h => by
  cases x with
  | int i =>
    cases y <;> try exact h.elim
    cases rx; cases ry
    exact .inl (.inl ⟨_, _, rfl, rfl, h F H _ (Ext.refl hF) (.int _)⟩)
  | str a =>
    cases y <;> try exact h.elim
    cases rx; cases ry
    rename_i b
    have h : Out K mg We (RD K mg) F H σ Q (if a.length + b.length ≤ lim then .ok (.str (a ++ b)) else .st) := h
    by_cases z : a.length + b.length ≤ lim
    · rw [if_pos z] at h
      exact .inl (.inr ⟨_, _, rfl, rfl, le_line z, h F H _ (Ext.refl hF) (.str _)⟩)
    · rw [if_neg z] at h; exact h.elim
  | tup a =>
    cases y <;> try exact h.elim
    rename_i b
    have h : Out K mg We (RD K mg) F H σ Q (if a.length + b.length ≤ lim then .ok (.tup (a ++ b)) else .st) := h
    by_cases z : a.length + b.length ≤ lim
    · rw [if_pos z] at h
      cases rx with
      | tup s1 r1 =>
        cases ry with
        | tup s2 r2 =>
          refine .inr ⟨_, _, _, _, rfl, rfl, SqT.same hF s1, SqT.same hF s2, by rw [r1.length, r2.length]; exact le_line z, fun e => ?_, fun _ e => ?_, fun e e' p hp => ?_⟩
          · subst e
            cases r1
            exact h F H _ (Ext.refl hF) (.tup s2 r2)
          · subst e
            cases r2
            rw [List.append_nil] at h
            exact h F H _ (Ext.refl hF) (.tup s1 r1)
          · exact h _ _ _ (Ext.new hF hp) (.tup (SqT.of upd_same) ((r1.append r2).mono (same_upd (hF.free hp))))
    · rw [if_neg z] at h; exact h.elim
  | _ => exact h.elim
end

/-! ### == -/
mutual
def D.eqv : D → D → Bool
  | .non, .non => true
  | .bl a, .bl b => a == b
  | .bl a, .int j => (if a then 1 else 0) == j
  | .int i, .bl b => i == (if b then 1 else 0)
  | .int i, .int j => i == j
  | .str x, .str y => x == y
  | .lst xs, .lst ys => eqvs xs ys
  | .tup xs, .tup ys => eqvs xs ys
  | _, _ => false
def eqvs : List D → List D → Bool
  | [], [] => true
  | x :: xs, y :: ys => x.eqv y && eqvs xs ys
  | _, _ => false
end
mutual
def D.py : D → PyData
  | .non => .none
  | .bl b => .bool b
  | .int i => .int i
  | .str x => .str x
  | .lst xs => .list (pys xs)
  | .tup xs => .tuple (pys xs)
  | .obj _ _ _ => .none
def pys : List D → List PyData
  | [] => []
  | x :: xs => x.py :: pys xs
end
mutual
/-- of this depth at most, no instance, texts of real signs -/
def dOk : Nat → D → Bool
  | _, .non => true
  | _, .bl _ => true
  | _, .int _ => true
  | _, .str x => PyData.strOk x
  | n, .lst xs => match n with
    | 0 => false
    | n + 1 => dOks n xs
  | n, .tup xs => match n with
    | 0 => false
    | n + 1 => dOks n xs
  | _, .obj _ _ _ => false
def dOks : Nat → List D → Bool
  | _, [] => true
  | n, x :: xs => dOk n x && dOks n xs
end
mutual
theorem dOk_lay : ∀ (d : D) (n : Nat), dOk n d = true → d.py.canLay0 = true ∧ d.py.depth ≤ n
  | .non, _, _ => ⟨rfl, Nat.zero_le _⟩
  | .bl _, _, _ => ⟨rfl, Nat.zero_le _⟩
  | .int _, _, _ => ⟨rfl, Nat.zero_le _⟩
  | .str x, n, h => ⟨by cases n <;> exact h, Nat.zero_le _⟩
  | .lst xs, n, h => by
    cases n with
    | zero => cases h
    | succ n =>
      obtain ⟨a, b⟩ := dOks_lay xs n h
      exact ⟨a, Nat.succ_le_succ b⟩
  | .tup xs, n, h => by
    cases n with
    | zero => cases h
    | succ n =>
      obtain ⟨a, b⟩ := dOks_lay xs n h
      exact ⟨a, Nat.succ_le_succ b⟩
  | .obj _ _ _, n, h => by cases n <;> cases h
theorem dOks_lay : ∀ (ds : List D) (n : Nat), dOks n ds = true → PyData.canLayAll0 (pys ds) = true ∧ PyData.depthAll (pys ds) ≤ n
  | [], _, _ => ⟨rfl, Nat.zero_le _⟩
  | x :: xs, n, h => by
    have h : (dOk n x && dOks n xs) = true := by cases n <;> exact h
    rw [Bool.and_eq_true] at h
    obtain ⟨a, b⟩ := dOk_lay x n h.1
    obtain ⟨c, d⟩ := dOks_lay xs n h.2
    exact ⟨by show (_ && _) = true; rw [a, c]; rfl, Nat.max_le.mpr ⟨b, d⟩⟩
end
theorem dOk_shaped {d : D} (h : dOk 16 d = true) : SeqAt.shaped d.py = true := by
  obtain ⟨a, b⟩ := dOk_lay d 16 h
  unfold SeqAt.shaped
  rw [a, decide_eq_true (show d.py.depth ≤ 64 by omega)]
  rfl
mutual
theorem eqv_py : ∀ (d e : D) (n m : Nat), dOk n d = true → dOk m e = true → PyData.eqv d.py e.py = d.eqv e
  | .non, e, n, m, h1, h2 => by cases e <;> first | rfl | (cases m <;> cases h2)
  | .bl _, e, n, m, h1, h2 => by cases e <;> first | rfl | (cases m <;> cases h2)
  | .int _, e, n, m, h1, h2 => by cases e <;> first | rfl | (cases m <;> cases h2)
  | .str _, e, n, m, h1, h2 => by cases e <;> first | rfl | (cases m <;> cases h2)
  | .lst xs, e, n, m, h1, h2 => by
    cases e <;> first | rfl | (cases m <;> cases h2; done) | skip
    cases n with
    | zero => cases h1
    | succ n =>
      cases m with
      | zero => cases h2
      | succ m => exact eqvs_py xs _ n m h1 h2
  | .tup xs, e, n, m, h1, h2 => by
    cases e <;> first | rfl | (cases m <;> cases h2; done) | skip
    cases n with
    | zero => cases h1
    | succ n =>
      cases m with
      | zero => cases h2
      | succ m => exact eqvs_py xs _ n m h1 h2
  | .obj _ _ _, e, n, m, h1, h2 => by cases n <;> cases h1
theorem eqvs_py : ∀ (ds es : List D) (n m : Nat), dOks n ds = true → dOks m es = true → PyData.eqvAll (pys ds) (pys es) = eqvs ds es
  | [], es, n, m, h1, h2 => by cases es <;> rfl
  | x :: xs, es, n, m, h1, h2 => by
    cases es with
    | nil => rfl
    | cons y ys =>
      have h1 : (dOk n x && dOks n xs) = true := by cases n <;> exact h1
      have h2 : (dOk m y && dOks m ys) = true := by cases m <;> exact h2
      rw [Bool.and_eq_true] at h1 h2
      show (PyData.eqv x.py y.py && PyData.eqvAll (pys xs) (pys ys)) = (x.eqv y && eqvs xs ys)
      rw [eqv_py x y n m h1.1 h2.1, eqvs_py xs ys n m h1.2 h2.2]
end
section
variable {K : PySem.W.Frag} {mg : Str → Option Value}
mutual
theorem Rep.dp {F : Hp} : ∀ (d : D) (v : V) (n : Nat), dOk n d = true → Rep K mg F v d → Dp K F v d.py
  | .non, _, _, _, h => by cases h; exact .non
  | .bl b, _, _, _, h => by cases h; exact .bl b
  | .int i, _, _, _, h => by cases h; exact .int i
  | .str x, _, _, _, h => by cases h; exact .str x
  | .lst ds, _, n, k, h => by
    cases n with
    | zero => cases k
    | succ n =>
      cases h with
      | lst a b => exact .lst a (RepAll.dp ds _ n k b)
  | .tup ds, _, n, k, h => by
    cases n with
    | zero => cases k
    | succ n =>
      cases h with
      | tup a b => exact .tup a (RepAll.dp ds _ n k b)
  | .obj _ _ _, _, n, k, h => by cases n <;> cases k
theorem RepAll.dp {F : Hp} : ∀ (ds : List D) (vs : List V) (n : Nat), dOks n ds = true → RepAll K mg F vs ds → DpAll K F vs (pys ds)
  | [], _, _, _, h => by cases h; exact .nil
  | d :: ds, _, n, k, h => by
    have k : (dOk n d && dOks n ds) = true := by cases n <;> exact k
    rw [Bool.and_eq_true] at k
    cases h with
    | cons a b => exact .cons (Rep.dp d _ n k.1 a) (RepAll.dp ds _ n k.2 b)
end
end
def dEq (x y : D) : Res D := if dOk 16 x = true ∧ dOk 16 y = true then .ok (.bl (x.eqv y)) else .st
def dNe (x y : D) : Res D := if dOk 16 x = true ∧ dOk 16 y = true then .ok (.bl (!x.eqv y)) else .st
section
variable {K : PySem.W.Frag} {mg : Str → Option Value}
theorem od_eq : OpD K mg (rEqD K) dEq := fun We F H σ x y v u Q hF rx ry h => by
  unfold dEq at h
  by_cases z : dOk 16 x = true ∧ dOk 16 y = true
  · rw [if_pos z] at h
    exact ⟨x.py, y.py, (rx.mono hF).dp _ _ _ z.1, (ry.mono hF).dp _ _ _ z.2, dOk_shaped z.1, dOk_shaped z.2, by rw [eqv_py x y 16 16 z.1 z.2]; exact h F H _ (Ext.refl hF) (.bl _)⟩
  · rw [if_neg z] at h; exact h.elim
theorem od_ne : OpD K mg (rNeD K) dNe := fun We F H σ x y v u Q hF rx ry h => by
  unfold dNe at h
  by_cases z : dOk 16 x = true ∧ dOk 16 y = true
  · rw [if_pos z] at h
    exact ⟨x.py, y.py, (rx.mono hF).dp _ _ _ z.1, (ry.mono hF).dp _ _ _ z.2, dOk_shaped z.1, dOk_shaped z.2, by rw [eqv_py x y 16 16 z.1 z.2]; exact h F H _ (Ext.refl hF) (.bl _)⟩
  · rw [if_neg z] at h; exact h.elim
end
/-! ### is None -/
def D.isN : D → Bool
  | .non => true
  | _ => false
def dIsN : D → D → Res D
  | x, .non => .ok (.bl x.isN)
  | _, _ => .st
def dNotN : D → D → Res D
  | x, .non => .ok (.bl (!x.isN))
  | _, _ => .st
section
variable {K : PySem.W.Frag} {mg : Str → Option Value}
end
def rIsNone : R2 := fun x y H Q => y = .non ∧ Q (.bl (decide (x = .non))) H
def rNotNone : R2 := fun x y H Q => y = .non ∧ Q (.bl (!decide (x = .non))) H
section
variable {K : PySem.W.Frag} {mg : Str → Option Value}
theorem isN_of {F : Hp} {v : V} {x : D} (r : Rep K mg F v x) : decide (v = .non) = x.isN := by
  cases r <;> first | rfl | exact decide_eq_false (fun z => nomatch z)
theorem od_isN : OpD K mg rIsNone dIsN := fun We F H σ x y v u Q hF rx ry h => by
  cases y <;> try exact h.elim
  cases ry
  exact ⟨rfl, by rw [isN_of rx]; exact h F H _ (Ext.refl hF) (.bl _)⟩
theorem od_notN : OpD K mg rNotNone dNotN := fun We F H σ x y v u Q hF rx ry h => by
  cases y <;> try exact h.elim
  cases ry
  exact ⟨rfl, by rw [isN_of rx]; exact h F H _ (Ext.refl hF) (.bl _)⟩
end
end DL
set_option Elab.async false
set_option linter.all false
set_option maxRecDepth 100000
set_option maxHeartbeats 1000000
/-! DL4: what is walked, for, comprehensions, defs and their calls. -/
namespace DL
open PySem PySem.Spec PyProof.Rows L2

/-! ### what is walked -/
/-- J walks ds as long as F stands still -/
def ItD (K : PySem.W.Frag) (mg : Str → Option Value) (J : It) (F : Hp) (ds : List D) : Prop := ∀ (i : Nat) (Fc H : Hp), Same F Fc → Same Fc H →
  (i = ds.length → J.stop i H) ∧ ∀ d, ds[i]? = some d → J.go i H ∧ ∀ x H', J.yld i H x H' → ∃ F2, Ext Fc H F2 H' ∧ Rep K mg F2 x d
abbrev RI (K : PySem.W.Frag) (mg : Str → Option Value) : Hp → Hp → Hp → It → List D → Prop := fun _ F' _ J ds => ItD K mg J F' ds
abbrev RI0 (K : PySem.W.Frag) (mg : Str → Option Value) : Hp → Hp → Hp → It → List D → Prop := fun _ _ _ J ds => ItD K mg J (fun _ => none) ds
instance {K : PySem.W.Frag} {mg : Str → Option Value} : Anti (RI K mg) := ⟨fun _ h => h⟩
instance {K : PySem.W.Frag} {mg : Str → Option Value} : Anti (RI0 K mg) := ⟨fun _ h => h⟩
abbrev ID (X : Cx) (We : WX) (S : List Nat) (tg iter : PySem.Expr) (f : DEnv → Res (List D)) : Prop := PI X tg iter (tG X.K X.mg We (RI X.K X.mg) S f)
abbrev ID0 (X : Cx) (We : WX) (S : List Nat) (tg iter : PySem.Expr) (f : DEnv → Res (List D)) : Prop := PI X tg iter (tG X.K X.mg We (RI0 X.K X.mg) S f)
theorem pi_imp {X : Cx} {tg iter : PySem.Expr} {t t' : TI} (h : PI X tg iter t) (i : ∀ σ H Q, t' σ H Q → t σ H Q) : PI X tg iter t' := ⟨fun pins s σ H R I q => h.run pins s σ H R I (i σ H R q)⟩
theorem id_of0 {X : Cx} {We : WX} {S : List Nat} {tg iter : PySem.Expr} {f : DEnv → Res (List D)} (h : ID0 X We S tg iter f) : ID X We S tg iter f :=
  pi_imp h fun σ H Q ⟨F, ρ, hF, hE, q⟩ => ⟨F, ρ, hF, hE, by
    cases hf : f ρ with
    | ok ds => rw [hf] at q; exact fun F' H' J ex r => q F' H' J ex fun i Fc H a b => r i Fc H (fun _ _ z => by cases z) b
    | er x => rw [hf] at q; exact q
    | st => rw [hf] at q; exact q⟩
section
variable {K : PySem.W.Frag} {mg : Str → Option Value} {F : Hp}
theorem itd_list {a : Addr} {vs : List V} {ds : List D} (h : SqL K F a vs) (r : RepAll K mg F vs ds) : ItD K mg (Itl K a) F ds := fun i Fc H s1 s2 => by
  have q := SqL.same (s1.trans s2) h
  refine ⟨fun e => ⟨vs, q, by rw [r.length, e]; exact Nat.le_refl _⟩, fun d hd => ?_⟩
  obtain ⟨v, hv, rv⟩ := r.get hd
  refine ⟨⟨vs, v, q, hv⟩, fun x H' y => ?_⟩
  obtain ⟨e, y⟩ := y
  subst e
  have e := (y vs q).symm.trans hv
  cases e
  exact ⟨Fc, Ext.refl s2, rv.mono s1⟩
theorem itd_tup {a : Addr} {vs : List V} {ds : List D} (h : SqT K F a vs) (r : RepAll K mg F vs ds) : ItD K mg (Itt K a) F ds := fun i Fc H s1 s2 => by
  have q := SqT.same (s1.trans s2) h
  refine ⟨fun e => ⟨vs, q, by rw [r.length, e]; exact Nat.le_refl _⟩, fun d hd => ?_⟩
  obtain ⟨v, hv, rv⟩ := r.get hd
  refine ⟨⟨vs, v, q, hv⟩, fun x H' y => ?_⟩
  obtain ⟨e, y⟩ := y
  subst e
  have e := (y vs q).symm.trans hv
  cases e
  exact ⟨Fc, Ext.refl s2, rv.mono s1⟩
/-- the signs of a text -/
def signs (z : Str) : List D := z.cps.toList.map fun c => .str ⟨#[c]⟩
theorem itd_str {z : Str} : ItD K mg (Its z) F (signs z) := fun i Fc H s1 s2 => by
  refine ⟨fun e => ?_, fun d hd => ?_⟩
  · show z.cps.size ≤ i
    rw [e]
    simp [signs]
  · unfold signs at hd
    rw [List.getElem?_map] at hd
    cases hc : z.cps.toList[i]? with
    | none => rw [hc] at hd; cases hd
    | some c =>
      rw [hc] at hd
      cases hd
      have hc' : z.cps[i]? = some c := by simpa using hc
      refine ⟨(Array.getElem?_eq_some_iff.mp hc').1, fun x H' y => ?_⟩
      obtain ⟨e, c', h1, h2⟩ := y
      subst e h2
      rw [hc'] at h1
      cases h1
      exact ⟨Fc, Ext.refl s2, .str _⟩
def rangeD (lo : Int) (n : Nat) : List D := (List.range n).map fun (k : Nat) => .int (lo + k)
theorem itd_range {lo : Int} {n : Nat} : ItD K mg (Itr lo n) F (rangeD lo n) := fun i Fc H s1 s2 => by
  refine ⟨fun e => ?_, fun d hd => ?_⟩
  · show n ≤ i
    rw [e]; simp [rangeD]
  · unfold rangeD at hd
    rw [List.getElem?_map] at hd
    cases hc : (List.range n)[i]? with
    | none => rw [hc] at hd; cases hd
    | some c =>
      rw [hc] at hd
      cases hd
      obtain ⟨h1, h2⟩ := List.getElem?_eq_some_iff.mp hc
      have h1 : i < n := by simpa using h1
      have h2 : i = c := by simpa using h2
      subst h2
      refine ⟨h1, fun x H' y => ?_⟩
      obtain ⟨e, e2⟩ := y
      subst e e2
      exact ⟨Fc, Ext.refl s2, .int _⟩
end
def items : D → Res (List D)
  | .lst xs => .ok xs
  | .tup xs => .ok xs
  | .str z => .ok (signs z)
  | _ => .st
def eIt (f : DEnv → Res D) : DEnv → Res (List D) := fun ρ => (f ρ).bind items
section
variable {X : Cx} {We : WX} {S : List Nat} {tg e : PySem.Expr}
theorem id_seq {f : DEnv → Res D} (h : PD X We S e f) : ID X We S tg e (eIt f) := by
  refine ⟨fun pins s σ H R I ⟨F, ρ, hF, hE, q⟩ => ?_⟩
  have q : Out X.K X.mg We (RI X.K X.mg) F H σ R ((f ρ).bind items) := q
  cases hf : f ρ with
  | st => rw [hf] at q; exact q.elim
  | er x =>
    rw [hf] at q
    exact (pi_list h).run pins s σ H R I ⟨F, ρ, hF, hE, by rw [hf]; exact q⟩
  | ok d =>
    rw [hf] at q
    have q : Out X.K X.mg We (RI X.K X.mg) F H σ R (items d) := q
    cases d with
    | lst xs =>
      refine (pi_list h).run pins s σ H R I ⟨F, ρ, hF, hE, ?_⟩
      rw [hf]
      intro F' H' v ex r
      cases r with
      | lst a b => exact ⟨_, rfl, ⟨_, SqL.same ex.2.1 a⟩, q F' H' _ ex (itd_list a b)⟩
    | tup xs =>
      refine (pi_tup h).run pins s σ H R I ⟨F, ρ, hF, hE, ?_⟩
      rw [hf]
      intro F' H' v ex r
      cases r with
      | tup a b => exact ⟨_, rfl, ⟨_, SqT.same ex.2.1 a⟩, q F' H' _ ex (itd_tup a b)⟩
    | str z =>
      refine (pi_str h).run pins s σ H R I ⟨F, ρ, hF, hE, ?_⟩
      rw [hf]
      intro F' H' v ex r
      cases r
      exact ⟨_, rfl, q F' H' _ ex itd_str⟩
    | _ => exact q.elim
/-- a new list that is walked -/
theorem id_new {g : DEnv → Res (List D)} (h : PF X We S e g) : ID X We S tg e g := by
  refine pi_imp (pi_list h) fun σ H R ⟨F, ρ, hF, hE, q⟩ => ⟨F, ρ, hF, hE, ?_⟩
  cases hf : g ρ with
  | st => rw [hf] at q; exact q.elim
  | er x => rw [hf] at q; exact q
  | ok xs =>
    rw [hf] at q
    intro F' H' v ex r
    obtain ⟨F2, ex2, s2, r2⟩ := fz_ok ex r
    cases r2 with
    | lst a b => exact ⟨_, rfl, ⟨_, SqL.same ex2.2.1 a⟩, q F2 H' _ ex2 (itd_list a b)⟩
def cR (i : Int) : Bool := decide (i.natAbs < 4611686018427387904)
theorem cR_ok {i : Int} (h : cR i = true) : -(2 ^ 62) ≤ i ∧ i < 2 ^ 62 := by
  unfold cR at h
  rw [decide_eq_true_eq] at h
  have e : (2 : Int) ^ 62 = 4611686018427387904 := rfl
  rw [e]
  omega
def rng1 : List D → Res (List D)
  | [.int j] => if cR j = true then .ok (rangeD 0 j.toNat) else .st
  | _ => .st
def rng2 : List D → Res (List D)
  | [.int i, .int j] => if cR i = true ∧ cR j = true then .ok (rangeD i (j - i).toNat) else .st
  | _ => .st
def eL {β : Type} (r : List D → Res β) (g : DEnv → Res (List D)) : DEnv → Res β := fun ρ => (g ρ).bind r
theorem rng1_ok {ds : List D} {xs : List D} (h : rng1 ds = .ok xs) : ∃ j, ds = [.int j] ∧ cR j = true ∧ xs = rangeD 0 j.toNat := by
  unfold rng1 at h
  split at h
  · split at h
    · rename_i z
      cases h
      exact ⟨_, rfl, z, rfl⟩
    · cases h
  · cases h
theorem rng1_ner {ds : List D} {x : Exn} (h : rng1 ds = .er x) : False := by
  unfold rng1 at h
  split at h
  · split at h <;> cases h
  · cases h
theorem id_range1 {a : PySem.Expr} {g : DEnv → Res (List D)} {p pos : Pos} (hm : X.mg "range" = none) (ha : PAD X We S [a] g) (hg : Gl X "range" := by rfl) (hs : starEach [a] X.env = [(false, eval a X.env)] := by rfl) : ID0 X We S tg (.Call (.Name "range" p) [a] [] pos) (eL rng1 g) :=
  pi_imp (pi_range1 hg hm ha hs) fun σ H R ⟨F, ρ, hF, hE, q⟩ => ⟨F, ρ, hF, hE, Out.bind q fun ds F1 H1 vs ex r q1 => by
    cases h2 : rng1 ds with
    | st => rw [h2] at q1; exact q1.elim
    | er x => exact (rng1_ner h2).elim
    | ok xs =>
      rw [h2] at q1
      obtain ⟨j, rfl, c1, rfl⟩ := rng1_ok h2
      obtain ⟨v, rfl, rv⟩ := r.one
      cases rv
      exact ⟨j, rfl, (cR_ok c1).1, (cR_ok c1).2, q1 F1 H1 _ (Ext.refl ex.2.1) itd_range⟩⟩
theorem rng2_ok {ds : List D} {xs : List D} (h : rng2 ds = .ok xs) : ∃ i j, ds = [.int i, .int j] ∧ cR i = true ∧ cR j = true ∧ xs = rangeD i (j - i).toNat := by
  unfold rng2 at h
  split at h
  · split at h
    · rename_i z
      cases h
      exact ⟨_, _, rfl, z.1, z.2, rfl⟩
    · cases h
  · cases h
theorem rng2_ner {ds : List D} {x : Exn} (h : rng2 ds = .er x) : False := by
  unfold rng2 at h
  split at h
  · split at h <;> cases h
  · cases h
theorem id_range2 {a b : PySem.Expr} {g : DEnv → Res (List D)} {p pos : Pos} (hm : X.mg "range" = none) (ha : PAD X We S [a, b] g) (hg : Gl X "range" := by rfl) (hs : starEach [a, b] X.env = [(false, eval a X.env), (false, eval b X.env)] := by rfl) (hs2 : starEach [b] X.env = [(false, eval b X.env)] := by rfl) :
    ID0 X We S tg (.Call (.Name "range" p) [a, b] [] pos) (eL rng2 g) :=
  pi_imp (pi_range2 hg hm ha hs hs2) fun σ H R ⟨F, ρ, hF, hE, q⟩ => ⟨F, ρ, hF, hE, Out.bind q fun ds F1 H1 vs ex r q1 => by
    cases h2 : rng2 ds with
    | st => rw [h2] at q1; exact q1.elim
    | er x => exact (rng2_ner h2).elim
    | ok xs =>
      rw [h2] at q1
      obtain ⟨i, j, rfl, c1, c2, rfl⟩ := rng2_ok h2
      obtain ⟨v, u, rfl, rv, ru⟩ := r.two
      cases rv; cases ru
      exact ⟨i, j, rfl, ⟨(cR_ok c1).1, (cR_ok c1).2, (cR_ok c2).1, (cR_ok c2).2⟩, q1 F1 H1 _ (Ext.refl ex.2.1) itd_range⟩⟩
end

/-! ### for -/
def forL (sl : List Nat) (g : D → Option (List D)) (fb : DEnv → SRes) : List D → DEnv → SRes
  | [], ρ => .nx ρ
  | d :: ds, ρ => match g d with
    | none => .st
    | some vs => match fb (setAll ρ sl (vs.map Slot.d)) with
      | .nx ρ' => forL sl g fb ds ρ'
      | .ct ρ' => forL sl g fb ds ρ'
      | .bk ρ' => .nx ρ'
      | r => r
def sFor (S sl : List Nat) (fi : DEnv → Res (List D)) (g : D → Option (List D)) (fb : DEnv → SRes) : DEnv → SRes := fun ρ => after (fi ρ) ρ fun ds => forL sl g fb ds (dem S ρ)
/-- .. over a range: no list is put to rest -/
def sForR (sl : List Nat) (fi : DEnv → Res (List D)) (g : D → Option (List D)) (fb : DEnv → SRes) : DEnv → SRes := fun ρ => after (fi ρ) ρ fun ds => forL sl g fb ds ρ
section
variable {K : PySem.W.Frag} {mg : Str → Option Value} {fr : Bool} {We : WX} {B : Bs} {F1 F H : Hp} {σ : L2.St} {ρ : DEnv} {E : Ends}
/-- another base: what stands still by now -/
def base2 (F1 H0 : Hp) : Hp := fun p => match F1 p with
  | some o => some o
  | none => H0 p
def Bs.b2 (B : Bs) (F1 : Hp) : Bs := ⟨F1, base2 F1 B.H, B.τ⟩
theorem base2_F {H0 : Hp} {p : Addr} {o : HO} (h : F1 p = some o) : base2 F1 H0 p = some o := by unfold base2; rw [h]
theorem EnvS.base (e : EnvS K mg B F1 σ H ρ) : EnvS K mg (B.b2 F1) F1 σ H ρ := by
  refine ⟨fun p o q => base2_F q, Same.refl _, e.fh, fun p o q => ?_, fun _ _ _ => rfl, e.len, fun i s h => ?_, e.ap⟩
  · have q : base2 F1 B.H p = some o := q
    unfold base2 at q
    split at q
    · rename_i z
      cases q
      exact e.fh _ _ z
    · exact e.hh _ _ q
  · have z := e.sl i s h
    have no : ∀ {a}, F1 a = none → B.H a = none → (B.b2 F1).H a = none := fun {a} a2 a3 => by
      show base2 F1 B.H a = none
      unfold base2
      rw [a2]
      exact a3
    cases s with
    | un => trivial
    | d d => exact z
    | own t xs =>
      obtain ⟨a, vs, a1, a2, a3, r⟩ := z
      exact ⟨a, vs, a1, a2, no a2 a3, r⟩
    | obo t c ns fs =>
      obtain ⟨a, C, dx, fv, a1, a2, a3, r⟩ := z
      exact ⟨a, C, dx, fv, a1, a2, no a2 a3, r⟩
theorem base2_H {F0 H0 : Hp} (h : ∀ p o, H0 p = some o → F1 p = F0 p) (f0 : Same F0 H0) {p : Addr} {o : HO} (q : H0 p = some o) : base2 F1 H0 p = some o := by
  unfold base2
  split
  · rename_i o' z
    have z1 := (h p o q).symm.trans z
    have z2 := f0 _ _ z1
    rw [q] at z2
    exact z2.symm
  · exact q
theorem base2_none {F0 H0 : Hp} {p : Addr} (h : ∀ p o, H0 p = some o → F1 p = F0 p) (f0 : Same F0 H0) (n : base2 F1 H0 p = none) : H0 p = none := by
  cases q : H0 p with
  | none => rfl
  | some o => rw [base2_H h f0 q] at n; cases n
theorem EnvS.unbase {F2 H2 : Hp} {σ2 : L2.St} {ρ2 : DEnv} (e : EnvS K mg B F1 σ H ρ) (e2 : EnvS K mg (B.b2 F1) F2 σ2 H2 ρ2) : EnvS K mg B F2 σ2 H2 ρ2 := by
  refine ⟨e.f0, e.ff.trans e2.ff, e2.fh, fun p o q => e2.hh _ _ (base2_H e.ag e.f0 q), fun p o q => (e2.ag p o (base2_H e.ag e.f0 q)).trans (e.ag p o q), e2.len, fun i s h => ?_, e2.ap⟩
  have z := e2.sl i s h
  cases s with
  | un => trivial
  | d d => exact z
  | own t xs =>
    obtain ⟨a, vs, a1, a2, a3, r⟩ := z
    exact ⟨a, vs, a1, a2, base2_none e.ag e.f0 a3, r⟩
  | obo t c ns fs =>
    obtain ⟨a, C, dx, fv, a1, a2, a3, r⟩ := z
    exact ⟨a, C, dx, fv, a1, a2, base2_none e.ag e.f0 a3, r⟩
theorem OutS.base (e : EnvS K mg B F1 σ H ρ) {r : SRes} (h : OutS K mg fr We B E r) : OutS K mg fr We (B.b2 F1) E r := by
  cases r with
  | nx ρ' => exact fun F2 σ2 H2 q => h F2 σ2 H2 (e.unbase q)
  | bk ρ' => exact fun F2 σ2 H2 q => h F2 σ2 H2 (e.unbase q)
  | ct ρ' => exact fun F2 σ2 H2 q => h F2 σ2 H2 (e.unbase q)
  | rt d =>
    intro F2 H2 v ex r
    refine h F2 H2 v ⟨e.ff.trans ex.1, ex.2.1, fun p o q => ex.2.2.1 _ _ (base2_H e.ag e.f0 q), fun p o q => (ex.2.2.2 p o (base2_H e.ag e.f0 q)).trans (e.ag p o q)⟩ ?_
    cases fr with
    | false => exact r
    | true =>
      obtain ⟨xs, e1, p, vs, h1, h2, h3⟩ := r
      exact ⟨xs, e1, p, vs, h1, base2_none e.ag e.f0 h2, h3⟩
  | er x ρ' =>
    intro F2 σ2 H2 C d q m z
    refine h F2 σ2 H2 C d (e.unbase q) m ?_
    rcases z with z | ⟨dx, fv, h1, h2, h3⟩
    · exact .inl z
    · exact .inr ⟨dx, fv, h1, base2_none e.ag e.f0 h2, h3⟩
  | st => exact h
end
section
variable {X : Cx} {fr : Bool} {We : WX} {S sl : List Nat} {tg iter : PySem.Expr} {fi : DEnv → Res (List D)} {g : D → Option (List D)} {body : List Stmt} {fb : DEnv → SRes} {pos : Pos}
theorem for_loop {B : Bs} {F1 H1 : Hp} {σ1 : L2.St} {ρ1 : DEnv} {E : Ends} {J : It} {ds : List D} {Fi : Hp} (e1 : EnvS X.K X.mg B F1 σ1 H1 ρ1) (hj : ItD X.K X.mg J Fi ds) (hFi : Same Fi F1) (h : OutS X.K X.mg fr We B E (forL sl g fb ds ρ1)) (hg : ∀ d ds, g d = some ds → ds.length = sl.length) :
    ∃ W : Nat → Nat → L2.St → Hp → Prop, (∃ m, W 0 m σ1 H1) ∧ ∀ i m σ H, W i m σ H →
      (J.stop i H ∧ E.nx σ H) ∨ (J.go i H ∧ ∃ N : L2.St → Hp → Prop, (∀ σ' H', N σ' H' → ∃ m', m' < m ∧ W (i + 1) m' σ' H') ∧ ∀ x H', J.yld i H x H' → tT X.K X.mg sl g x σ H' fun σ2 H2 => tS X.K X.mg fr We fb { E with nx := N, ct := N, bk := E.nx } σ2 H2) := by
  refine ⟨fun i m σ H => m = ds.length - i ∧ i ≤ ds.length ∧ ∃ Fc ρ, EnvS X.K X.mg (B.b2 F1) Fc σ H ρ ∧ OutS X.K X.mg fr We (B.b2 F1) E (forL sl g fb (ds.drop i) ρ),
    ⟨ds.length, by simp, Nat.zero_le _, F1, ρ1, e1.base, h.base e1⟩, ?_⟩
  rintro i m σ H ⟨rfl, hi, Fc, ρ, e, q⟩
  obtain ⟨j1, j2⟩ := hj i Fc H (hFi.trans e.ff) e.fh
  by_cases hlt : i < ds.length
  · right
    have hd : ds[i]? = some ds[i] := List.getElem?_eq_getElem hlt
    obtain ⟨go, yl⟩ := j2 _ hd
    refine ⟨go, fun σ' H' => ∃ Fc ρ, EnvS X.K X.mg (B.b2 F1) Fc σ' H' ρ ∧ OutS X.K X.mg fr We (B.b2 F1) E (forL sl g fb (ds.drop (i + 1)) ρ), fun σ' H' n => ⟨ds.length - (i + 1), by omega, rfl, hlt, n⟩, fun x H' y => ?_⟩
    obtain ⟨F2, ex, rx⟩ := yl x H' y
    rw [List.drop_eq_getElem_cons hlt] at q
    have q : OutS X.K X.mg fr We (B.b2 F1) E (match g ds[i] with
      | none => .st
      | some vs => match fb (setAll ρ sl (vs.map Slot.d)) with
        | .nx ρ' => forL sl g fb (ds.drop (i + 1)) ρ'
        | .ct ρ' => forL sl g fb (ds.drop (i + 1)) ρ'
        | .bk ρ' => .nx ρ'
        | r => r) := q
    have e' := e.grow ex
    cases hgd : g ds[i] with
    | none => rw [hgd] at q; exact q.elim
    | some vs =>
      rw [hgd] at q
      refine ⟨F2, ds[i], vs, e'.fh, rx, hgd, hg _ _ hgd, fun us ru => ?_⟩
      refine ⟨B.b2 F1, F2, _, EnvS.setAll sl us vs e' ru, ?_⟩
      cases hf : fb (setAll ρ sl (vs.map Slot.d)) with
      | nx ρ' => simp only [hf] at q; exact fun F σ H z => ⟨F, ρ', z, q⟩
      | ct ρ' => simp only [hf] at q; exact fun F σ H z => ⟨F, ρ', z, q⟩
      | bk ρ' => simp only [hf] at q; exact q
      | rt d => simp only [hf] at q; exact q
      | er x ρ' => simp only [hf] at q; exact q
      | st => simp only [hf] at q; exact q
  · left
    have ei : i = ds.length := by omega
    refine ⟨j1 ei, ?_⟩
    rw [List.drop_eq_nil_of_le (by omega)] at q
    exact q Fc σ H e
theorem sd_for (hp : PassesOwn (model X.prog X.w) X.A X.env X.xe) (hc : X.calm = true) (hi : ID X We S tg iter fi) (hg : GD X tg sl g) (hb : SDs X fr We body fb)
    (hs : ∀ x, foldedSetIterable iter X.env x = pure x := by intro _; rfl) : SD X fr We (.For tg iter body [] pos) (sFor S sl fi g fb) :=
  ps_imp (ps_for hp hc hi hg.1 hb hs) fun E σ H ⟨B, F, ρ, e, h⟩ => OutS.eval e h fun Fp F' H' J ds hf hq ex r e1 _ => for_loop e1 r (Same.refl _) hq hg.2
theorem sd_forR (hp : PassesOwn (model X.prog X.w) X.A X.env X.xe) (hc : X.calm = true) (hi : ID0 X We S tg iter fi) (hg : GD X tg sl g) (hb : SDs X fr We body fb)
    (hs : ∀ x, foldedSetIterable iter X.env x = pure x := by intro _; rfl) : SD X fr We (.For tg iter body [] pos) (sForR sl fi g fb) :=
  ps_imp (ps_for hp hc hi hg.1 hb hs) fun E σ H ⟨B, F, ρ, e, h⟩ => OutS.eval e h fun Fp F' H' J ds hf hq ex r e1 ⟨F2, e2, _, _⟩ => for_loop e2 r (fun _ _ z => by cases z) hq hg.2
end

/-! ### list comprehensions -/
/-- nothing may be raised -/
abbrev We0 : WX := fun _ _ _ _ => False
def Res.bindN {α β : Type} (r : Res α) (g : α → Res β) : Res β := match r with
  | .ok a => g a
  | _ => .st
def lcL (sl : List Nat) (g : D → Option (List D)) (ft : DEnv → Res Bool) (fe : DEnv → Res D) (ρ : DEnv) : List D → Res (List D)
  | [] => .ok []
  | d :: ds => match g d with
    | none => .st
    | some vs => (ft (setAll ρ sl (vs.map Slot.d))).bindN fun b => if b then (fe (setAll ρ sl (vs.map Slot.d))).bindN fun y => (lcL sl g ft fe ρ ds).bindN fun ys => .ok (y :: ys) else lcL sl g ft fe ρ ds
def eLc (sl : List Nat) (fi : DEnv → Res (List D)) (g : D → Option (List D)) (ft : DEnv → Res Bool) (fe : DEnv → Res D) : DEnv → Res (List D) := fun ρ => (fi ρ).bind fun ds => (lcL sl g ft fe ρ ds).bindN okLen
def tYesD : DEnv → Res Bool := fun _ => .ok true
abbrev PTsD (X : Cx) (We : WX) (S : List Nat) (es : List PySem.Expr) (f : DEnv → Res Bool) : Prop := PTs X es (tG X.K X.mg We RB S f)
theorem ptsd_nil {X : Cx} {We : WX} : PTsD X We [] [] tYesD := ⟨fun pins s σ H Q I ⟨F, ρ, hF, hE, q⟩ => pts_nil.run pins s σ H Q I (q F H true (Ext.refl hF) rfl)⟩
theorem ptsd_one {X : Cx} {We : WX} {S : List Nat} {c : PySem.Expr} {f : DEnv → Res Bool} (h : PTD X We S c f) : PTsD X We S [c] f := pts_one h
theorem wipe_set {σ : L2.St} {i : Nat} {x : Option V} : ∀ {vs : List Nat}, i ∈ vs → wipe (σ.set i x) vs = wipe σ vs
  | v :: vs, h => by
    unfold wipe
    by_cases hi : i ∈ vs
    · rw [wipe_set hi]
    · have hv : i = v := by
        rcases List.mem_cons.mp h with h | h
        · exact h
        · exact absurd h hi
      subst hv
      have key : ∀ (us : List Nat) (τ : L2.St), i ∉ us → (wipe (τ.set i x) us) = (wipe τ us).set i x := fun us => by
        induction us with
        | nil => intro τ _; rfl
        | cons u us ih =>
          intro τ hu
          simp only [List.mem_cons, not_or] at hu
          unfold wipe
          rw [ih τ hu.2, List.set_comm _ _ hu.1]
      rw [key vs σ hi, List.set_set]
theorem wipe_setAll {vs : List Nat} : ∀ (sl : List Nat) (xs : List (Option V)) (σ : L2.St), (∀ i ∈ sl, i ∈ vs) → wipe (setAll σ sl xs) vs = wipe σ vs
  | [], xs, _, _ => by cases xs <;> rfl
  | _ :: _, [], _, _ => rfl
  | i :: sl, x :: xs, σ, h => by
    show wipe (setAll (σ.set i x) sl xs) vs = _
    rw [wipe_setAll sl xs _ fun j hj => h j (List.mem_cons_of_mem _ hj), wipe_set (h i List.mem_cons_self)]
theorem wipe_wipe {σ : L2.St} {vs : List Nat} : wipe (wipe σ vs) vs = wipe σ vs := by
  have key : ∀ (us : List Nat), (∀ u ∈ us, u ∈ vs) → wipe (wipe σ us) vs = wipe σ vs := fun us => by
    induction us with
    | nil => intro _; rfl
    | cons u us ih =>
      intro h
      show wipe ((wipe σ us).set u none) vs = _
      rw [wipe_set (h u List.mem_cons_self), ih fun w hw => h w (List.mem_cons_of_mem _ hw)]
  exact key vs fun _ h => h
theorem wipe_get {σ : L2.St} {i : Nat} : ∀ {vs : List Nat}, i ∉ vs → (wipe σ vs)[i]? = σ[i]?
  | [], _ => rfl
  | v :: vs, h => by
    simp only [List.mem_cons, not_or] at h
    unfold wipe
    rw [List.getElem?_set_ne (Ne.symm h.1), wipe_get h.2]
theorem setAll_get {α : Type} {i : Nat} : ∀ {sl : List Nat} {xs : List α} {l : List α}, i ∉ sl → (setAll l sl xs)[i]? = l[i]?
  | [], xs, _, _ => by cases xs <;> rfl
  | _ :: _, [], _, _ => rfl
  | j :: sl, x :: xs, l, h => by
    simp only [List.mem_cons, not_or] at h
    show (setAll (l.set j x) sl xs)[i]? = _
    rw [setAll_get h.2, List.getElem?_set_ne (Ne.symm h.1)]
theorem setAll_length {α : Type} : ∀ {sl : List Nat} {xs : List α} {l : List α}, (setAll l sl xs).length = l.length
  | [], xs, _ => by cases xs <;> rfl
  | _ :: _, [], _ => rfl
  | j :: sl, x :: xs, l => by
    show (setAll (l.set j x) sl xs).length = _
    rw [setAll_length, List.length_set]
/-- the slots sl of both sides set alike -/
theorem setAll_rel {K : PySem.W.Frag} {mg : Str → Option Value} {F : Hp} : ∀ (sl : List Nat) (vs : List V) (ds : List D) (σ : L2.St) (ρ : DEnv), σ.length = ρ.length → RepAll K mg F vs ds → ds.length = sl.length →
    ∀ (i : Nat) s d, ((∀ s d, ρ[i]? = some s → s.val = some d → ∃ v, σ[i]? = some (some v) ∧ Rep K mg F v d) ∨ i ∈ sl) → (setAll ρ sl (ds.map Slot.d))[i]? = some s → s.val = some d → ∃ v, (setAll σ sl (vs.map some))[i]? = some (some v) ∧ Rep K mg F v d
  | [], [], [], σ, ρ, _, _, _, i, s, d, h, h1, h2 => by
    rcases h with h | h
    · exact h s d h1 h2
    · cases h
  | [], _, _ :: _, _, _, _, _, l, _, _, _, _, _, _ => by cases l
  | [], _ :: _, [], _, _, _, r, _, _, _, _, _, _, _ => by cases r
  | _ :: _, _, [], _, _, _, _, l, _, _, _, _, _, _ => by cases l
  | _ :: _, [], _ :: _, _, _, _, r, _, _, _, _, _, _, _ => by cases r
  | j :: sl, v :: vs, d0 :: ds, σ, ρ, hl, r, l, i, s, d, h, h1, h2 => by
    cases r with
    | cons a b =>
      refine setAll_rel sl vs ds (σ.set j (some v)) (ρ.set j (.d d0)) (by rw [List.length_set, List.length_set]; exact hl) b (by simpa using l) i s d ?_ h1 h2
      by_cases e : i = j
      · subst e
        left
        intro s' d' q1 q2
        rcases set_get q1 with ⟨_, q, hi⟩ | ⟨n, _⟩
        · rw [q] at q2
          cases q2
          exact ⟨v, List.getElem?_set_self (by rw [hl]; exact hi), a⟩
        · exact absurd rfl n
      · rcases h with h | h
        · left
          rw [List.getElem?_set_ne (Ne.symm e), List.getElem?_set_ne (Ne.symm e)]
          exact h
        · right
          rcases List.mem_cons.mp h with h | h
          · exact absurd h e
          · exact h
theorem bindN_ok {α β : Type} {r : Res α} {g : α → Res β} {b : β} (h : r.bindN g = .ok b) : ∃ a, r = .ok a ∧ g a = .ok b := by
  cases r with
  | ok a => exact ⟨a, rfl, h⟩
  | er x => cases h
  | st => cases h
theorem bindN_ner {α β : Type} {r : Res α} {g : α → Res β} (hg : ∀ a x, g a ≠ .er x) (x : Exn) : r.bindN g ≠ .er x := by
  cases r with
  | ok a => exact hg a x
  | er x => intro z; cases z
  | st => intro z; cases z
theorem okLen_ok {xs ys : List D} (h : okLen xs = .ok ys) : ys = xs ∧ xs.length ≤ lim := by
  unfold okLen at h
  split at h
  · cases h; exact ⟨rfl, by assumption⟩
  · cases h
theorem okLen_ner (xs : List D) (x : Exn) : okLen xs ≠ .er x := by
  unfold okLen
  split <;> (intro z; cases z)
/-- what a comprehension reads of the slots outside of it -/
def minus (S sl : List Nat) : List Nat := S.filter fun i => !sl.contains i
theorem mem_minus {S sl : List Nat} {i : Nat} (h : i ∈ S) : i ∈ sl ∨ i ∈ minus S sl := by
  by_cases z : sl.contains i = true
  · exact .inl (by simpa using z)
  · exact .inr (List.mem_filter.mpr ⟨h, by simpa using z⟩)
section
variable {X : Cx} {We : WX} {Si St Se sl : List Nat} {tg iter elt : PySem.Expr} {ifs : List PySem.Expr} {fi : DEnv → Res (List D)} {g : D → Option (List D)} {ft : DEnv → Res Bool} {fe : DEnv → Res D} {pos : Pos} {scope : Scope} {own : List (Str × Nat)}
theorem lc_ok {σ : L2.St} {H : Hp} {Q : VK} (hg2 : ∀ d ds, g d = some ds → ds.length = sl.length) (ho : own.map (·.2) = sl)
    (h : tG X.K X.mg We (RF X.K X.mg) (Si ++ minus (St ++ Se) sl) (eLc sl fi g ft fe) σ H Q) :
    tLc (tG X.K X.mg We (RI X.K X.mg) Si fi) (tT X.K X.mg sl g) (tG X.K X.mg We0 RB St ft) (tG X.K X.mg We0 (RD X.K X.mg) Se fe) (own.map (·.2)) σ H Q := by
  obtain ⟨F, ρ, hF, hE, q⟩ := h
  refine ⟨F, ρ, hF, hE.l, Out.bind q fun ds F1 H1 J ex hj q1 => ?_⟩
  intro Dn nD
  rw [ho]
  cases ht : (lcL sl g ft fe ρ ds).bindN okLen with
  | st => rw [ht] at q1; exact q1.elim
  | er x => exact absurd ht (bindN_ner okLen_ner x)
  | ok tot =>
    rw [ht] at q1
    obtain ⟨tot', h1, h2⟩ := bindN_ok ht
    obtain ⟨rfl, hlen⟩ := okLen_ok h2
    have fD : F1 Dn = none := ex.2.1.free nD
    refine ⟨fun i m H => m = ds.length - i ∧ i ≤ ds.length ∧ ∃ Fc acc accD ys, Ext F1 H1 Fc H ∧ H Dn = some (.lst acc) ∧ Fc Dn = none ∧ RepAll X.K X.mg Fc acc accD ∧ lcL sl g ft fe ρ (ds.drop i) = .ok ys ∧ tot = accD ++ ys,
      ⟨ds.length, by simp, Nat.zero_le _, F1, [], [], tot, Ext.new0 ex.2.1 nD, upd_same, fD, .nil, h1, rfl⟩, ?_⟩
    rintro i m H' ⟨rfl, hi, Fc, acc, accD, ys, exc, hD, fcD, racc, hys, htot⟩
    obtain ⟨j1, j2⟩ := hj i Fc H' exc.1 exc.2.1
    by_cases hlt : i < ds.length
    · right
      have hd : ds[i]? = some ds[i] := List.getElem?_eq_getElem hlt
      obtain ⟨go, yl⟩ := j2 _ hd
      refine ⟨go, fun H' => ∃ Fc acc accD ys, Ext F1 H1 Fc H' ∧ H' Dn = some (.lst acc) ∧ Fc Dn = none ∧ RepAll X.K X.mg Fc acc accD ∧ lcL sl g ft fe ρ (ds.drop (i + 1)) = .ok ys ∧ tot = accD ++ ys, fun H'' n => ⟨ds.length - (i + 1), by omega, rfl, hlt, n⟩, fun x H2 y => ?_⟩
      obtain ⟨F2, ex2, rx⟩ := yl x H2 y
      rw [List.drop_eq_getElem_cons hlt] at hys
      have hys : (match g ds[i] with
        | none => .st
        | some vs => (ft (setAll ρ sl (vs.map Slot.d))).bindN fun b => if b then (fe (setAll ρ sl (vs.map Slot.d))).bindN fun y => (lcL sl g ft fe ρ (ds.drop (i + 1))).bindN fun ys => .ok (y :: ys) else lcL sl g ft fe ρ (ds.drop (i + 1))) = Res.ok ys := hys
      cases hgd : g ds[i] with
      | none => rw [hgd] at hys; cases hys
      | some vs =>
        simp only [hgd] at hys
        obtain ⟨b, hb, hys⟩ := bindN_ok hys
        refine ⟨F2, ds[i], vs, ex2.2.1, rx, hgd, hg2 _ _ hgd, fun us ru => ⟨by rw [wipe_setAll sl _ _ fun _ h => h, wipe_wipe], ?_⟩⟩
        have all : Ext F F1 F1 F1 → True := fun _ => trivial
        have sF2 : Same F F2 := ex.1.trans (exc.1.trans ex2.1)
        have env : EnvE X.K X.mg (St ++ Se) F2 (setAll (wipe σ sl) sl (us.map some)) (setAll ρ sl (vs.map Slot.d)) := by
          refine ⟨by rw [setAll_length, setAll_length, wipe_length]; exact hE.1, fun k hk s d a1 a2 => ?_⟩
          refine setAll_rel sl us vs (wipe σ sl) ρ (by rw [wipe_length]; exact hE.1) ru (hg2 _ _ hgd) k s d ?_ a1 a2
          rcases mem_minus (sl := sl) hk with z | z
          · exact .inr z
          · left
            intro s' d' b1 b2
            have nk : k ∉ sl := by
              have := (List.mem_filter.mp z).2
              simpa using this
            rw [wipe_get nk]
            obtain ⟨v, c1, c2⟩ := hE.2 k (List.mem_append_right _ z) s' d' b1 b2
            exact ⟨v, c1, c2.mono sF2⟩
        have step : ∀ F3 H3, Ext F2 H2 F3 H3 → Ext F1 H1 F3 H3 ∧ H3 Dn = some (.lst acc) ∧ F3 Dn = none ∧ RepAll X.K X.mg F3 acc accD := fun F3 H3 e3 => by
          have d2 : H2 Dn = some (.lst acc) := ex2.2.2.1 _ _ hD
          refine ⟨(exc.trans ex2).trans e3, e3.2.2.1 _ _ d2, ?_, (racc.mono ex2.1).mono e3.1⟩
          rw [e3.2.2.2 _ _ d2, ex2.2.2.2 _ _ hD]; exact fcD
        refine ⟨F2, _, ex2.2.1, env.l, ?_⟩
        rw [hb]
        intro F3 H3 b' ex3 eb
        have eb : b' = b := eb
        subst eb
        cases b' with
        | true =>
          rw [if_pos rfl] at hys ⊢
          obtain ⟨y0, hy0, hys⟩ := bindN_ok hys
          obtain ⟨ys', hys', e3⟩ := bindN_ok hys
          cases e3
          refine ⟨F3, _, ex3.2.1, env.r.mono ex3.1, ?_⟩
          rw [hy0]
          intro F4 H4 v4 ex4 r4
          obtain ⟨s1, s2, s3, s4⟩ := step F4 H4 (ex3.trans ex4)
          refine ⟨acc, s2, ?_, F4, acc ++ [v4], accD ++ [y0], ys', ?_, upd_same, s3, s4.append (.cons r4 .nil), hys', by rw [List.append_assoc]; exact htot⟩
          · rw [racc.length]
            have : accD.length < tot.length := by rw [htot, List.length_append, List.length_cons]; omega
            exact lt_line (by omega)
          · refine ⟨s1.1, fun p o q => ?_, fun p o q => ?_, s1.2.2.2⟩
            · rw [upd_ne (fun z => by rw [z, s3] at q; cases q)]; exact s1.2.1 _ _ q
            · rw [upd_ne (ne_of_none q nD)]; exact s1.2.2.1 _ _ q
        | false =>
          rw [if_neg Bool.false_ne_true] at hys ⊢
          obtain ⟨s1, s2, s3, s4⟩ := step F3 H3 ex3
          exact ⟨F3, acc, accD, ys, s1, s2, s3, s4, hys, htot⟩
    · left
      have ei : i = ds.length := by omega
      refine ⟨j1 ei, ?_⟩
      rw [List.drop_eq_nil_of_le (by omega)] at hys
      have hys : Res.ok [] = Res.ok ys := hys
      cases hys
      rw [List.append_nil] at htot
      subst htot
      exact q1 Fc H' _ exc ⟨Dn, acc, rfl, nD, fcD, hD, racc⟩
theorem pf_lc (hc : X.calm = true) (hN : X.N.Nodup) (hi : ID X We Si tg iter fi) (ok : BlkOk X.N X.env.scope scope own) (ho : own.map (·.2) = sl)
    (hg : ∀ (s : Shared) (H : Hp) (C : Addr) (cl : List (Str × Addr)) (fp : List Addr), GD (X.blk s H scope (compEnvC scope cl C X.env) fp) tg sl g)
    (ht : ∀ (s : Shared) (H : Hp) (C : Addr) (cl : List (Str × Addr)) (fp : List Addr), PTsD (X.blk s H scope (compEnvC scope cl C X.env) fp) We0 St ifs ft)
    (he : ∀ (s : Shared) (H : Hp) (C : Addr) (cl : List (Str × Addr)) (fp : List Addr), PD (X.blk s H scope (compEnvC scope cl C X.env) fp) We0 Se elt fe) (hs : ∀ x, foldedSetIterable iter X.env x = pure x := by intro _; rfl) :
    PF X We (Si ++ minus (St ++ Se) sl) (.ListComp elt [⟨tg, iter, ifs, 0⟩] scope pos) (eLc sl fi g ft fe) :=
  pe_imp (pe_lc hc hN hi ok (fun s H C cl fp => (hg s H C cl fp).1) ht he hs) fun σ H Q h => lc_ok (hg X.s_0 X.H_0 0 [] []).2 ho h
/-- name = [..] on one line -/
theorem sd_asgLc {fr : Bool} (k : Bool) {i : Nat} {y : Str} {py : Pos} {spos : Pos} (hc : X.calm = true) (hN : X.N.Nodup) (hi : ID X We Si tg iter fi) (ok : BlkOk X.N X.env.scope scope own) (ho : own.map (·.2) = sl)
    (hg : ∀ (s : Shared) (H : Hp) (C : Addr) (cl : List (Str × Addr)) (fp : List Addr), GD (X.blk s H scope (compEnvC scope cl C X.env) fp) tg sl g)
    (ht : ∀ (s : Shared) (H : Hp) (C : Addr) (cl : List (Str × Addr)) (fp : List Addr), PTsD (X.blk s H scope (compEnvC scope cl C X.env) fp) We0 St ifs ft)
    (he : ∀ (s : Shared) (H : Hp) (C : Addr) (cl : List (Str × Addr)) (fp : List Addr), PD (X.blk s H scope (compEnvC scope cl C X.env) fp) We0 Se elt fe)
    (hy : X.N[i]? = some y := by rfl) (hyl : X.env.scope.names.lookup y = some .local := by rfl)
    (hsw : swapsWith (.ListComp elt [⟨tg, iter, ifs, 0⟩] scope pos) (some (.Name y py)) spos.line X.env = pure true := by exact sw_true rfl rfl rfl (by decide +kernel))
    (hs : ∀ x, foldedSetIterable iter X.env x = pure x := by intro _; rfl) : SD X fr We (.Assign [.Name y py] (.ListComp elt [⟨tg, iter, ifs, 0⟩] scope pos) spos) (sAsgF k (Si ++ minus (St ++ Se) sl) i (eLc sl fi g ft fe)) :=
  ps_imp (ps_setLc hc hN hy hyl hsw hi ok (fun s H C cl fp => (hg s H C cl fp).1) ht he hs) fun E σ H ⟨B, F, ρ, e, h⟩ => lc_ok (hg X.s_0 X.H_0 0 [] []).2 ho (evalF_set e h)
end

/-! ### a def and its call -/
def spD (K : PySem.W.Frag) (mg : Str → Option Value) (fr : Bool) (n : Nat) (m : List D → Res D) : Sp := fun vs H Q E => vs.length = n ∧ ∃ F ds, Same F H ∧ RepAll K mg F vs ds ∧ Out K mg (fun c d _ H' => E c d H') (RR K mg fr) F H [] Q (m ds)
abbrev FnD (P : Program) (w : World) (K : PySem.W.Frag) (mg : Str → Option Value) (base : Heap) (k : Nat) (f : Addr) (fd : FuncData) (ps : List Str) (fr : Bool) (m : List D → Res D) : Prop :=
  FnOk P w K mg base (L2.CX P w) k f fd ps (spD K mg fr ps.length m)
def callN (n : Nat) (m : List D → Res D) : List D → Res D := fun ds => if ds.length = n then m ds else .st
def asL : D → Res (List D)
  | .lst xs => .ok xs
  | _ => .st
def callF (n : Nat) (m : List D → Res D) : List D → Res (List D) := fun ds => (callN n m ds).bind asL
section
variable {X : Cx} {We : WX} {S : List Nat} {k j : Nat} {f : Addr} {fd : FuncData} {ps : List Str} {m : List D → Res D} {x : Str} {p pos : Pos} {e : PySem.Expr} {es : List PySem.Expr} {g : DEnv → Res (List D)}
theorem callN_out {fr : Bool} {F1 H1 : Hp} {σ : L2.St} {Q : VK} {ds : List D} {vs : List V} (hF : Same F1 H1) (r : RepAll X.K X.mg F1 vs ds) (q : Out X.K X.mg We (RR X.K X.mg fr) F1 H1 σ Q (callN ps.length m ds)) : spD X.K X.mg fr ps.length m vs H1 Q (WE We σ) := by
  unfold callN at q
  by_cases hl : ds.length = ps.length
  · rw [if_pos hl] at q
    refine ⟨by rw [r.length]; exact hl, F1, ds, hF, r, ?_⟩
    cases hm : m ds with
    | ok d => rw [hm] at q; exact q
    | er x => rw [hm] at q; exact q
    | st => rw [hm] at q; exact q
  · rw [if_neg hl] at q; exact q.elim
theorem pd_call (tk : Takes X We) (hr : Room k X.A) (hjk : j ≤ k) (F : FnD X.prog X.w X.K X.mg X.base j f fd ps false m) (hm : X.mg x = some (.ref f)) (hk : PySem.W.keepIn X.K (.ref f) = true) (hb : Binds X.K fd ps [])
    (ha : PAD X We S (e :: es) g) (hg : Gl X x := by rfl) (hdb : (x == ("__debug__" : Str)) = false := by decide) (he : starEach (e :: es) X.env = (false, eval e X.env) :: starEach es X.env := by rfl) (hpl : (backTo pos (starEach es X.env)).any (·.1) = false := by rfl) :
    PD X We S (.Call (.Name x p) (e :: es) [] pos) (eL (callN ps.length m) g) :=
  pe_imp (pe_callS F (hr.mono hjk) hg hm hk hb (fun σ => passAt tk σ) ha hdb he hpl) fun σ H Q ⟨F, ρ, hF, hE, q⟩ => ⟨F, ρ, hF, hE, Out.bind q fun ds F1 H1 vs ex r q1 => callN_out (fr := false) ex.2.1 r q1⟩
theorem pf_call (tk : Takes X We) (hr : Room k X.A) (hjk : j ≤ k) (F : FnD X.prog X.w X.K X.mg X.base j f fd ps true m) (hm : X.mg x = some (.ref f)) (hk : PySem.W.keepIn X.K (.ref f) = true) (hb : Binds X.K fd ps [])
    (ha : PAD X We S (e :: es) g) (hg : Gl X x := by rfl) (hdb : (x == ("__debug__" : Str)) = false := by decide) (he : starEach (e :: es) X.env = (false, eval e X.env) :: starEach es X.env := by rfl) (hpl : (backTo pos (starEach es X.env)).any (·.1) = false := by rfl) :
    PF X We S (.Call (.Name x p) (e :: es) [] pos) (eL (callF ps.length m) g) :=
  pe_imp (pe_callS F (hr.mono hjk) hg hm hk hb (fun σ => passAt tk σ) ha hdb he hpl) fun σ H Q ⟨F, ρ, hF, hE, q⟩ => ⟨F, ρ, hF, hE, Out.bind q fun ds F1 H1 vs ex r q1 => by
    refine callN_out (We := We) (fr := true) ex.2.1 r ?_
    have q1 : Out X.K X.mg We (RF X.K X.mg) F1 H1 σ Q ((callN ps.length m ds).bind asL) := q1
    cases hc : callN ps.length m ds with
    | ok d =>
      rw [hc] at q1
      intro F' H' v ex' r'
      obtain ⟨xs, rfl, r'⟩ := r'
      exact q1 F' H' v ex' r'
    | er x => rw [hc] at q1; exact q1
    | st => rw [hc] at q1; exact q1⟩
end
/-- a def's body as a function of its arguments -/
def mOf (nN : Nat) (fr : Bool) (g : DEnv → SRes) : List D → Res D := fun ds => match g (ds.map Slot.d ++ List.replicate (nN - ds.length) .un) with
  | .nx _ => if fr then .st else .ok .non
  | .rt d => .ok d
  | .er x _ => .er x
  | _ => .st
theorem envS_start {K : PySem.W.Frag} {mg : Str → Option Value} {F H : Hp} {N : List Str} {vs : List V} {ds : List D} (hF : Same F H) (r : RepAll K mg F vs ds) : EnvS K mg ⟨F, H, fun _ => 0⟩ F (L2.start N vs) H (ds.map Slot.d ++ List.replicate (N.length - ds.length) .un) := by
  have hl := r.length
  refine ⟨hF, Same.refl _, hF, Same.refl _, fun _ _ _ => rfl, ?_, fun i s h => ?_, fun i j a s t h _ o => ?_⟩
  · unfold L2.start; rw [List.length_append, List.length_append, List.length_map, List.length_map, List.length_replicate, List.length_replicate, hl]
  · by_cases hi : i < ds.length
    · rw [List.getElem?_append_left (by simpa using hi), List.getElem?_map] at h
      cases hd : ds[i]? with
      | none => rw [hd] at h; cases h
      | some d =>
        rw [hd] at h
        cases h
        obtain ⟨v, hv, rv⟩ := r.get hd
        refine ⟨v, ?_, rv⟩
        unfold L2.start
        rw [List.getElem?_append_left (by rw [List.length_map, hl]; exact hi), List.getElem?_map, hv]
        rfl
    · rw [List.getElem?_append_right (by simpa using hi), List.getElem?_replicate] at h
      split at h
      · cases h; trivial
      · cases h
  · exfalso
    by_cases hi : i < ds.length
    · rw [List.getElem?_append_left (by simpa using hi), List.getElem?_map] at h
      cases hd : ds[i]? with
      | none => rw [hd] at h; cases h
      | some d => rw [hd] at h; cases h; cases o
    · rw [List.getElem?_append_right (by simpa using hi), List.getElem?_replicate] at h
      split at h
      · cases h; cases o
      · cases h
theorem fnd_of {P : Program} {w : World} {K : PySem.W.Frag} {mg : Str → Option Value} {base : Heap} {x qual : Str} {st : Stmt} {f : Addr} {fd : FuncData} {N ps : List Str} {k : Nat} {fr : Bool} {g : DEnv → SRes}
    (F : Fun K x qual st f fd) (S : FnScope N ps (defScope st))
    (hb : ∀ (cdv : Value) (A : Around) (outer : List Env) (s : Shared) (H : Hp) (E : XK), Room k (A.deeper (envOfC qual (defScope st) s.heap.objs.size f cdv)) →
      SDs (cxOf (L2.CX P w) P w K mg base N qual (defScope st) f cdv A outer s H E) fr (fun c d _ H' => E c d H') (defBody st) g) : FnD P w K mg base (k + 1) f fd ps fr (mOf N.length fr g) := by
  refine F.okX S (fun vs H Q E h => h.1) fun cdv A outer s H vs Q E hr h => ⟨_, hb cdv A outer s H E hr, ?_⟩
  obtain ⟨hl, F', ds, hF, r, q⟩ := h
  refine ⟨_, F', _, envS_start hF r, ?_⟩
  unfold mOf at q
  cases hg : g (ds.map Slot.d ++ List.replicate (N.length - ds.length) .un) with
  | nx ρ =>
    rw [hg] at q
    cases fr with
    | true => exact q.elim
    | false => exact fun F2 σ2 H2 e => q F2 H2 .non e.ext .non
  | rt d => rw [hg] at q; exact q
  | er x ρ => rw [hg] at q; exact fun F2 σ2 H2 C d e m z => q C d H2 e.hh m z
  | bk ρ => rw [hg] at q; exact q.elim
  | ct ρ => rw [hg] at q; exact q.elim
  | st => rw [hg] at q; exact q.elim
end DL
set_option Elab.async false
set_option linter.all false
set_option maxRecDepth 100000
set_option maxHeartbeats 1000000
/-! DL5: in, places, slices, built-ins, methods of texts, instances. -/
namespace DL
open PySem PySem.Spec PyProof.Rows L2

/-! ### in -/
def D.flat : D → Bool
  | .non => true
  | .bl _ => true
  | .int _ => true
  | .str _ => true
  | _ => false
def inSeq (x : D) (ys : List D) : Bool := ys.any fun y => y.eqv x
def dInS (x : D) : D → Res Bool
  | .lst ys => if (x.flat && ys.all D.flat) = true then .ok (inSeq x ys) else if (dOk 16 x && dOks 16 ys) = true then .ok (inSeq x ys) else .st
  | .tup ys => if (x.flat && ys.all D.flat) = true then .ok (inSeq x ys) else .st
  | .str z => match x with
    | .str y => match y.cps.toList with
      | [c] => .ok (decide (c ∈ z.cps.toList))
      | _ => .st
    | _ => .st
  | _ => .st
def dIn (x y : D) : Res D := (dInS x y).bind fun b => .ok (.bl b)
def dNotIn (x y : D) : Res D := (dInS x y).bind fun b => .ok (.bl !b)
def rInA (K : PySem.W.Frag) : R2 := fun x y H Q => (rIn K false x y H Q ∨ rInD K x y H Q) ∨ (∃ (c : Nat) (z : Str), x = .str ⟨#[c]⟩ ∧ y = .str z ∧ Q (.bl (decide (c ∈ z.cps.toList))) H)
def rNotInA (K : PySem.W.Frag) : R2 := fun x y H Q => (rIn K true x y H Q ∨ rNotInD K x y H Q) ∨ (∃ (c : Nat) (z : Str), x = .str ⟨#[c]⟩ ∧ y = .str z ∧ Q (.bl (!decide (c ∈ z.cps.toList))) H)
section
variable {K : PySem.W.Frag} {mg : Str → Option Value}
theorem flat_of {F : Hp} {v : V} {x : D} (r : Rep K mg F v x) : flatV v = x.flat := by
  cases r <;> rfl
theorem flats_of {F : Hp} : ∀ {vs : List V} {xs : List D}, RepAll K mg F vs xs → vs.all flatV = xs.all D.flat
  | [], [], _ => rfl
  | [], _ :: _, h => by cases h
  | _ :: _, [], h => by cases h
  | _ :: _, _ :: _, h => by
    cases h with
    | cons a b => rw [List.all_cons, List.all_cons, flat_of a, flats_of b]
theorem eqV_of {F : Hp} {v u : V} {x y : D} (r : Rep K mg F v x) (s : Rep K mg F u y) (f : x.flat = true) (g : y.flat = true) : eqV v u = x.eqv y := by
  cases r <;> first | (cases f; done) | (cases s <;> first | (cases g; done) | rfl)
theorem inV_of {F : Hp} {v : V} {x : D} (r : Rep K mg F v x) (f : x.flat = true) : ∀ {vs : List V} {xs : List D}, RepAll K mg F vs xs → xs.all D.flat = true → inV v vs = inSeq x xs
  | [], [], _, _ => rfl
  | [], _ :: _, h, _ => by cases h
  | _ :: _, [], h, _ => by cases h
  | _ :: _, _ :: _, h, g => by
    cases h with
    | cons a b =>
      rw [List.all_cons, Bool.and_eq_true] at g
      have ih := inV_of r f b g.2
      unfold inV inSeq at ih ⊢
      rw [List.any_cons, List.any_cons, ih, eqV_of a r g.1 f]
theorem anyE_of {x : D} (k : dOk 16 x = true) : ∀ {xs : List D}, dOks 16 xs = true → (pys xs).any (fun z => PyData.eqv z x.py) = inSeq x xs
  | [], _ => rfl
  | y :: ys, g => by
    have g : (dOk 16 y && dOks 16 ys) = true := g
    rw [Bool.and_eq_true] at g
    have ih := anyE_of k g.2
    unfold inSeq at ih ⊢
    show (List.any (y.py :: pys ys) _) = _
    rw [List.any_cons, List.any_cons, ih, eqv_py y x 16 16 g.1 k]
theorem dOks_shaped {ds : List D} (h : dOks 16 ds = true) : SeqAt.shaped (.list (pys ds)) = true := by
  obtain ⟨a, b⟩ := dOks_lay ds 16 h
  unfold SeqAt.shaped
  rw [show PyData.canLay0 (.list (pys ds)) = true from a, decide_eq_true (show PyData.depth (.list (pys ds)) ≤ 64 from by show PyData.depthAll (pys ds) + 1 ≤ 64; omega)]
  rfl
theorem dInS_out {We : WX} {F H : Hp} {σ : L2.St} {x y : D} {v u : V} {Q : Bool → Hp → Prop} (hF : Same F H) (rx : Rep K mg F v x) (ry : Rep K mg F u y) (h : Out K mg We RB F H σ Q (dInS x y)) :
    ((∃ p xs, u = .ref p ∧ (SqL K H p xs ∨ SqT K H p xs) ∧ flatV v = true ∧ xs.all flatV = true ∧ Q (inV v xs) H) ∨ (∃ d ds, Dp K H v d ∧ Dp K H u (.list ds) ∧ SeqAt.shaped d = true ∧ SeqAt.shaped (.list ds) = true ∧ Q (ds.any fun z => PyData.eqv z d) H)) ∨
      ∃ (c : Nat) (z : Str), v = .str ⟨#[c]⟩ ∧ u = .str z ∧ Q (decide (c ∈ z.cps.toList)) H := by
  cases y with
  | lst ys =>
    have h : Out K mg We RB F H σ Q (if (x.flat && ys.all D.flat) = true then .ok (inSeq x ys) else if (dOk 16 x && dOks 16 ys) = true then .ok (inSeq x ys) else .st) := h
    cases ry with
    | lst a b =>
      by_cases z : (x.flat && ys.all D.flat) = true
      · rw [if_pos z] at h
        rw [Bool.and_eq_true] at z
        exact .inl (.inl ⟨_, _, rfl, .inl (SqL.same hF a), by rw [flat_of rx]; exact z.1, by rw [flats_of b]; exact z.2, by rw [inV_of rx z.1 b z.2]; exact h F H _ (Ext.refl hF) rfl⟩)
      · rw [if_neg z] at h
        by_cases z : (dOk 16 x && dOks 16 ys) = true
        · rw [if_pos z] at h
          rw [Bool.and_eq_true] at z
          exact .inl (.inr ⟨x.py, pys ys, (rx.mono hF).dp _ _ _ z.1, .lst (SqL.same hF a) ((b.mono hF).dp _ _ _ z.2), dOk_shaped z.1, dOks_shaped z.2, by rw [anyE_of z.1 z.2]; exact h F H _ (Ext.refl hF) rfl⟩)
        · rw [if_neg z] at h; exact h.elim
  | tup ys =>
    have h : Out K mg We RB F H σ Q (if (x.flat && ys.all D.flat) = true then .ok (inSeq x ys) else .st) := h
    cases ry with
    | tup a b =>
      by_cases z : (x.flat && ys.all D.flat) = true
      · rw [if_pos z] at h
        rw [Bool.and_eq_true] at z
        exact .inl (.inl ⟨_, _, rfl, .inr (SqT.same hF a), by rw [flat_of rx]; exact z.1, by rw [flats_of b]; exact z.2, by rw [inV_of rx z.1 b z.2]; exact h F H _ (Ext.refl hF) rfl⟩)
      · rw [if_neg z] at h; exact h.elim
  | str z =>
    cases x with
    | str y =>
      have h : Out K mg We RB F H σ Q (match y.cps.toList with | [c] => .ok (decide (c ∈ z.cps.toList)) | _ => .st) := h
      cases rx; cases ry
      obtain ⟨⟨l⟩⟩ := y
      match l, h with
      | [c], h => exact .inr ⟨c, z, rfl, rfl, h F H _ (Ext.refl hF) rfl⟩
      | [], h => exact h.elim
      | _ :: _ :: _, h => exact h.elim
    | _ => exact h.elim
  | _ => exact h.elim
theorem od_in : OpD K mg (rInA K) dIn := fun We F H σ x y v u Q hF rx ry h => by
  have z := dInS_out (We := We) (σ := σ) (Q := fun b H' => Q (.bl b) H') hF rx ry (Out.bind h fun b F1 H1 b' ex e q => by
    have e : b' = b := e
    subst e
    exact q F1 H1 _ (Ext.refl ex.2.1) (.bl _))
  rcases z with (⟨p, xs, e, s, f, g, q⟩ | z) | z
  · exact .inl (.inl ⟨p, xs, e, s, f, g, q⟩)
  · exact .inl (.inr z)
  · exact .inr z
theorem od_notin : OpD K mg (rNotInA K) dNotIn := fun We F H σ x y v u Q hF rx ry h => by
  have z := dInS_out (We := We) (σ := σ) (Q := fun b H' => Q (.bl (!b)) H') hF rx ry (Out.bind h fun b F1 H1 b' ex e q => by
    have e : b' = b := e
    subst e
    exact q F1 H1 _ (Ext.refl ex.2.1) (.bl _))
  rcases z with (⟨p, xs, e, s, f, g, q⟩ | z) | z
  · exact .inl (.inl ⟨p, xs, e, s, f, g, q⟩)
  · exact .inl (.inr z)
  · exact .inr z
end
theorem op_inA {X : Cx} (hu : X.A.units + 65 < cLine) : OpR X (compareOp .In) (rInA X.K) := (OpR.or (OpR.or op_in_seq (op_inD hu)) op_in_sign)
theorem op_notinA {X : Cx} (hu : X.A.units + 65 < cLine) : OpR X (compareOp .NotIn) (rNotInA X.K) := (OpR.or (OpR.or op_notIn_seq (op_notInD hu)) op_notIn_sign)

theorem u65 {k : Nat} {A : Around} (r : Room k A) : A.units + 65 < cLine := by
  have := r.un
  omega
/-! ### places and slices -/
def dIx : D → D → Res D
  | .lst xs, .int i => match atI xs i with
    | some d => .ok d
    | none => .st
  | .tup xs, .int i => match atI xs i with
    | some d => .ok d
    | none => .st
  | .str z, .int i => if z.length ≤ lim then match atI z.cps.toList i with
    | some c => .ok (.str ⟨#[c]⟩)
    | none => .st
    else .st
  | _, _ => .st
section
variable {K : PySem.W.Frag} {mg : Str → Option Value}
theorem RepAll.atI {F : Hp} {vs : List V} {ds : List D} {i : Int} {d : D} (r : RepAll K mg F vs ds) (h : L2.atI ds i = some d) : ∃ v, L2.atI vs i = some v ∧ Rep K mg F v d := by
  unfold L2.atI at h ⊢
  rw [r.length]
  cases hj : ixN ds.length i with
  | none => rw [hj] at h; cases h
  | some j =>
    rw [hj] at h
    exact r.get h
theorem od_ix : OpD K mg (rIx K) dIx := fun We F H σ x y v u Q hF rx ry h => by
  cases x with
  | lst xs =>
    cases y with
    | int i =>
      cases ry
      have h : Out K mg We (RD K mg) F H σ Q (match atI xs i with | some d => .ok d | none => .st) := h
      cases ha : atI xs i with
      | none => rw [ha] at h; exact h.elim
      | some d =>
        rw [ha] at h
        cases rx with
        | lst a b =>
          obtain ⟨w, hw, rw'⟩ := b.atI ha
          exact .inl ⟨_, _, _, w, rfl, rfl, SqL.same hF a, hw, h F H _ (Ext.refl hF) rw'⟩
    | _ => exact h.elim
  | tup xs =>
    cases y with
    | int i =>
      cases ry
      have h : Out K mg We (RD K mg) F H σ Q (match atI xs i with | some d => .ok d | none => .st) := h
      cases ha : atI xs i with
      | none => rw [ha] at h; exact h.elim
      | some d =>
        rw [ha] at h
        cases rx with
        | tup a b =>
          obtain ⟨w, hw, rw'⟩ := b.atI ha
          exact .inr (.inl ⟨_, _, _, w, rfl, rfl, SqT.same hF a, hw, h F H _ (Ext.refl hF) rw'⟩)
    | _ => exact h.elim
  | str z =>
    cases y with
    | int i =>
      cases ry; cases rx
      have h : Out K mg We (RD K mg) F H σ Q (if z.length ≤ lim then match atI z.cps.toList i with | some c => .ok (.str ⟨#[c]⟩) | none => .st else .st) := h
      by_cases hz : z.length ≤ lim
      · rw [if_pos hz] at h
        cases ha : atI z.cps.toList i with
        | none => rw [ha] at h; exact h.elim
        | some c =>
          rw [ha] at h
          exact .inr (.inr ⟨_, _, c, rfl, rfl, le_line hz, ha, h F H _ (Ext.refl hF) (.str _)⟩)
      · rw [if_neg hz] at h; exact h.elim
    | _ => exact h.elim
  | _ => exact h.elim
end
section
variable {X : Cx} {We : WX} {Sa Sb Sc : List Nat} {fa fb : DEnv → Res D} {a b : PySem.Expr} {pos p2 : Pos}
theorem pd_ix (ha : PD X We Sa a fa) (hb : PD X We Sb b fb) (hs : PlainIx b := by exact fun _ _ => rfl) : PD X We (Sa ++ Sb) (.Subscript a b pos) (e2 dIx fa fb) :=
  pe_imp (pe_ix ix_seq ha hb hs) fun _ _ _ h => tG_op od_ix h
/-- a part of a slice -/
def RO : Hp → Hp → Hp → Option Int → Option Int → Prop := fun _ _ _ v d => v = d
instance : Anti RO := ⟨fun _ h => h⟩
abbrev POD (X : Cx) (We : WX) (S : List Nat) (e : Option PySem.Expr) (f : DEnv → Res (Option Int)) : Prop := PO X e (tG X.K X.mg We RO S f)
theorem po_imp {X : Cx} {e : Option PySem.Expr} {t t' : TO} (h : PO X e t) (i : ∀ σ H Q, t' σ H Q → t σ H Q) : PO X e t' := ⟨fun pins s σ H Q I q => h.run pins s σ H Q I (i σ H Q q)⟩
def eNoP : DEnv → Res (Option Int) := fun _ => .ok none
def asP : D → Res (Option Int)
  | .int i => .ok (some i)
  | _ => .st
def eP (f : DEnv → Res D) : DEnv → Res (Option Int) := fun ρ => (f ρ).bind asP
theorem pod_none : POD X We [] none eNoP := po_imp po_none fun σ H Q ⟨F, ρ, hF, hE, q⟩ => q F H none (Ext.refl hF) rfl
theorem pod_some (ha : PD X We Sa a fa) : POD X We Sa (some a) (eP fa) := po_imp (po_some ha) fun σ H Q ⟨F, ρ, hF, hE, q⟩ => ⟨F, ρ, hF, hE, Out.bind q fun x F1 H1 v ex rx q1 => by
  cases x with
  | int i => cases rx; exact ⟨i, rfl, q1 F1 H1 _ (Ext.refl ex.2.1) rfl⟩
  | _ => exact q1.elim⟩
def cutD (xs : List D) (lo hi : Option Int) : List D := (xs.drop (HT.sIx xs.length 0 lo)).take (HT.sIx xs.length xs.length hi - HT.sIx xs.length 0 lo)
theorem RepAll.cut {K : PySem.W.Frag} {mg : Str → Option Value} {F : Hp} {vs : List V} {ds : List D} {lo hi : Option Int} (r : RepAll K mg F vs ds) : RepAll K mg F (cutV vs lo hi) (cutD ds lo hi) := by
  unfold cutV cutD
  rw [r.length]
  exact (r.drop _).take _
def dSl (x : D) (lo hi : Option Int) : Res D := match x with
  | .tup xs => .ok (.tup (cutD xs lo hi))
  | .str z => if z.length ≤ lim then .ok (.str (cutS z lo hi)) else .st
  | _ => .st
def dSlL (x : D) (lo hi : Option Int) : Res (List D) := match x with
  | .lst xs => .ok (cutD xs lo hi)
  | _ => .st
def e3 {β : Type} (o : D → Option Int → Option Int → Res β) (f : DEnv → Res D) (l h : DEnv → Res (Option Int)) : DEnv → Res β := fun ρ => (f ρ).bind fun x => (l ρ).bind fun a => (h ρ).bind fun b => o x a b
theorem pd_sl {lo hi : Option PySem.Expr} {fl fh : DEnv → Res (Option Int)} (ha : PD X We Sa a fa) (hl : POD X We Sb lo fl) (hh : POD X We Sc hi fh) : PD X We (Sa ++ Sb ++ Sc) (.Subscript a (.Slice lo hi none p2) pos) (e3 dSl fa fl fh) :=
  pe_imp (pe_slice (sl_tupA.or sl_str) ha hl hh) fun σ H Q ⟨F, ρ, hF, hE, q⟩ => ⟨F, ρ, hF, hE.l.l, Out.bind q fun x F1 H1 v ex rx q1 => ⟨F1, ρ, ex.2.1, hE.l.r.mono ex.1, Out.bind q1 fun l F2 H2 l' el rl q2 => ⟨F2, ρ, el.2.1, hE.r.mono (ex.1.trans el.1), Out.bind q2 fun h F3 H3 h' eh rh q3 => by
    have e1 : l' = l := rl
    have e2 : h' = h := rh
    subst e1 e2
    have rx := (rx.mono el.1).mono eh.1
    cases x with
    | tup xs =>
      cases rx with
      | tup c d =>
        refine .inl ⟨_, _, rfl, SqT.same eh.2.1 c, fun hw => ?_, fun _ p hp => q3 _ _ _ (Ext.new eh.2.1 hp) (.tup (SqT.of upd_same) (d.cut.mono (same_upd (eh.2.1.free hp))))⟩
        have e : cutD xs l' h' = xs := by
          rw [d.length] at hw
          unfold cutD
          rw [hw.1, hw.2, List.drop_zero, Nat.sub_zero, List.take_length]
        have q3 : Out X.K X.mg We (RD X.K X.mg) F3 H3 σ Q (.ok (.tup (cutD xs l' h'))) := q3
        rw [e] at q3
        exact q3 F3 H3 _ (Ext.refl eh.2.1) (.tup c d)
    | str z =>
      cases rx
      have q3 : Out X.K X.mg We (RD X.K X.mg) F3 H3 σ Q (if z.length ≤ lim then .ok (.str (cutS z l' h')) else .st) := q3
      by_cases hz : z.length ≤ lim
      · rw [if_pos hz] at q3
        exact .inr ⟨z, rfl, le_line hz, q3 F3 H3 _ (Ext.refl eh.2.1) (.str _)⟩
      · rw [if_neg hz] at q3; exact q3.elim
    | _ => exact q3.elim⟩⟩⟩
theorem pf_sl {lo hi : Option PySem.Expr} {fl fh : DEnv → Res (Option Int)} (ha : PD X We Sa a fa) (hl : POD X We Sb lo fl) (hh : POD X We Sc hi fh) : PF X We (Sa ++ Sb ++ Sc) (.Subscript a (.Slice lo hi none p2) pos) (e3 dSlL fa fl fh) :=
  pe_imp (pe_slice sl_list ha hl hh) fun σ H Q ⟨F, ρ, hF, hE, q⟩ => ⟨F, ρ, hF, hE.l.l, Out.bind q fun x F1 H1 v ex rx q1 => ⟨F1, ρ, ex.2.1, hE.l.r.mono ex.1, Out.bind q1 fun l F2 H2 l' el rl q2 => ⟨F2, ρ, el.2.1, hE.r.mono (ex.1.trans el.1), Out.bind q2 fun h F3 H3 h' eh rh q3 => by
    have e1 : l' = l := rl
    have e2 : h' = h := rh
    subst e1 e2
    have rx := (rx.mono el.1).mono eh.1
    cases x with
    | lst xs =>
      cases rx with
      | lst c d => exact ⟨_, _, rfl, SqL.same eh.2.1 c, fun p hp => q3 _ _ _ (Ext.new0 eh.2.1 hp) ⟨p, _, rfl, hp, eh.2.1.free hp, upd_same, d.cut⟩⟩
    | _ => exact q3.elim⟩⟩⟩
end
end DL
set_option Elab.async false
set_option linter.all false
set_option maxRecDepth 100000
set_option maxHeartbeats 1000000
/-! DL6: built-ins, methods of texts, instances. -/
namespace DL
open PySem PySem.Spec PyProof.Rows L2

/-! ### calls of built-ins, by data -/
def CaD (K : PySem.W.Frag) (mg : Str → Option Value) (r : List V → Hp → VK → Prop) (o : List D → Res D) : Prop :=
  ∀ (We : WX) (F H : Hp) (σ : L2.St) (xs : List D) (vs : List V) (Q : VK), Same F H → RepAll K mg F vs xs → Out K mg We (RD K mg) F H σ Q (o xs) → r vs H Q
def CaF (K : PySem.W.Frag) (mg : Str → Option Value) (r : List V → Hp → VK → Prop) (o : List D → Res (List D)) : Prop :=
  ∀ (We : WX) (F H : Hp) (σ : L2.St) (xs : List D) (vs : List V) (Q : VK), Same F H → RepAll K mg F vs xs → Out K mg We (RF K mg) F H σ Q (o xs) → r vs H Q
section
variable {X : Cx} {We : WX} {S : List Nat} {x : Str} {p pos : Pos} {e : PySem.Expr} {es : List PySem.Expr} {g : DEnv → Res (List D)} {id T : String} {r : List V → Hp → VK → Prop}
theorem pd_B {o : List D → Res D} (hc : CallR X (.builtin id) r) (ho : CaD X.K X.mg r o) (hm : X.mg x = none) (ha : PAD X We S (e :: es) g) (hv : bootBuiltins x = some (.builtin id) := by decide +kernel) (hg : Gl X x := by rfl) (hn : x ≠ "__name__" := by decide) (hdb : (x == ("__debug__" : Str)) = false := by decide)
    (he : starEach (e :: es) X.env = (false, eval e X.env) :: starEach es X.env := by rfl) (hpl : (backTo pos (starEach es X.env)).any (·.1) = false := by rfl) : PD X We S (.Call (.Name x p) (e :: es) [] pos) (eL o g) :=
  pe_imp (pe_callB hc hg hm hv ha hn hdb he hpl) fun σ H Q ⟨F, ρ, hF, hE, q⟩ => ⟨F, ρ, hF, hE, Out.bind q fun ds F1 H1 vs ex r q1 => ho We F1 H1 σ ds vs Q ex.2.1 r q1⟩
theorem pf_B {o : List D → Res (List D)} (hc : CallR X (.builtin id) r) (ho : CaF X.K X.mg r o) (hm : X.mg x = none) (ha : PAD X We S (e :: es) g) (hv : bootBuiltins x = some (.builtin id) := by decide +kernel) (hg : Gl X x := by rfl) (hn : x ≠ "__name__" := by decide) (hdb : (x == ("__debug__" : Str)) = false := by decide)
    (he : starEach (e :: es) X.env = (false, eval e X.env) :: starEach es X.env := by rfl) (hpl : (backTo pos (starEach es X.env)).any (·.1) = false := by rfl) : PF X We S (.Call (.Name x p) (e :: es) [] pos) (eL o g) :=
  pe_imp (pe_callB hc hg hm hv ha hn hdb he hpl) fun σ H Q ⟨F, ρ, hF, hE, q⟩ => ⟨F, ρ, hF, hE, Out.bind q fun ds F1 H1 vs ex r q1 => ho We F1 H1 σ ds vs Q ex.2.1 r q1⟩
theorem pd_T {o : List D → Res D} (hc : CallR X (.type T) r) (ho : CaD X.K X.mg r o) (hm : X.mg x = none) (ha : PAD X We S (e :: es) g) (hv : bootBuiltins x = some (.type T) := by decide +kernel) (hg : Gl X x := by rfl) (hn : x ≠ "__name__" := by decide) (hdb : (x == ("__debug__" : Str)) = false := by decide)
    (he : starEach (e :: es) X.env = (false, eval e X.env) :: starEach es X.env := by rfl) (hpl : (backTo pos (starEach es X.env)).any (·.1) = false := by rfl) : PD X We S (.Call (.Name x p) (e :: es) [] pos) (eL o g) :=
  pe_imp (pe_callTy hc hg hm hv ha hn hdb he hpl) fun σ H Q ⟨F, ρ, hF, hE, q⟩ => ⟨F, ρ, hF, hE, Out.bind q fun ds F1 H1 vs ex r q1 => ho We F1 H1 σ ds vs Q ex.2.1 r q1⟩
theorem pf_T {o : List D → Res (List D)} (hc : CallR X (.type T) r) (ho : CaF X.K X.mg r o) (hm : X.mg x = none) (ha : PAD X We S (e :: es) g) (hv : bootBuiltins x = some (.type T) := by decide +kernel) (hg : Gl X x := by rfl) (hn : x ≠ "__name__" := by decide) (hdb : (x == ("__debug__" : Str)) = false := by decide)
    (he : starEach (e :: es) X.env = (false, eval e X.env) :: starEach es X.env := by rfl) (hpl : (backTo pos (starEach es X.env)).any (·.1) = false := by rfl) : PF X We S (.Call (.Name x p) (e :: es) [] pos) (eL o g) :=
  pe_imp (pe_callTy hc hg hm hv ha hn hdb he hpl) fun σ H Q ⟨F, ρ, hF, hE, q⟩ => ⟨F, ρ, hF, hE, Out.bind q fun ds F1 H1 vs ex r q1 => ho We F1 H1 σ ds vs Q ex.2.1 r q1⟩
end
def bAbs : List D → Res D
  | [.int i] => .ok (.int (if i < 0 then -i else i))
  | _ => .st
def bInt : List D → Res D
  | [.int i] => .ok (.int i)
  | [.bl b] => .ok (.int (if b then 1 else 0))
  | _ => .st
def bLen : List D → Res D
  | [.lst xs] => .ok (.int xs.length)
  | [.tup xs] => .ok (.int xs.length)
  | [.str z] => if z.length ≤ lim then .ok (.int z.length) else .st
  | _ => .st
def bTuple : List D → Res D
  | [.lst xs] => .ok (.tup xs)
  | [.tup xs] => .ok (.tup xs)
  | _ => .st
def bList : List D → Res (List D)
  | [.lst xs] => .ok xs
  | [.tup xs] => .ok xs
  | _ => .st
def asInts : List D → Option (List Int)
  | [] => some []
  | .int i :: ds => (asInts ds).bind fun r => some (i :: r)
  | _ => none
def asBls : List D → Option (List Bool)
  | [] => some []
  | .bl i :: ds => (asBls ds).bind fun r => some (i :: r)
  | _ => none
def bSum : List D → Res D
  | [.lst xs] => match asInts xs with
    | some ns => .ok (.int ns.sum)
    | none => .st
  | _ => .st
def bAll : List D → Res D
  | [.lst xs] => match asBls xs with
    | some bs => .ok (.bl (bs.all id))
    | none => .st
  | _ => .st
def bAny : List D → Res D
  | [.lst xs] => match asBls xs with
    | some bs => .ok (.bl (bs.any id))
    | none => .st
  | _ => .st
section
variable {K : PySem.W.Frag} {mg : Str → Option Value}
theorem ints_of {F : Hp} : ∀ {xs : List D} {vs : List V} {ns : List Int}, RepAll K mg F vs xs → asInts xs = some ns → vs = ns.map V.int
  | [], vs, ns, r, h => by cases h; cases r; rfl
  | d :: ds, vs, ns, r, h => by
    cases d <;> try (cases h; done)
    rename_i i
    have h : ((asInts ds).bind fun r => some (i :: r)) = some ns := h
    cases q : asInts ds with
    | none => rw [q] at h; cases h
    | some ms =>
      rw [q] at h
      cases h
      cases r with
      | cons a b =>
        cases a
        rw [ints_of b q]
        rfl
theorem bls_of {F : Hp} : ∀ {xs : List D} {vs : List V} {ns : List Bool}, RepAll K mg F vs xs → asBls xs = some ns → vs = ns.map V.bl
  | [], vs, ns, r, h => by cases h; cases r; rfl
  | d :: ds, vs, ns, r, h => by
    cases d <;> try (cases h; done)
    rename_i i
    have h : ((asBls ds).bind fun r => some (i :: r)) = some ns := h
    cases q : asBls ds with
    | none => rw [q] at h; cases h
    | some ms =>
      rw [q] at h
      cases h
      cases r with
      | cons a b =>
        cases a
        rw [bls_of b q]
        rfl
theorem one_of {P : D → Prop} {xs : List D} {β : Type} {o : List D → Res β} (h : ∀ d, P d → True) : True := trivial
/-- of one argument -/
theorem ca_one {r : List V → Hp → VK → Prop} {o : List D → Res D} (h0 : ∀ xs, xs.length ≠ 1 → o xs = .st) (h : ∀ (We : WX) (F H : Hp) (σ : L2.St) (d : D) (v : V) (Q : VK), Same F H → Rep K mg F v d → Out K mg We (RD K mg) F H σ Q (o [d]) → r [v] H Q) : CaD K mg r o := fun We F H σ xs vs Q hF rr q => by
  match xs, rr, q with
  | [d], rr, q => obtain ⟨v, rfl, rv⟩ := rr.one; exact h We F H σ d v Q hF rv q
  | [], rr, q => rw [h0 [] (by simp)] at q; exact q.elim
  | _ :: _ :: _, rr, q => rw [h0 _ (by simp)] at q; exact q.elim
theorem caf_one {r : List V → Hp → VK → Prop} {o : List D → Res (List D)} (h0 : ∀ xs, xs.length ≠ 1 → o xs = .st) (h : ∀ (We : WX) (F H : Hp) (σ : L2.St) (d : D) (v : V) (Q : VK), Same F H → Rep K mg F v d → Out K mg We (RF K mg) F H σ Q (o [d]) → r [v] H Q) : CaF K mg r o := fun We F H σ xs vs Q hF rr q => by
  match xs, rr, q with
  | [d], rr, q => obtain ⟨v, rfl, rv⟩ := rr.one; exact h We F H σ d v Q hF rv q
  | [], rr, q => rw [h0 [] (by simp)] at q; exact q.elim
  | _ :: _ :: _, rr, q => rw [h0 _ (by simp)] at q; exact q.elim
theorem len1 {β : Type} {o : List D → Res β} (h : ∀ a b c, o (a :: b :: c) = .st) (h2 : o [] = .st) : ∀ xs : List D, xs.length ≠ 1 → o xs = .st
  | [], _ => h2
  | [_], n => absurd rfl n
  | _ :: _ :: _, _ => h _ _ _
theorem cd_abs : CaD K mg (fun xs H Q => ∃ i, xs = [.int i] ∧ Q (.int (if i < 0 then -i else i)) H) bAbs := ca_one (len1 (fun a _ _ => by cases a <;> rfl) rfl) fun We F H σ d v Q hF r q => by
  cases d <;> try exact q.elim
  cases r
  exact ⟨_, rfl, q F H _ (Ext.refl hF) (.int _)⟩
theorem cd_int : CaD K mg (fun xs H Q => (∃ i, xs = [.int i] ∧ Q (.int i) H) ∨ ∃ k, xs = [.bl k] ∧ Q (.int (if k then 1 else 0)) H) bInt := ca_one (len1 (fun a _ _ => by cases a <;> rfl) rfl) fun We F H σ d v Q hF r q => by
  cases d <;> try exact q.elim
  · cases r
    exact .inr ⟨_, rfl, q F H _ (Ext.refl hF) (.int _)⟩
  · cases r
    exact .inl ⟨_, rfl, q F H _ (Ext.refl hF) (.int _)⟩
def rLenA (K : PySem.W.Frag) : List V → Hp → VK → Prop := fun xs H Q => (∃ p ys, xs = [.ref p] ∧ (SqL K H p ys ∨ SqT K H p ys) ∧ Q (.int ys.length) H) ∨ ∃ z, xs = [.str z] ∧ z.length ≤ sizeLine ∧ Q (.int z.length) H
theorem cd_len : CaD K mg (rLenA K) bLen := ca_one (len1 (fun a _ _ => by cases a <;> rfl) rfl) fun We F H σ d v Q hF r q => by
  cases d with
  | lst xs =>
    cases r with
    | lst a b => exact .inl ⟨_, _, rfl, .inl (SqL.same hF a), by rw [b.length]; exact q F H _ (Ext.refl hF) (.int _)⟩
  | tup xs =>
    cases r with
    | tup a b => exact .inl ⟨_, _, rfl, .inr (SqT.same hF a), by rw [b.length]; exact q F H _ (Ext.refl hF) (.int _)⟩
  | str z =>
    cases r
    have q : Out K mg We (RD K mg) F H σ Q (if z.length ≤ lim then .ok (.int z.length) else .st) := q
    by_cases hz : z.length ≤ lim
    · rw [if_pos hz] at q
      exact .inr ⟨_, rfl, le_line hz, q F H _ (Ext.refl hF) (.int _)⟩
    · rw [if_neg hz] at q; exact q.elim
  | _ => exact q.elim
theorem cd_tuple : CaD K mg (fun xs H Q => ∃ p ys, xs = [.ref p] ∧ ((SqL K H p ys ∧ ∀ l, H l = none → Q (.ref l) (upd H l (.tup ys))) ∨ (SqT K H p ys ∧ Q (.ref p) H))) bTuple := ca_one (len1 (fun a _ _ => by cases a <;> rfl) rfl) fun We F H σ d v Q hF r q => by
  cases d with
  | lst xs =>
    cases r with
    | lst a b => exact ⟨_, _, rfl, .inl ⟨SqL.same hF a, fun l hl => q _ _ _ (Ext.new hF hl) (.tup (SqT.of upd_same) (b.mono (same_upd (hF.free hl))))⟩⟩
  | tup xs =>
    cases r with
    | tup a b => exact ⟨_, _, rfl, .inr ⟨SqT.same hF a, q F H _ (Ext.refl hF) (.tup a b)⟩⟩
  | _ => exact q.elim
theorem cf_list : CaF K mg (fun xs H Q => ∃ p ys, xs = [.ref p] ∧ (SqL K H p ys ∨ SqT K H p ys) ∧ ∀ l, H l = none → Q (.ref l) (upd H l (.lst ys))) bList := caf_one (len1 (fun a _ _ => by cases a <;> rfl) rfl) fun We F H σ d v Q hF r q => by
  cases d with
  | lst xs =>
    cases r with
    | lst a b => exact ⟨_, _, rfl, .inl (SqL.same hF a), fun l hl => q F _ _ (Ext.new0 hF hl) ⟨l, _, rfl, hl, hF.free hl, upd_same, b⟩⟩
  | tup xs =>
    cases r with
    | tup a b => exact ⟨_, _, rfl, .inr (SqT.same hF a), fun l hl => q F _ _ (Ext.new0 hF hl) ⟨l, _, rfl, hl, hF.free hl, upd_same, b⟩⟩
  | _ => exact q.elim
theorem cd_sum : CaD K mg (rSum K) bSum := ca_one (len1 (fun a _ _ => by cases a <;> rfl) rfl) fun We F H σ d v Q hF r q => by
  cases d with
  | lst xs =>
    have q : Out K mg We (RD K mg) F H σ Q (match asInts xs with | some ns => .ok (.int ns.sum) | none => .st) := q
    cases e : asInts xs with
    | none => rw [e] at q; exact q.elim
    | some ns =>
      rw [e] at q
      cases r with
      | lst a b => exact ⟨_, ns, rfl, by rw [← ints_of b e]; exact SqL.same hF a, q F H _ (Ext.refl hF) (.int _)⟩
  | _ => exact q.elim
theorem cd_all : CaD K mg (rAll K) bAll := ca_one (len1 (fun a _ _ => by cases a <;> rfl) rfl) fun We F H σ d v Q hF r q => by
  cases d with
  | lst xs =>
    have q : Out K mg We (RD K mg) F H σ Q (match asBls xs with | some bs => .ok (.bl (bs.all id)) | none => .st) := q
    cases e : asBls xs with
    | none => rw [e] at q; exact q.elim
    | some ns =>
      rw [e] at q
      cases r with
      | lst a b => exact ⟨_, ns, rfl, by rw [← bls_of b e]; exact SqL.same hF a, q F H _ (Ext.refl hF) (.bl _)⟩
  | _ => exact q.elim
theorem cd_any : CaD K mg (rAny K) bAny := ca_one (len1 (fun a _ _ => by cases a <;> rfl) rfl) fun We F H σ d v Q hF r q => by
  cases d with
  | lst xs =>
    have q : Out K mg We (RD K mg) F H σ Q (match asBls xs with | some bs => .ok (.bl (bs.any id)) | none => .st) := q
    cases e : asBls xs with
    | none => rw [e] at q; exact q.elim
    | some ns =>
      rw [e] at q
      cases r with
      | lst a b => exact ⟨_, ns, rfl, by rw [← bls_of b e]; exact SqL.same hF a, q F H _ (Ext.refl hF) (.bl _)⟩
  | _ => exact q.elim
end
section
variable {X : Cx}
theorem call_lenA : CallR X (.builtin "len") (rLenA X.K) := CallR.or call_len_seq call_len_str
end

/-! ### isinstance, one class -/
def D.ty : D → String
  | .non => "NoneType"
  | .bl _ => "bool"
  | .int _ => "int"
  | .str _ => "str"
  | .tup _ => "tuple"
  | .lst _ => "list"
  | .obj _ _ _ => ""
/-- is a value of the built-in class a one of T -/
def isT (T a : String) : Option Bool := if a == "" then none else kitB a T
def dIsi (T : String) (d : D) : Res D := match isT T d.ty with
  | some b => .ok (.bl b)
  | none => .st
section
variable {X : Cx} {We : WX} {S : List Nat} {f : DEnv → Res D} {a : PySem.Expr} {p p1 pos : Pos} {x : Str} {T : String}
theorem ty_of {K : PySem.W.Frag} {mg : Str → Option Value} {F H : Hp} {v : V} {d : D} (hF : Same F H) (r : Rep K mg F v d) (n : d.ty ≠ "") : TyX K H v (.type d.ty) := by
  cases r with
  | non => exact .base .non
  | bl b => exact .base (.bl b)
  | int i => exact .base (.int i)
  | str z => exact .base (.str z)
  | lst a b =>
    rcases a with (a | ⟨o, a⟩) | ⟨o, its, k, h1, h2, _⟩
    · exact .base (.lst (hF _ _ a))
    · exact .base (.frz (hF _ _ a))
    · exact .kList h1 h2
  | tup a b =>
    rcases a with (a | ⟨o, a⟩) | ⟨o, its, k, h1, h2, _⟩
    · exact .base (.tup (hF _ _ a))
    · exact .fTuple (hF _ _ a)
    · exact .kTuple h1 h2
  | obj _ _ _ _ => exact absurd rfl n
theorem pd_isi (T : String) (hm : X.mg "isinstance" = none) (hmT : X.mg x = none) (ha : PD X We S a f) (hv : bootBuiltins x = some (.type T) := by decide +kernel) (hg : Gl X "isinstance" := by rfl) (hgT : Gl X x := by rfl) (hn : x ≠ "__name__" := by decide) (hdb : (x == ("__debug__" : Str)) = false := by decide)
    (hs1 : starEach [a, .Name x p1] X.env = (false, eval a X.env) :: starEach [.Name x p1] X.env := by rfl) (hs2 : starEach [.Name x p1] X.env = (false, eval (.Name x p1) X.env) :: starEach [] X.env := by rfl) (hpl : (backTo pos (starEach [.Name x p1] X.env)).any (·.1) = false := by rfl) :
    PD X We S (.Call (.Name "isinstance" p) [a, .Name x p1] [] pos) (e1 (dIsi T) f) := by
  have hP : PA X [a, .Name x p1] (tCons (tG X.K X.mg We (RD X.K X.mg) S f) (tCons (tC (.ty T)) tNil)) := pa_cons ha (pa_cons (pe_bltn (v := .ty T) hgT hmT hv rfl hn hdb) pa_nil hs2) hs1
  refine pe_imp (pe_callB call_isi hg hm (by decide +kernel) hP (by decide) (by decide) hs1 hpl) fun σ H Q ⟨F, ρ, hF, hE, q⟩ => ⟨F, ρ, hF, hE, Out.bind q fun d F1 H1 v ex r q1 => ?_⟩
  unfold dIsi at q1
  cases hb : isT T d.ty with
  | none => rw [hb] at q1; exact q1.elim
  | some b =>
    rw [hb] at q1
    unfold isT at hb
    by_cases hd : (d.ty == "") = true
    · rw [if_pos hd] at hb; cases hb
    · rw [if_neg hd] at hb
      exact ⟨v, .ty T, .type d.ty, .type T, b, rfl, .ty T, ty_of ex.2.1 r (by simpa using hd), kit_ty hb, q1 F1 H1 _ (Ext.refl ex.2.1) (.bl b)⟩
end

/-! ### methods of texts -/
def MeD (K : PySem.W.Frag) (mg : Str → Option Value) (r : V → List V → Hp → VK → Prop) (o : Str → List D → Res D) : Prop :=
  ∀ (We : WX) (F H : Hp) (σ : L2.St) (x : Str) (xs : List D) (vs : List V) (Q : VK), Same F H → RepAll K mg F vs xs → Out K mg We (RD K mg) F H σ Q (o x xs) → r (.str x) vs H Q
def MeF (K : PySem.W.Frag) (mg : Str → Option Value) (r : V → List V → Hp → VK → Prop) (o : Str → List D → Res (List D)) : Prop :=
  ∀ (We : WX) (F H : Hp) (σ : L2.St) (x : Str) (xs : List D) (vs : List V) (Q : VK), Same F H → RepAll K mg F vs xs → Out K mg We (RF K mg) F H σ Q (o x xs) → r (.str x) vs H Q
def eM {β : Type} (o : Str → List D → Res β) (f : DEnv → Res D) (g : DEnv → Res (List D)) : DEnv → Res β := fun ρ => (f ρ).bind fun x => match x with
  | .str z => (g ρ).bind fun xs => o z xs
  | _ => .st
section
variable {X : Cx} {We : WX} {Sa Sb : List Nat} {f : DEnv → Res D} {g : DEnv → Res (List D)} {o e : PySem.Expr} {es : List PySem.Expr} {name : Str} {apos cpos : Pos} {id : String} {r : V → List V → Hp → VK → Prop}
theorem pd_m {m : Str → List D → Res D} (slot : PySem.Slot "str" name id) (hty : typeOf (.builtin id) = pure (.type "method_descriptor")) (hm : MtR X id r) (hd : MeD X.K X.mg r m) (ho : PD X We Sa o f) (ha : PAD X We Sb (e :: es) g)
    (hbase : attributeBase o name X.env (eval o X.env) = eval o X.env := by rfl)
    (hfew : ((backTo cpos (starEach (e :: es) X.env)).all (fun x => !x.1) && (backToKw cpos (keywordEach [] X.env)).all (fun x => x.1.isSome)
      && decide ((e :: es).length + ([] : List Keyword).length + (if ([] : List Keyword).isEmpty then 0 else 1) < 30)) = true := by rfl)
    (hline : (apos.endLine == cpos.line) = true := by rfl) (hs : starEach (e :: es) X.env = (false, eval e X.env) :: starEach es X.env := by rfl) (hplain : (backTo cpos (starEach es X.env)).any (·.1) = false := by rfl) :
    PD X We (Sa ++ Sb) (.Call (.Attribute o name apos) (e :: es) [] cpos) (eM m f g) :=
  pe_imp (pe_bm PySem.F.plainAttrs_str slot hty hm ho ha hbase hfew hline hs hplain) fun σ H Q ⟨F, ρ, hF, hE, q⟩ => ⟨F, ρ, hF, hE.l, Out.bind q fun x F1 H1 v ex rx q1 => by
    cases x with
    | str z =>
      cases rx
      exact ⟨rfl, F1, ρ, ex.2.1, hE.r.mono ex.1, Out.bind q1 fun xs F2 H2 vs ey ry q2 => hd We F2 H2 σ z xs vs Q ey.2.1 ry q2⟩
    | _ => exact q1.elim⟩
theorem pf_m {m : Str → List D → Res (List D)} (slot : PySem.Slot "str" name id) (hty : typeOf (.builtin id) = pure (.type "method_descriptor")) (hm : MtR X id r) (hd : MeF X.K X.mg r m) (ho : PD X We Sa o f) (ha : PAD X We Sb (e :: es) g)
    (hbase : attributeBase o name X.env (eval o X.env) = eval o X.env := by rfl)
    (hfew : ((backTo cpos (starEach (e :: es) X.env)).all (fun x => !x.1) && (backToKw cpos (keywordEach [] X.env)).all (fun x => x.1.isSome)
      && decide ((e :: es).length + ([] : List Keyword).length + (if ([] : List Keyword).isEmpty then 0 else 1) < 30)) = true := by rfl)
    (hline : (apos.endLine == cpos.line) = true := by rfl) (hs : starEach (e :: es) X.env = (false, eval e X.env) :: starEach es X.env := by rfl) (hplain : (backTo cpos (starEach es X.env)).any (·.1) = false := by rfl) :
    PF X We (Sa ++ Sb) (.Call (.Attribute o name apos) (e :: es) [] cpos) (eM m f g) :=
  pe_imp (pe_bm PySem.F.plainAttrs_str slot hty hm ho ha hbase hfew hline hs hplain) fun σ H Q ⟨F, ρ, hF, hE, q⟩ => ⟨F, ρ, hF, hE.l, Out.bind q fun x F1 H1 v ex rx q1 => by
    cases x with
    | str z =>
      cases rx
      exact ⟨rfl, F1, ρ, ex.2.1, hE.r.mono ex.1, Out.bind q1 fun xs F2 H2 vs ey ry q2 => hd We F2 H2 σ z xs vs Q ey.2.1 ry q2⟩
    | _ => exact q1.elim⟩
end
/-- a method of one text argument -/
def m1 (c : Str → Str → Bool) (h : Str → Str → D) : Str → List D → Res D := fun x xs => match xs with
  | [.str y] => if c x y = true then .ok (h x y) else .st
  | _ => .st
theorem m1_out {K : PySem.W.Frag} {mg : Str → Option Value} {We : WX} {F H : Hp} {σ : L2.St} {x : Str} {xs : List D} {vs : List V} {Q : VK} {c : Str → Str → Bool} {h : Str → Str → D} (rr : RepAll K mg F vs xs) (q : Out K mg We (RD K mg) F H σ Q (m1 c h x xs)) :
    ∃ y, vs = [.str y] ∧ c x y = true ∧ Out K mg We (RD K mg) F H σ Q (.ok (h x y)) := by
  have key : ∀ d, xs = [d] → ∃ y, vs = [.str y] ∧ c x y = true ∧ Out K mg We (RD K mg) F H σ Q (.ok (h x y)) := fun d e => by
    subst e
    cases d <;> try exact q.elim
    rename_i y
    obtain ⟨v, rfl, rv⟩ := rr.one
    cases rv
    have q : Out K mg We (RD K mg) F H σ Q (if c x y = true then .ok (h x y) else .st) := q
    by_cases z : c x y = true
    · rw [if_pos z] at q; exact ⟨y, rfl, z, q⟩
    · rw [if_neg z] at q; exact q.elim
  match xs, q with
  | [d], q => exact key d rfl
  | [], q => exact q.elim
  | a :: _ :: _, q => cases a <;> exact q.elim
def okS (x _ : Str) : Bool := decide (x.length ≤ lim)
def okS1 (_ _ : Str) : Bool := true
def mRemoveSuffix := m1 okS fun x y => .str (Txt.removesuffix x y)
def mRemovePrefix := m1 okS fun x y => .str (Txt.removeprefix x y)
def mStarts := m1 okS1 fun x y => .bl (Txt.startswith x y)
section
variable {K : PySem.W.Frag} {mg : Str → Option Value}
theorem md_removesuffix : MeD K mg (fun x xs H Q => ∃ a b, x = .str a ∧ xs = [.str b] ∧ a.length ≤ sizeLine ∧ Q (.str (Txt.removesuffix a b)) H) mRemoveSuffix := fun We F H σ x xs vs Q hF rr q => by
  obtain ⟨y, rfl, hc, q⟩ := m1_out rr q
  exact ⟨x, y, rfl, rfl, le_line (of_decide_eq_true hc), q F H _ (Ext.refl hF) (.str _)⟩
theorem md_removeprefix : MeD K mg (fun x xs H Q => ∃ a b, x = .str a ∧ xs = [.str b] ∧ a.length ≤ sizeLine ∧ Q (.str (Txt.removeprefix a b)) H) mRemovePrefix := fun We F H σ x xs vs Q hF rr q => by
  obtain ⟨y, rfl, hc, q⟩ := m1_out rr q
  exact ⟨x, y, rfl, rfl, le_line (of_decide_eq_true hc), q F H _ (Ext.refl hF) (.str _)⟩
theorem md_starts : MeD K mg (fun x xs H Q => ∃ a b, x = .str a ∧ xs = [.str b] ∧ Q (.bl (Txt.startswith a b)) H) mStarts := fun We F H σ x xs vs Q hF rr q => by
  obtain ⟨y, rfl, hc, q⟩ := m1_out rr q
  exact ⟨x, y, rfl, rfl, q F H _ (Ext.refl hF) (.bl _)⟩
end

/-! ### attributes -/
def lookD : List Str → List D → Str → Option D
  | n :: ns, d :: ds, f => if f == n then some d else lookD ns ds f
  | _, _, _ => none
/-- what of the text a class must have, that its instances' fields fs may be read and stored -/
structure ClD (K : PySem.W.Frag) (mg : Str → Option Value) (c : Str) (C : Addr) (fs : List Str) : Prop where
  gl : mg c = some (.ref C)
  cl : Cls K C
  na : ∀ f ∈ fs, NoAttr K C f
def dFld (cs : List Str) (f : Str) : D → Res D
  | .obj c ns ds => if cs.contains c = true then match lookD ns ds f with
    | some d => .ok d
    | none => .st
    else .st
  | _ => .st
theorem RepAll.look {K : PySem.W.Frag} {mg : Str → Option Value} {F : Hp} {f : Str} {d : D} : ∀ {fv : List (Str × V)} {ns : List Str} {ds : List D}, fv.map (·.1) = ns → RepAll K mg F (fv.map (·.2)) ds → lookD ns ds f = some d → ∃ v, fv.lookup f = some v ∧ Rep K mg F v d
  | [], ns, ds, e, r, h => by subst e; cases ds <;> cases h
  | (n, v) :: fv, ns, ds, e, r, h => by
    subst e
    cases ds with
    | nil => cases r
    | cons x xs =>
      cases r with
      | cons a b =>
        have h : (if f == n then some x else lookD (fv.map (·.1)) xs f) = some d := h
        show ∃ v', (match f == n with | true => some v | false => fv.lookup f) = some v' ∧ _
        cases hn : f == n with
        | true => rw [hn, if_pos rfl] at h; cases h; exact ⟨v, rfl, a⟩
        | false => rw [hn, if_neg Bool.false_ne_true] at h; exact RepAll.look rfl b h
section
variable {X : Cx} {We : WX} {S : List Nat} {f : DEnv → Res D} {e : PySem.Expr} {fl : Str} {pos : Pos}
theorem pd_fld (cs : List Str) (hc : ∀ c ∈ cs, ∃ C fs, ClD X.K X.mg c C fs ∧ fl ∈ fs) (he : PD X We S e f) (hb : attributeBase e fl X.env (eval e X.env) = eval e X.env := by rfl) : PD X We S (.Attribute e fl pos) (e1 (dFld cs fl) f) :=
  pe_imp (pe_fld he hb) fun σ H Q ⟨F, ρ, hF, hE, q⟩ => ⟨F, ρ, hF, hE, Out.bind q fun x F1 H1 v ex rx q1 => by
    cases x with
    | obj c ns ds =>
      have q1 : Out X.K X.mg We (RD X.K X.mg) F1 H1 σ Q (if cs.contains c = true then match lookD ns ds fl with | some d => .ok d | none => .st else .st) := q1
      by_cases z : cs.contains c = true
      · rw [if_pos z] at q1
        obtain ⟨C', fs, cd, hf⟩ := hc c (by simpa using z)
        cases hl : lookD ns ds fl with
        | none => rw [hl] at q1; exact q1.elim
        | some d =>
          rw [hl] at q1
          cases rx with
          | obj g ha n r =>
            rw [cd.gl] at g; cases g
            obtain ⟨w, hw, rw'⟩ := RepAll.look n r hl
            exact ⟨_, C', _, _, w, rfl, ex.2.1 _ _ ha, cd.cl, cd.na fl hf, hw, q1 F1 H1 _ (Ext.refl ex.2.1) rw'⟩
      · rw [if_neg z] at q1; exact q1.elim
    | _ => exact q1.elim⟩
/-- C.f, a constant of the class -/
theorem pd_cval {C : Addr} {c : Str} {mc u : Value} {v : V} {d : D} {p : Pos} (hm : X.mg c = some (.ref C)) (hr : ClX.CRead X.K C mc) (hv : ClX.CVal X.K C mc fl v u) (rd : ∀ F, Rep X.K X.mg F v d) (hg : Gl X c := by rfl) (hdb : (c == ("__debug__" : Str)) = false := by decide)
    (hb : attributeBase (.Name c p) fl X.env (eval (.Name c p) X.env) = eval (.Name c p) X.env := by rfl) : PD X We [] (.Attribute (.Name c p) fl pos) (eC d) :=
  pe_imp (ClX.pe_cval (pe_glob (v := .ref C) hg hm rfl hdb) hb) fun σ H Q ⟨F, ρ, hF, hE, q⟩ => ⟨C, mc, v, u, rfl, hr, hv, q F H v (Ext.refl hF) (rd F)⟩
/-- a module's constant -/
theorem pd_glob {c : Str} {u : Value} {v : V} {d : D} (hm : X.mg c = some u) (r : RelV v u) (rd : ∀ F, Rep X.K X.mg F v d) (hg : Gl X c := by rfl) (hdb : (c == ("__debug__" : Str)) = false := by decide) : PD X We [] (.Name c pos) (eC d) :=
  pd_c (pe_glob hg hm r hdb) rd
end

/-! ### instances made -/
section
variable {X : Cx} {CX : CXT} {k : Nat} {f C : Addr} {fd : FuncData} {ps : List Str} {sp : Sp} {dvs : List V} {ds : List Value} {E : L2.St → XK} {x m : Str} {p pos apos : Pos} {e o : PySem.Expr} {es : List PySem.Expr} {ta : TE} {t : TA}
theorem run_makeS {pins : List (Addr × Obj)} {σ : L2.St} {H : Hp} {s : Shared} {Q : VK} {us : List Value} {vs : List V} (M : Mk X.K C f) (F : FnOk X.prog X.w X.K X.mg X.base CX k f fd ps sp) (hr : Room (k + 1) X.A) (hb : Binds X.K fd ps [])
    (hx : PassesAt CX X σ (E σ)) (I : Inv X pins σ H s) (r : Vals vs us)
    (h : ∀ x dx, H x = none → H dx = none → dx ≠ x → sp (.ref x :: vs) (upd (upd H dx (.own x)) x (.ins C dx [])) (fun v H2 => v = .non ∧ Q (.ref x) H2) (E σ)) :
    wpAny (model X.prog X.w) X.A (call (.ref C) us) (EP X pins σ Q) X.xe s := by
  have hq := h (s.heap.objs.size + 1) s.heap.objs.size (I.hok.fresh (Nat.le_succ _)) (I.hok.fresh (Nat.le_refl _)) (Nat.ne_of_lt (Nat.lt_succ_self _))
  have I2 := Inv.made (C := C) I
  have r2 : Vals (V.ref (s.heap.objs.size + 1) :: vs) (Value.ref (s.heap.objs.size + 1) :: us) := .cons rfl r
  have hl : (Value.ref (s.heap.objs.size + 1) :: us).length = ps.length := by
    have e := r2.length
    rw [F.len _ _ _ _ hq] at e
    exact e.symm
  have hb2 := hb _ (Value.ref (s.heap.objs.size + 1) :: us) I2.kIn (by rw [List.append_nil]; exact hl)
  rw [List.append_nil] at hb2
  refine wpAny_call (make_map (f := f) I.kIn M.makes M.init (beq_iff_eq.mp M.fn) (codeAny_mono (F.run _ X.stack _ _ ⟨Value.ref (s.heap.objs.size + 1) :: us, []⟩ (Value.ref (s.heap.objs.size + 1) :: us) _ _ (E σ) (hr.make C us [])
    (I2.env0.make C us []) hb2 r2 hq) fun r s' hq' => ?_))
  cases r with
  | error e => exact hx pins _ _ e s' I2 hq'
  | ok fl =>
    cases fl with
    | ret u =>
      obtain ⟨v, H', I3, rv, ev, q3⟩ := I2.after hq'
      subst ev
      exact ⟨rv, ⟨V.ref (s.heap.objs.size + 1), H', I3, rfl, q3⟩⟩
    | next => exact False.elim hq'
    | brk => exact False.elim hq'
    | cont => exact False.elim hq'
def tMakeS (C : Addr) (sp : Sp) (E : L2.St → XK) (t : TA) : TE := fun σ H Q => t σ H fun vs H1 => ∀ x dx, H1 x = none → H1 dx = none → dx ≠ x →
  sp (.ref x :: vs) (upd (upd H1 dx (.own x)) x (.ins C dx [])) (fun v H2 => v = .non ∧ Q (.ref x) H2) (E σ)
theorem pe_makeS (M : Mk X.K C f) (F : FnOk X.prog X.w X.K X.mg X.base CX k f fd ps sp) (hr : Room (k + 1) X.A) (hg : Gl X x) (hm : X.mg x = some (.ref C)) (hb : Binds X.K fd ps []) (hx : ∀ σ, PassesAt CX X σ (E σ))
    (ha : PA X (e :: es) t) (hdb : (x == ("__debug__" : Str)) = false := by decide) (he : starEach (e :: es) X.env = (false, eval e X.env) :: starEach es X.env := by rfl) (hpl : (backTo pos (starEach es X.env)).any (·.1) = false := by rfl) :
    PE X (.Call (.Name x p) (e :: es) [] pos) (tMakeS C sp E t) := by
  refine ⟨fun pins s σ H Q I h => ?_⟩
  refine wpAny_Call_Name_kw (ld_glob I hg hm ?_ hdb)
  refine PySem.W.callWith_K (h₀ := X.base) I.ok.mod.kin M.kp (thn (ha.run pos pins s σ H _ I h) fun us s1 ⟨vs, H1, I1, r, q⟩ => ⟨I1.kIn, ?_⟩) he hpl
  exact run_makeS M F hr hb (hx σ) I1 r q
end
/-- C(..) as data -/
def mkD (c : Str) (n : Nat) (m : List D → Res (List Str × List D)) : List D → Res D := fun ds => if ds.length + 1 = n then (m ds).bind fun r => .ok (.obj c r.1 r.2) else .st
end DL
set_option Elab.async false
set_option linter.all false
set_option maxRecDepth 100000
set_option maxHeartbeats 1000000
/-! DL7: instances that are made, and that are walked. -/
namespace DL
open PySem PySem.Spec PyProof.Rows L2

/-! ### self.f = e -/
def putN (f : Str) : List Str → List Str
  | [] => [f]
  | n :: ns => if n = f then n :: ns else n :: putN f ns
def putD (f : Str) (d : D) : List Str → List D → List D
  | n :: ns, x :: xs => if n = f then d :: xs else x :: putD f d ns xs
  | _, _ => [d]
theorem putF_names (f : Str) (v : V) : ∀ fv : List (Str × V), (putF f v fv).map (·.1) = putN f (fv.map (·.1))
  | [] => rfl
  | (g, x) :: r => by
    show (if g = f then (g, v) :: r else (g, x) :: putF f v r).map (·.1) = if g = f then g :: r.map (·.1) else g :: putN f (r.map (·.1))
    split
    · rfl
    · rw [List.map_cons, putF_names f v r]
theorem putF_rep {K : PySem.W.Frag} {mg : Str → Option Value} {F : Hp} (f : Str) {v : V} {d : D} (rv : Rep K mg F v d) : ∀ {fv : List (Str × V)} {ds : List D}, RepAll K mg F (fv.map (·.2)) ds → RepAll K mg F ((putF f v fv).map (·.2)) (putD f d (fv.map (·.1)) ds)
  | [], ds, r => by
    cases ds with
    | nil => exact .cons rv .nil
    | cons a b => cases r
  | (g, x) :: fv, ds, r => by
    cases ds with
    | nil => cases r
    | cons y ys =>
      cases r with
      | cons a b =>
        show RepAll K mg F ((if g = f then (g, v) :: fv else (g, x) :: putF f v fv).map (·.2)) (if g = f then d :: ys else y :: putD f d (fv.map (·.1)) ys)
        split
        · exact .cons rv b
        · exact .cons a (putF_rep f rv b)
def sAttr (k : Bool) (S : List Nat) (cs : List Str) (i : Nat) (fl : Str) (f : DEnv → Res D) : DEnv → SRes := fun ρ => after (f ρ) ρ fun d => rest k S (fun b => d.nlx b) ρ fun ρ' => match ρ'[i]? with
  | some (.obo t c ns fs) => if cs.contains c = true ∧ ns.length < 1000 then .nx (ρ'.set i (.obo t c (putN fl ns) (putD fl d ns fs))) else .st
  | _ => .st
section
variable {X : Cx} {fr : Bool} {We : WX} {S : List Nat} {e : PySem.Expr} {fe : DEnv → Res D} {fl x : Str} {p pos pos' : Pos}
theorem sd_attr (k : Bool) (cs : List Str) (i : Nat) (hc : ∀ c ∈ cs, ∃ C fs, ClD X.K X.mg c C fs ∧ fl ∈ fs) (he : PD X We S e fe) (hN : X.N[i]? = some x := by rfl) (hv : Vis X.env.scope x := by first | exact Or.inl rfl | exact Or.inr (Or.inl rfl) | exact Or.inr (Or.inr rfl)) (hd : (x == ("__debug__" : Str)) = false := by decide)
    (hcd : (x == ("__classdict__" : Str)) = false := by decide) (hs : swapsWith e (some (.Attribute (.Name x p) fl pos')) pos.line X.env = pure false := by rfl) :
    SD X fr We (.Assign [.Attribute (.Name x p) fl pos'] e pos) (sAttr k S cs i fl fe) :=
  ps_imp (ps_fld (pe_var (i := i) hN hv hd hcd) he hs) fun E σ H ⟨B, F, ρ, e, h⟩ => OutS.evalD e h fun F' H' v d ρ' e' r q => by
    cases h1 : ρ'[i]? with
    | none => rw [h1] at q; exact q.elim
    | some s =>
      rw [h1] at q
      cases s with
      | un => exact q.elim
      | d d => exact q.elim
      | own t xs => exact q.elim
      | obo t c ns fs =>
        have q : OutS X.K X.mg fr We B E (if cs.contains c = true ∧ ns.length < 1000 then .nx (ρ'.set i (.obo t c (putN fl ns) (putD fl d ns fs))) else .st) := q
        by_cases z : cs.contains c = true ∧ ns.length < 1000
        · rw [if_pos z] at q
          obtain ⟨C', fs', cd, hf⟩ := hc c (by simpa using z.1)
          obtain ⟨a, C, dx, fv, a1, a2, a3, m, a4, n, a5, a6⟩ := e'.sl i _ h1
          rw [cd.gl] at m; cases m
          refine ⟨_, a1, a, C', dx, fv, rfl, a4, cd.cl, cd.na fl hf, ?_, q F' σ _ (e'.mutO h1 rfl a1 ?_)⟩
          · have : fv.length = ns.length := by rw [← n, List.length_map]
            omega
          · subst n
            exact ⟨a, C', dx, _, rfl, a2, a3, cd.gl, upd_same, putF_names fl v fv, putF_rep fl r a5, a6⟩
        · rw [if_neg z] at q; exact q.elim
end

/-! ### __init__ -/
def hideA (H : Hp) (x : Addr) : Hp := fun b => if b = x then none else H b
theorem hideA_same {H : Hp} {x : Addr} : hideA H x x = none := if_pos rfl
theorem hideA_ne {H : Hp} {x b : Addr} (h : b ≠ x) : hideA H x b = H b := if_neg h
theorem hideA_some {H : Hp} {x b : Addr} {o : HO} (h : hideA H x b = some o) : b ≠ x ∧ H b = some o := by
  by_cases z : b = x
  · subst z; rw [hideA_same] at h; cases h
  · rw [hideA_ne z] at h; exact ⟨z, h⟩
/-- an __init__: the instance at x gets the fields that m tells -/
def spI (K : PySem.W.Frag) (mg : Str → Option Value) (C : Addr) (n : Nat) (m : List D → Res (List Str × List D)) : Sp := fun vs H Q E => vs.length = n ∧ ∃ x dx rest F ds, vs = .ref x :: rest ∧ H x = some (.ins C dx []) ∧ F x = none ∧ Same F H ∧ RepAll K mg F rest ds ∧
  match m ds with
  | .ok r => ∀ F' H' dx' fv, Ext F (hideA H x) F' H' → F' x = none → H' x = some (.ins C dx' fv) → fv.map (·.1) = r.1 → RepAll K mg F' (fv.map (·.2)) r.2 → Q .non H'
  | .er z => ∀ cc d H', Same (hideA H x) H' → mg z.c = some (.ref cc) → XFs K mg (hideA H x) H' d z.ns z.fs → E (.ref cc) d H'
  | .st => False
abbrev FnI (P : Program) (w : World) (K : PySem.W.Frag) (mg : Str → Option Value) (base : Heap) (k : Nat) (f : Addr) (fd : FuncData) (ps : List Str) (C : Addr) (m : List D → Res (List Str × List D)) : Prop :=
  FnOk P w K mg base (L2.CX P w) k f fd ps (spI K mg C ps.length m)
section
variable {X : Cx} {We : WX} {S : List Nat} {k j : Nat} {f C : Addr} {fd : FuncData} {ps : List Str} {m : List D → Res (List Str × List D)} {c : Str} {p pos : Pos} {e : PySem.Expr} {es : List PySem.Expr} {g : DEnv → Res (List D)}
theorem pd_make (tk : Takes X We) (hr : Room k X.A) (hjk : j + 1 ≤ k) (M : Mk X.K C f) (F : FnI X.prog X.w X.K X.mg X.base j f fd ps C m) (hm : X.mg c = some (.ref C)) (hb : Binds X.K fd ps [])
    (ha : PAD X We S (e :: es) g) (hg : Gl X c := by rfl) (hdb : (c == ("__debug__" : Str)) = false := by decide) (he : starEach (e :: es) X.env = (false, eval e X.env) :: starEach es X.env := by rfl) (hpl : (backTo pos (starEach es X.env)).any (·.1) = false := by rfl) :
    PD X We S (.Call (.Name c p) (e :: es) [] pos) (eL (mkD c ps.length m) g) :=
  pe_imp (pe_makeS M F (hr.mono hjk) hg hm hb (fun σ => passAt tk σ) ha hdb he hpl) fun σ H Q ⟨F, ρ, hF, hE, q⟩ => ⟨F, ρ, hF, hE, Out.bind q fun ds F1 H1 vs ex r q1 => by
    intro x dx nx nd ne
    unfold mkD at q1
    by_cases hl : ds.length + 1 = ps.length
    · rw [if_pos hl] at q1
      have s1 : Same H1 (upd (upd H1 dx (.own x)) x (.ins C dx [])) := (same_upd nd).trans (same_upd (by rw [upd_ne (Ne.symm ne)]; exact nx))
      have s2 : Same H1 (hideA (upd (upd H1 dx (.own x)) x (.ins C dx [])) x) := fun b o q => by
        rw [hideA_ne (ne_of_none q nx)]; exact s1 _ _ q
      refine ⟨by rw [List.length_cons, r.length]; exact hl, x, dx, vs, F1, ds, rfl, upd_same, ex.2.1.free nx, ex.2.1.trans s1, r, ?_⟩
      cases hmd : m ds with
      | st => rw [hmd] at q1; exact q1.elim
      | er z =>
        rw [hmd] at q1
        intro cc d H' k1 mc xf
        exact q1 cc d H' (s2.trans k1) mc (xf.back s2)
      | ok rr =>
        rw [hmd] at q1
        intro F' H' dx' fv e1 e5 e6 e7 e8
        refine ⟨rfl, q1 (upd F' x (.ins C dx' fv)) H' _ ⟨e1.1.trans (same_upd e5), fun b o q => ?_, s2.trans e1.2.2.1, fun b o q => ?_⟩ (.obj hm upd_same e7 (e8.mono (same_upd e5)))⟩
        · by_cases z : b = x
          · subst z; rw [upd_same] at q; cases q; exact e6
          · rw [upd_ne z] at q; exact e1.2.1 _ _ q
        · have z : b ≠ x := ne_of_none q nx
          rw [upd_ne z]
          exact e1.2.2.2 b o (s2 _ _ q)
    · rw [if_neg hl] at q1; exact q1.elim⟩
end
/-- an __init__'s body as a function of its arguments -/
def mI (nN : Nat) (c : Str) (g : DEnv → SRes) : List D → Res (List Str × List D) := fun ds => match g (Slot.obo true c [] [] :: ds.map Slot.d ++ List.replicate (nN - (ds.length + 1)) Slot.un) with
  | .nx ρ => match ρ[0]? with
    | some (Slot.obo true c' ns fs) => if c' = c then .ok (ns, fs) else .st
    | _ => .st
  | .er x _ => .er x
  | _ => .st
theorem envS_init {K : PySem.W.Frag} {mg : Str → Option Value} {F H : Hp} {N : List Str} {vs : List V} {ds : List D} {x C dx : Addr} {c : Str} (hm : mg c = some (.ref C)) (hx : H x = some (.ins C dx [])) (fx : F x = none) (hF : Same F H) (r : RepAll K mg F vs ds) :
    EnvS K mg ⟨F, hideA H x, fun _ => x⟩ F (L2.start N (.ref x :: vs)) H (.obo true c [] [] :: ds.map Slot.d ++ List.replicate (N.length - (ds.length + 1)) .un) := by
  have hl := r.length
  have isO : ∀ (i : Nat) s, (Slot.obo true c [] [] :: ds.map Slot.d ++ List.replicate (N.length - (ds.length + 1)) .un)[i]? = some s → s.isO = true → i = 0 := fun i s h o => by
    cases i with
    | zero => rfl
    | succ i =>
      rw [List.cons_append, List.getElem?_cons_succ] at h
      by_cases hi : i < ds.length
      · rw [List.getElem?_append_left (by simpa using hi), List.getElem?_map] at h
        cases hd : ds[i]? with
        | none => rw [hd] at h; cases h
        | some d => rw [hd] at h; cases h; cases o
      · rw [List.getElem?_append_right (by simpa using hi), List.getElem?_replicate] at h
        split at h
        · cases h; cases o
        · cases h
  refine ⟨fun p o (q : F p = some o) => ?_, Same.refl _, hF, fun p o q => (hideA_some q).2, fun _ _ _ => rfl, ?_, fun i s h => ?_, fun i j a s t h1 h2 o1 o2 _ _ => by rw [isO i s h1 o1, isO j t h2 o2]⟩
  · show hideA H x p = some o
    rw [hideA_ne (fun z => by rw [z, fx] at q; cases q)]
    exact hF _ _ q
  · unfold L2.start; simp [hl]
  · cases i with
    | zero =>
      cases h
      refine ⟨x, C, dx, [], ?_, fx, hideA_same, hm, hx, rfl, .nil, fun _ => rfl⟩
      unfold L2.start
      rfl
    | succ i =>
      rw [List.cons_append, List.getElem?_cons_succ] at h
      by_cases hi : i < ds.length
      · rw [List.getElem?_append_left (by simpa using hi), List.getElem?_map] at h
        cases hd : ds[i]? with
        | none => rw [hd] at h; cases h
        | some d =>
          rw [hd] at h
          cases h
          obtain ⟨v, hv, rv⟩ := r.get hd
          refine ⟨v, ?_, rv⟩
          unfold L2.start
          rw [List.map_cons, List.cons_append, List.getElem?_cons_succ, List.getElem?_append_left (by rw [List.length_map, hl]; exact hi), List.getElem?_map, hv]
          rfl
      · rw [List.getElem?_append_right (by simpa using hi), List.getElem?_replicate] at h
        split at h
        · cases h; trivial
        · cases h
theorem fni_of {P : Program} {w : World} {K : PySem.W.Frag} {mg : Str → Option Value} {base : Heap} {x qual c : Str} {st : Stmt} {f C : Addr} {fd : FuncData} {N ps : List Str} {k : Nat} {g : DEnv → SRes}
    (F : Fun K x qual st f fd) (S : FnScope N ps (defScope st)) (hm : mg c = some (.ref C))
    (hb : ∀ (cdv : Value) (A : Around) (outer : List Env) (s : Shared) (H : Hp) (E : XK), Room k (A.deeper (envOfC qual (defScope st) s.heap.objs.size f cdv)) →
      SDs (cxOf (L2.CX P w) P w K mg base N qual (defScope st) f cdv A outer s H E) false (fun c d _ H' => E c d H') (defBody st) g) : FnI P w K mg base (k + 1) f fd ps C (mI N.length c g) := by
  refine F.okX S (fun vs H Q E h => h.1) fun cdv A outer s H vs Q E hr h => ⟨_, hb cdv A outer s H E hr, ?_⟩
  obtain ⟨hl, x, dx, rest, F', ds, rfl, hx, fx, hF, r, q⟩ := h
  refine ⟨_, F', _, envS_init hm hx fx hF r, ?_⟩
  unfold mI at q
  cases hg : g (.obo true c [] [] :: ds.map Slot.d ++ List.replicate (N.length - (ds.length + 1)) .un) with
  | nx ρ =>
    rw [hg] at q
    intro F2 σ2 H2 e
    cases h0 : ρ[0]? with
    | none => simp only [h0] at q
    | some s =>
      simp only [h0] at q
      cases s with
      | un => exact q.elim
      | d d => exact q.elim
      | own t xs => exact q.elim
      | obo t c' ns fs =>
        cases t with
        | false => exact q.elim
        | true =>
          by_cases hc : c' = c
          · subst hc
            simp only [if_pos] at q
            obtain ⟨a, C', dx', fv, a1, a2, a3, m, a4, n, a5, a6⟩ := e.sl 0 _ h0
            have m : mg c' = some (.ref C') := m
            rw [hm] at m; cases m
            have : x = a := a6 rfl
            subst this
            exact q F2 H2 dx' fv e.ext a2 a4 n a5
          · simp only [if_neg hc] at q
  | rt d => rw [hg] at q; exact q.elim
  | er z ρ => rw [hg] at q; exact fun F2 σ2 H2 C d e m z => q C d H2 e.hh m z
  | bk ρ => rw [hg] at q; exact q.elim
  | ct ρ => rw [hg] at q; exact q.elim
  | st => rw [hg] at q; exact q.elim
end DL
set_option Elab.async false
set_option linter.all false
set_option maxRecDepth 100000
set_option maxHeartbeats 1000000
/-! DL8: instances that are walked: __iter__ is return iter(self.f), f a tuple. -/
namespace DL
open PySem PySem.Spec PyProof.Rows L2

/-- at it a tuple's iterator at its start -/
def TiO (l it : Addr) : HO := .ext fun h => h.IsTupleIter it l 0
theorem tiO_ok {P : Program} {w : World} {H : Hp} {h : Heap} {l it : Addr} (e : h.IsTupleIter it l 0) : ObjOk P w H h it (TiO l it) :=
  ⟨e, by obtain ⟨o, e, _⟩ := e; exact ⟨o, e⟩, fun h1 h2 q k => by obtain ⟨o, e, r⟩ := q; exact ⟨o, k _ e, r⟩⟩
theorem go_iterT {prog : Program} {w : World} {A : Around} {E : Value → Shared → Prop} {s : Shared} {l : Addr} {items : Array Value} {Q : Value → Shared → Prop} (ht : s.heap.IsTuple l items)
    (h : Q (.ref s.heap.objs.size) { s with heap := s.heap.push { cls := .type "tuple_iterator", data := .fields #[.ref l, .int 0 0] } }) : wpAny (model prog w) A (call (.builtin "iter") [.ref l]) Q E s := by
  refine Calls.call_function_entry (by decide +kernel) (by decide +kernel) PySem.W.kdk_entry_iter (PySem.W.kdk_args_iter _) ?_
  unfold Builtin.«iter»
  refine wpAny_bind (m := someArgs "iter" 1 2 _) (wpAny_of_eq (a := [Value.ref l]) (by first | rfl | kernel_rfl!) ?_)
  show wpAny _ _ (pyIter (.ref l) >>= _) _ _ _
  refine wpAny_bind (wpAny_pyIter_tuple ht ?_)
  exact wpAny_pure ⟨_, rfl, h⟩
def rIterT (K : PySem.W.Frag) (n : Nat) : List V → Hp → VK → Prop := fun xs H Q => ∃ (l : Addr) (zs : List V), xs = [.ref l] ∧ SqT K H l zs ∧ ∀ it, H it = none → n ≤ it → Q (.ref it) (upd H it (TiO l it))
theorem call_iterT {X : Cx} : CallR X (.builtin "iter") (rIterT X.K X.s_0.heap.objs.size) := by
  intro pins s σ H xs us Q I r h
  obtain ⟨l, zs, rfl, hq, q⟩ := h
  obtain ⟨u, rfl, ru⟩ := vals1 r
  cases ru
  obtain ⟨its, rv, pl, hz⟩ := I.tuple hq
  refine go_iterT (show s.heap.IsTuple l its.toArray from pl) ?_
  exact ⟨.ref s.heap.objs.size, _, I.laid (t' := s.toks) (fun b u e => Heap.get?_push_of_some _ e) (Nat.le_refl _) (tiO_ok ⟨_, Heap.get?_push_size _ rfl, rfl, rfl⟩), rfl, q _ (I.hok.fresh (Nat.le_refl _)) I.sz⟩

/-- what __iter__ promises -/
def spIt (K : PySem.W.Frag) (C : Addr) (fl : Str) (n : Nat) : Sp := fun vs H Q E => ∃ a dx fs l zs, vs = [.ref a] ∧ H a = some (.ins C dx fs) ∧ fs.lookup fl = some (.ref l) ∧ SqT K H l zs ∧ ∀ it, H it = none → n ≤ it → Q (.ref it) (upd H it (TiO l it))
/-- a def that may look at where the heap ends -/
def FnS (P : Program) (w : World) (K : PySem.W.Frag) (mg : Str → Option Value) (base : Heap) (k : Nat) (f : Addr) (fd : FuncData) (ps : List Str) (sp : Nat → Sp) : Prop :=
  ∀ (A : Around) (outer : List Env) (s : Shared) (H : Hp) (args : Args) (us : List Value) (vs : List V) (Q : VK) (E : XK), Room k A → Env0 P w K mg base A outer s H → BindsTo s fd args (ps.zip us) → Vals vs us → vs.length = ps.length → sp s.heap.objs.size vs H Q E →
    codeAny (model P w) A (.call (.ref f) args) (CR (L2.CX P w) outer P w H s Q E) s
theorem fns_of {P : Program} {w : World} {K : PySem.W.Frag} {mg : Str → Option Value} {base : Heap} {x qual : Str} {st : Stmt} {f : Addr} {fd : FuncData} {N ps : List Str} {k : Nat} {sp : Nat → Sp}
    (F : Fun K x qual st f fd) (S : FnScope N ps (defScope st))
    (hbody : ∀ (cdv : Value) (A : Around) (outer : List Env) (s : Shared) (H : Hp) (vs : List V) (Q : VK) (E : XK), Room k (A.deeper (envOfC qual (defScope st) s.heap.objs.size f cdv)) → sp s.heap.objs.size vs H Q E →
      ∃ t, PSs (cxOf (L2.CX P w) P w K mg base N qual (defScope st) f cdv A outer s H E) (defBody st) t ∧ t { nx := fun _ H' => Q .non H', rt := Q } (L2.start N vs) H) : FnS P w K mg base (k + 1) f fd ps sp := by
  intro A outer s H args us vs Q E hr e0 hb r hl hsp
  obtain ⟨oc, od, kV, doc, pm, an, cdv, ct, osl, rfl, lk, hcd⟩ := F.ex
  have KX : K.In s.heap := e0.mod.kin.keeps fun b o e => (e0.bs b o e).1
  have lim : s.heap.NoLimit := e0.mod.nolimit.keeps fun b o e => (e0.bs b o e).1
  have hkind : ∀ y ∈ ps.zip us, (defScope st).names.lookup y.1 = some .local ∨ ((defScope st).names.lookup y.1 = some .cell ∧ ((cellsFrom (s.heap.objs.size + 1) (defScope st).names []).lookup y.1).isSome = true) := fun ⟨n, v⟩ hy => by
    rcases S.par n (List.of_mem_zip hy).1 with q | q
    · exact .inl q
    · exact .inr ⟨q, PySem.W.cellsFrom_some _ _ _ (.inl q)⟩
  refine codeAny_call_function hr.depth (KX _ _ lk) rfl S.co S.gen rfl (PySem.W.codeRec_of KX hcd) (hb _ _ _ _ ?_)
  refine wpAny_newFunctionEnv_cells S.kind hkind fun env he s1 x => ?_
  subst he
  refine ⟨lim.keeps x.toInCall.keep, codeAny_func ?_⟩
  obtain ⟨t, ht, hq⟩ := hbody cdv A outer s H vs Q E (hr.deeper _) hsp
  have I : Inv (cxOf (L2.CX P w) P w K mg base N qual (defScope st) f cdv A outer s H E) [] (L2.start N vs) H s1 := inv_start S hr.hd e0 hl r x
  refine wpAny_mono (ht.run [] s1 (L2.start N vs) H _ I hq) (fun fl s' hs => ?_) fun e s' hs => hs
  cases fl with
  | ret u =>
    obtain ⟨v, σ', H', J, rv, q⟩ := hs
    exact ⟨v, H', J.os, J.bare, J.base, J.hok, rv, q⟩
  | next =>
    obtain ⟨σ', H', J, q⟩ := hs
    exact ⟨V.non, H', J.os, J.bare, J.base, J.hok, rfl, q⟩
  | brk =>
    obtain ⟨_, _, _, q⟩ := hs
    exact False.elim q
  | cont =>
    obtain ⟨_, _, _, q⟩ := hs
    exact False.elim q
/-- return iter(self.f) -/
theorem fnit_of {P : Program} {w : World} {K : PySem.W.Frag} {mg : Str → Option Value} {base : Heap} {x qual c fl : Str} {st : Stmt} {f C : Addr} {fd : FuncData} {k : Nat} {fs : List Str}
    (F : Fun K x qual st f fd) (S : FnScope ["self"] ["self"] (defScope st)) (cd : ClD K mg c C fs) (hf : fl ∈ fs) (hi : mg "iter" = none)
    (hb : ∀ (cdv : Value) (A : Around) (outer : List Env) (s : Shared) (H : Hp) (E : XK), PSs (cxOf (L2.CX P w) P w K mg base ["self"] qual (defScope st) f cdv A outer s H E) (defBody st) (tRet (tCB (rIterT K s.heap.objs.size) (tCons (tFld K (tVar 0) fl) tNil)))) : FnS P w K mg base (k + 1) f fd ["self"] (spIt K C fl) := by
  refine fns_of F S fun cdv A outer s H vs Q E hr h => ⟨_, hb cdv A outer s H E, ?_⟩
  obtain ⟨a, dx, fv, l, zs, rfl, ha, hl, hq, q⟩ := h
  exact ⟨_, rfl, a, C, dx, fv, _, rfl, ha, cd.cl, cd.na fl hf, hl, l, zs, rfl, hq, q⟩

/-- an instance of c that is walked by its tuple fl -/
def itO (c fl : Str) : D → Res (List D)
  | .obj c' ns fs => if c' = c then match lookD ns fs fl with
    | some (.tup xs) => .ok xs
    | _ => .st
    else .st
  | _ => .st
section
variable {X : Cx} {We : WX} {S : List Nat} {tg e : PySem.Expr} {f : DEnv → Res D} {c fl : Str} {C fi : Addr} {fd : FuncData} {k j : Nat}
theorem id_own (hr : Room k X.A) (hjk : j ≤ k) (hm : X.mg c = some (.ref C)) (hs : PySem.W.findIn X.K (.ref C) "__iter__" = some (some (.ref fi))) (hf : PySem.W.isFn X.K (.ref fi) = true) (FI : FnS X.prog X.w X.K X.mg X.base j fi fd ["self"] (spIt X.K C fl)) (bI : Binds X.K fd ["self"] [])
    (he : PD X We S e f) : ID X We S tg e (e1 (itO c fl) f) := by
  refine ⟨fun pins s σ H R I ⟨F, ρ, hF, hE, q⟩ => ?_⟩
  refine thn (he.run pins s σ H (fun v H1 => ∃ a dx fv l zs ds F1, v = .ref a ∧ H1 a = some (.ins C dx fv) ∧ fv.lookup fl = some (.ref l) ∧ SqT X.K H1 l zs ∧ SqT X.K F1 l zs ∧ RepAll X.K X.mg F1 zs ds ∧ ∀ J, ItD X.K X.mg J F1 ds → R J H1) I ⟨F, ρ, hF, hE, ?_⟩) fun v s1 ⟨x, H1, I1, r1, a, dx, fv, l, zs, ds, F1, ex, ha, hl, hq, hq1, rd, qj⟩ => ?_
  · have q : Out X.K X.mg We (RI X.K X.mg) F H σ R ((f ρ).bind (itO c fl)) := q
    refine Out.bind q fun d F1 H1 v ex r q1 => ?_
    cases d with
    | obj c' ns ds =>
      have q1 : Out X.K X.mg We (RI X.K X.mg) F1 H1 σ R (if c' = c then match lookD ns ds fl with | some (.tup xs) => .ok xs | _ => .st else .st) := q1
      by_cases hc : c' = c
      · subst hc
        rw [if_pos rfl] at q1
        cases hl : lookD ns ds fl with
        | none => rw [hl] at q1; exact q1.elim
        | some d =>
          rw [hl] at q1
          cases d with
          | tup xs =>
            cases r with
            | obj g ha n r =>
              rw [hm] at g; cases g
              obtain ⟨w, hw, rw'⟩ := RepAll.look n r hl
              cases rw' with
              | tup sq ra => exact ⟨_, _, _, _, _, xs, F1, rfl, ex.2.1 _ _ ha, hw, SqT.same ex.2.1 sq, sq, ra, fun J hj => q1 F1 H1 J (Ext.refl ex.2.1) hj⟩
          | _ => exact q1.elim
      · rw [if_neg hc] at q1; exact q1.elim
    | _ => exact q1.elim
  · subst ex
    obtain rfl : v = Value.ref a := r1
    obtain ⟨mA, J, _⟩ := ins_get I1.hok ha
    obtain ⟨od, J, _⟩ := J.look
    obtain ⟨m0, hFr⟩ := I1.fr
    refine PySem.W.owit_iter hFr I1.ok.mod.kin J hs hf ?_
    have hsp : spIt X.K C fl s1.heap.objs.size [.ref a] H1 (fun v H2 => ∃ it, v = .ref it ∧ H1 it = none ∧ s1.heap.objs.size ≤ it ∧ H2 = upd H1 it (TiO l it)) (fun _ _ _ => False) :=
      ⟨a, dx, fv, l, zs, rfl, ha, hl, hq, fun it n1 n2 => ⟨it, rfl, n1, n2, rfl⟩⟩
    have r2 : Vals [V.ref a] [Value.ref a] := .cons rfl .nil
    refine wpAny_call (codeAny_mono (FI X.A X.stack s1 H1 ⟨[.ref a], []⟩ [.ref a] [.ref a] _ _ (hr.mono hjk) I1.env0 (by
      have := bI s1 [.ref a] I1.kIn rfl
      simpa using this) r2 rfl hsp) fun r s' hq' => ?_)
    cases r with
    | error e =>
      obtain ⟨_, _, _, _, _, _, _, _, _, _, _, _, z⟩ := hq'
      exact z.elim
    | ok flw =>
      cases flw with
      | next => exact False.elim hq'
      | brk => exact False.elim hq'
      | cont => exact False.elim hq'
      | ret u =>
        obtain ⟨v, H2, I2, rv, it, ev, n1, n2, eH⟩ := I1.after hq'
        subst ev
        obtain rfl : u = Value.ref it := rv
        subst eH
        have hit : upd H1 it (TiO l it) it = some (TiO l it) := upd_same
        have st : s'.heap.IsTupleIter it l 0 := (I2.hok it _ hit).1
        unfold PySem.W.OwitIt
        refine wpAny_specialOf (T := "tuple_iterator") (by obtain ⟨o, e, c, _⟩ := st; exact ⟨o, e, c⟩) PySem.F.slot_tuple_iterator_next.lookup ?_
        have hd : ItX.dropH (upd H1 it (TiO l it)) it = H1 := ItX.dropH_upd n1
        refine ⟨it, [it], _, Itt X.K l, H1, rfl, by rw [← hd]; exact ItX.inv_drop I2 hit, turn_tuple l it, st, fun b hb => ?_, qj _ (itd_tup hq1 rd)⟩
        have e : b = it := by simpa using hb
        rw [e, ← hd]
        exact ItX.inv_fp I2 hit (Nat.le_trans I1.sz n2)
end
end DL
set_option Elab.async false
set_option linter.all false
set_option maxRecDepth 100000
set_option maxHeartbeats 1000000
/-! DL9: generator defs, list(f(..)). -/
namespace DL
open PySem PySem.Spec PyProof.Rows L2

/-- what a generator's statement comes to: what it hands out, its end -/
abbrev GRes := List D × SRes
def OutG (K : PySem.W.Frag) (mg : Str → Option Value) (We : WX) (B : Bs) (G : GEnds) (acc : List D) : SRes → Prop
  | .nx ρ => ∀ F σ H ys, EnvS K mg B F σ H ρ → RepAll K mg F ys acc → G.nx ys σ H
  | .bk ρ => ∀ F σ H ys, EnvS K mg B F σ H ρ → RepAll K mg F ys acc → G.bk ys σ H
  | .ct ρ => ∀ F σ H ys, EnvS K mg B F σ H ρ → RepAll K mg F ys acc → G.ct ys σ H
  | .rt d => ∀ F H v ys, Ext B.F B.H F H → RepAll K mg F ys acc → Rep K mg F v d → G.rt ys v H
  | .er x ρ => ∀ F σ H C d, EnvS K mg B F σ H ρ → mg x.c = some (.ref C) → XFs K mg B.H H d x.ns x.fs → We (.ref C) d σ H
  | .st => False
def tGD (K : PySem.W.Frag) (mg : Str → Option Value) (We : WX) (g : DEnv → GRes) : TGn := fun G ys σ H => ∃ B F ρ acc, EnvS K mg B F σ H ρ ∧ RepAll K mg F ys acc ∧ (acc ++ (g ρ).1).length ≤ lim ∧ OutG K mg We B G (acc ++ (g ρ).1) (g ρ).2
abbrev GSD (X : Cx) (We : WX) (st : Stmt) (g : DEnv → GRes) : Prop := GS X st (tGD X.K X.mg We g)
abbrev GSDs (X : Cx) (We : WX) (st : List Stmt) (g : DEnv → GRes) : Prop := GSs X st (tGD X.K X.mg We g)
theorem gs_imp {X : Cx} {st : Stmt} {t t' : TGn} (h : GS X st t) (i : ∀ G ys σ H, t' G ys σ H → t G ys σ H) : GS X st t' :=
  ⟨fun A S ip R n ys s₀ c fs K J gd lv s σ H G g hn k hI ht => h.run A S ip R n ys s₀ c fs K J gd lv s σ H G g hn k hI (i G ys σ H ht)⟩
theorem gss_imp {X : Cx} {st : List Stmt} {t t' : TGn} (h : GSs X st t) (i : ∀ G ys σ H, t' G ys σ H → t G ys σ H) : GSs X st t' :=
  ⟨fun A S ip R n ys s₀ c fs K J gd lv s σ H G g hn k hI ht => h.run A S ip R n ys s₀ c fs K J gd lv s σ H G g hn k hI (i G ys σ H ht)⟩
def gPl (f : DEnv → SRes) : DEnv → GRes := fun ρ => ([], f ρ)
def gNil : DEnv → GRes := fun ρ => ([], .nx ρ)
def gSeq (f g : DEnv → GRes) : DEnv → GRes := fun ρ => match f ρ with
  | (a, .nx ρ') => (a ++ (g ρ').1, (g ρ').2)
  | r => r
section
variable {X : Cx} {We : WX} {st : Stmt} {rest' : List Stmt} {f g : DEnv → GRes} {e c : PySem.Expr} {S : List Nat} {pos yp : Pos}
section
variable {K : PySem.W.Frag} {mg : Str → Option Value} {B : Bs} {F1 H : Hp} {σ : L2.St} {ρ : DEnv} {G : GEnds} {acc : List D}
/-- seen from what stands still by now -/
theorem OutG.plain {ys : List V} (e : EnvS K mg B F1 σ H ρ) (r : RepAll K mg F1 ys acc) {z : SRes} (h : OutG K mg We B G acc z) : OutS K mg false We (B.b2 F1) (G.at ys) z := by
  cases z with
  | nx ρ' => exact fun F2 σ2 H2 q => h F2 σ2 H2 ys (e.unbase q) (r.mono q.ff)
  | bk ρ' => exact fun F2 σ2 H2 q => h F2 σ2 H2 ys (e.unbase q) (r.mono q.ff)
  | ct ρ' => exact fun F2 σ2 H2 q => h F2 σ2 H2 ys (e.unbase q) (r.mono q.ff)
  | rt d => exact fun F2 H2 v ex rv => h F2 H2 v ys ⟨e.ff.trans ex.1, ex.2.1, fun p o q => ex.2.2.1 _ _ (base2_H e.ag e.f0 q), fun p o q => (ex.2.2.2 p o (base2_H e.ag e.f0 q)).trans (e.ag p o q)⟩ (r.mono ex.1) rv
  | er x ρ' =>
    intro F2 σ2 H2 C d q m z
    refine h F2 σ2 H2 C d (e.unbase q) m ?_
    rcases z with z | ⟨dx, fv, h1, h2, h3⟩
    · exact .inl z
    · exact .inr ⟨dx, fv, h1, base2_none e.ag e.f0 h2, h3⟩
  | st => exact h
end
theorem RepAll.mono' {K : PySem.W.Frag} {mg : Str → Option Value} {F F' : Hp} {vs : List V} {ds : List D} (r : RepAll K mg F vs ds) (e : Same F F') : RepAll K mg F' vs ds := r.mono e
theorem gsd_pl {f : DEnv → SRes} (h : SD X false We st f) : GSD X We st (gPl f) :=
  gs_imp (gs_ps h) fun G ys σ H ⟨B, F, ρ, acc, e, r, hl, q⟩ => by
    have q : OutG X.K X.mg We B G (acc ++ []) (f ρ) := q
    rw [List.append_nil] at q
    exact ⟨B.b2 F, F, ρ, e.base, q.plain e r⟩
theorem gsds_pl {f : DEnv → SRes} (h : SDs X false We rest' f) : GSDs X We rest' (gPl f) :=
  gss_imp (gss_pss h) fun G ys σ H ⟨B, F, ρ, acc, e, r, hl, q⟩ => by
    have q : OutG X.K X.mg We B G (acc ++ []) (f ρ) := q
    rw [List.append_nil] at q
    exact ⟨B.b2 F, F, ρ, e.base, q.plain e r⟩
theorem gsds_nil : GSDs X We [] gNil := gss_imp gss_nil fun G ys σ H ⟨B, F, ρ, acc, e, r, hl, q⟩ => by
  have q : OutG X.K X.mg We B G (acc ++ []) (.nx ρ) := q
  rw [List.append_nil] at q
  exact q F σ H ys e r
theorem gsds_cons (h1 : GSD X We st f) (h2 : GSDs X We rest' g) : GSDs X We (st :: rest') (gSeq f g) :=
  gss_imp (gss_cons h1 h2) fun G ys σ H ⟨B, F, ρ, acc, e, r, hl, q⟩ => by
    refine ⟨B, F, ρ, acc, e, r, ?_⟩
    unfold gSeq at q hl
    cases hf : f ρ with
    | mk a z =>
      rw [hf] at q hl
      cases z with
      | nx ρ' =>
        have hl : (acc ++ (a ++ (g ρ').1)).length ≤ lim := hl
        refine ⟨by rw [← List.append_assoc, List.length_append] at hl; exact Nat.le_trans (Nat.le_add_right _ _) hl, fun F2 σ2 H2 ys2 e2 r2 => ?_⟩
        refine ⟨B, F2, ρ', acc ++ a, e2, r2, by rw [List.append_assoc]; exact hl, ?_⟩
        have q : OutG X.K X.mg We B G (acc ++ (a ++ (g ρ').1)) (g ρ').2 := q
        rw [List.append_assoc]
        exact q
      | bk ρ' => exact ⟨hl, q⟩
      | ct ρ' => exact ⟨hl, q⟩
      | rt d => exact ⟨hl, q⟩
      | er x ρ' => exact ⟨hl, q⟩
      | st => exact q.elim
def gYd (k : Bool) (S : List Nat) (f : DEnv → Res D) : DEnv → GRes := fun ρ => match f ρ with
  | .ok d => if k then (if d.nlx (hasO S ρ) then ([d], .nx ρ) else ([], .st)) else ([d], .nx (dem S ρ))
  | .er x => ([], .er x ρ)
  | .st => ([], .st)
/-- yield e -/
theorem gsd_yield (k : Bool) {fe : DEnv → Res D} (he : PD X We S e fe) (hco : X.env.scope.isCoroutine = false := by rfl) (hi : interactive X.env = false := by rfl) : GSD X We (.Expr (.Yield (some e) yp) pos) (gYd k S fe) := by
  refine gs_imp (gs_yield he hco hi) fun G ys σ H ⟨B, F, ρ, acc, e, r, hl, q⟩ => ?_
  obtain ⟨Fp, h1, h2, h3, h4⟩ := e.base.fz S
  unfold gYd at q hl
  have rl := r.length
  cases hf : fe ρ with
  | st => rw [hf] at q; exact q.elim
  | er x =>
    rw [hf] at q hl
    have hl : (acc ++ []).length ≤ lim := hl
    rw [List.append_nil] at hl
    refine ⟨by rw [rl]; exact Nat.lt_of_le_of_lt hl (by rw [sizeLine_eq]; decide), Fp, ρ, h1, h2, ?_⟩
    rw [hf]
    exact fun C d H' sm m z => q F σ H' C d (e.heap sm) m (z.back e.hh)
  | ok d =>
    rw [hf] at q hl
    cases k with
    | false =>
      have hl : (acc ++ [d]).length ≤ lim := hl
      rw [List.length_append, List.length_singleton] at hl
      refine ⟨by rw [rl]; exact lt_line hl, Fp, ρ, h1, h2, ?_⟩
      rw [hf]
      intro F' H' v ex rv
      have e3 := h3 F' H' ex
      exact q F' σ H' _ (e.unbase e3) ((r.mono e3.ff).append (.cons rv .nil))
    | true =>
      have q : OutG X.K X.mg We B G (acc ++ (if d.nlx (hasO S ρ) then ([d], .nx ρ) else ([], .st) : GRes).1) (if d.nlx (hasO S ρ) then ([d], .nx ρ) else ([], .st) : GRes).2 := q
      have hl : (acc ++ (if d.nlx (hasO S ρ) then ([d], .nx ρ) else ([], .st) : GRes).1).length ≤ lim := hl
      cases hn : d.nlx (hasO S ρ) with
      | false => rw [hn] at q; exact q.elim
      | true =>
        rw [hn] at q hl
        have hl : (acc ++ [d]).length ≤ lim := hl
        rw [List.length_append, List.length_singleton] at hl
        refine ⟨by rw [rl]; exact lt_line hl, Fp, ρ, h1, h2, ?_⟩
        rw [hf]
        intro F' H' v ex rv
        obtain ⟨F2, e2, l, _⟩ := h4 F' H' ex
        exact q F2 σ H' _ (e.unbase e2) ((r.mono e2.ff).append (.cons (rv.less l d v hn) .nil))
/-- while -/
def gWh (c : DEnv → Res Bool) (f : DEnv → GRes) : Nat → DEnv → GRes
  | 0, _ => ([], .st)
  | n + 1, ρ => match c ρ with
    | .ok true => match f ρ with
      | (a, .nx ρ') => (a ++ (gWh c f n ρ').1, (gWh c f n ρ').2)
      | (a, .ct ρ') => (a ++ (gWh c f n ρ').1, (gWh c f n ρ').2)
      | (a, .bk ρ') => (a, .nx ρ')
      | r => r
    | .ok false => ([], .nx ρ)
    | .er x => ([], .er x ρ)
    | .st => ([], .st)
theorem gsd_while (n : Nat) {body : List Stmt} {ce : DEnv → Res Bool} (hp : PassesOwn (model X.prog X.w) X.A X.env X.xe) (hc : PTD X We S c ce) (hb : GSDs X We body f) : GSD X We (.While c body [] pos) (gWh ce f n) :=
  gs_imp (gs_while hp hc hb) fun G ys σ H ⟨B, F, ρ, acc, e, r, hl, h⟩ => by
    refine ⟨fun m ys σ H => ∃ F ρ acc, EnvS X.K X.mg B F σ H ρ ∧ RepAll X.K X.mg F ys acc ∧ (acc ++ (gWh ce f m ρ).1).length ≤ lim ∧ OutG X.K X.mg We B G (acc ++ (gWh ce f m ρ).1) (gWh ce f m ρ).2, ⟨n, F, ρ, acc, e, r, hl, h⟩, fun m ys σ H ⟨F, ρ, acc, e, r, hl, h⟩ => ?_⟩
    cases m with
    | zero => exact h.elim
    | succ m =>
      unfold gWh at h hl
      obtain ⟨Fp, h1, h2, h3, h4⟩ := e.base.fz S
      refine ⟨Fp, ρ, h1, h2, ?_⟩
      cases hf : ce ρ with
      | st => rw [hf] at h; exact h.elim
      | er x =>
        rw [hf] at h
        exact fun C d H' sm m z => h F σ H' C d (e.heap sm) m (z.back e.hh)
      | ok b =>
        rw [hf] at h hl
        intro F' H' v ex rv
        have rv : v = b := rv
        subst rv
        obtain ⟨F2, e2', l, _⟩ := h4 F' H' ex
        have e2 := e.unbase e2'
        have r2 := r.mono e2'.ff
        cases v with
        | false =>
          rw [if_neg Bool.false_ne_true]
          have h : OutG X.K X.mg We B G (acc ++ []) (.nx ρ) := h
          rw [List.append_nil] at h
          exact h F2 σ H' ys e2 r2
        | true =>
          rw [if_pos rfl]
          refine ⟨fun ys σ H => ∃ F ρ acc, EnvS X.K X.mg B F σ H ρ ∧ RepAll X.K X.mg F ys acc ∧ (acc ++ (gWh ce f m ρ).1).length ≤ lim ∧ OutG X.K X.mg We B G (acc ++ (gWh ce f m ρ).1) (gWh ce f m ρ).2, fun ys' σ' H' h' => ⟨m, Nat.lt_succ_self m, h'⟩, ?_⟩
          refine ⟨B, F2, ρ, acc, e2, r2, ?_⟩
          cases hf2 : f ρ with
          | mk a z =>
            rw [hf2] at h hl
            have more : ∀ ρ' : DEnv, (acc ++ (a ++ (gWh ce f m ρ').1)).length ≤ lim → OutG X.K X.mg We B G (acc ++ (a ++ (gWh ce f m ρ').1)) (gWh ce f m ρ').2 → (acc ++ a).length ≤ lim ∧ ∀ F σ H ys, EnvS X.K X.mg B F σ H ρ' → RepAll X.K X.mg F ys (acc ++ a) →
                ∃ F ρ acc, EnvS X.K X.mg B F σ H ρ ∧ RepAll X.K X.mg F ys acc ∧ (acc ++ (gWh ce f m ρ).1).length ≤ lim ∧ OutG X.K X.mg We B G (acc ++ (gWh ce f m ρ).1) (gWh ce f m ρ).2 := fun ρ' hl h => by
              refine ⟨by rw [← List.append_assoc, List.length_append] at hl; exact Nat.le_trans (Nat.le_add_right _ _) hl, fun F3 σ3 H3 ys3 e3 r3 => ⟨F3, ρ', acc ++ a, e3, r3, by rw [List.append_assoc]; exact hl, by rw [List.append_assoc]; exact h⟩⟩
            cases z with
            | nx ρ' => exact more ρ' hl h
            | ct ρ' => exact more ρ' hl h
            | bk ρ' => exact ⟨hl, h⟩
            | rt d => exact ⟨hl, h⟩
            | er x ρ' => exact ⟨hl, h⟩
            | st => exact h.elim
end

/-! ### a generator def and list(f(..)) -/
def spG (K : PySem.W.Frag) (mg : Str → Option Value) (n : Nat) (m : List D → Res (List D)) : SpG := fun vs H Q E => vs.length = n ∧ ∃ F ds xs, Same F H ∧ RepAll K mg F vs ds ∧ m ds = .ok xs ∧ ∀ F' H' ys, Ext F H F' H' → RepAll K mg F' ys xs → Q ys H'
abbrev FnG (P : Program) (w : World) (K : PySem.W.Frag) (mg : Str → Option Value) (base : Heap) (k : Nat) (f : Addr) (fd : FuncData) (ps : List Str) (m : List D → Res (List D)) : Prop := GFn P w K mg base k f fd ps (spG K mg ps.length m)
/-- a generator's body as a function of its arguments: nothing is raised -/
def mG (nN : Nat) (g : DEnv → GRes) : List D → Res (List D) := fun ds => match g (ds.map Slot.d ++ List.replicate (nN - ds.length) .un) with
  | (ys, .nx _) => if ys.length ≤ lim then .ok ys else .st
  | (ys, .rt .non) => if ys.length ≤ lim then .ok ys else .st
  | _ => .st
theorem fng_of {P : Program} {w : World} {K : PySem.W.Frag} {mg : Str → Option Value} {base : Heap} {x qual : Str} {st : Stmt} {f : Addr} {fd : FuncData} {N ps : List Str} {k : Nat} {g : DEnv → GRes}
    (F : Fun K x qual st f fd) (S : GScope N ps (defScope st))
    (hb : ∀ (cdv : Value) (A : Around) (outer : List Env) (s : Shared) (H : Hp) (E : XK) (pn : List (Addr × Obj)), Room k (A.deeper (envOfC qual (defScope st) s.heap.objs.size f cdv)) →
      GSDs (gcxOf P w K mg base N qual (defScope st) f cdv A outer s H E pn) (fun c d _ H' => E c d H') (defBody st) g) : FnG P w K mg base (k + 1) f fd ps (mG N.length g) := by
  obtain ⟨oc, od, kV, doc, pm, an, cdv, ct, osl, rfl, lk, hcd⟩ := F.ex
  refine gfn_of lk hcd S (fun vs H Q E h => h.1) fun A outer s H vs Q E pn hr h => ⟨_, hb cdv A outer s H E pn hr, ?_⟩
  obtain ⟨hl, F', ds, xs, hF, r, hm, q⟩ := h
  refine ⟨_, F', _, [], envS_start hF r, .nil, ?_⟩
  unfold mG at hm
  cases hg : g (ds.map Slot.d ++ List.replicate (N.length - ds.length) .un) with
  | mk ys z =>
    rw [hg] at hm
    have key : ∀ z : SRes, (if ys.length ≤ lim then Res.ok ys else Res.st) = Res.ok xs → ([] ++ ys).length ≤ lim ∧ ys = xs := fun _ e => by
      by_cases hy : ys.length ≤ lim
      · rw [if_pos hy] at e; cases e; exact ⟨hy, rfl⟩
      · rw [if_neg hy] at e; cases e
    cases z with
    | nx ρ =>
      obtain ⟨h1, rfl⟩ := key .st hm
      exact ⟨h1, fun F2 σ2 H2 us e2 r2 => q F2 H2 us e2.ext r2⟩
    | rt d =>
      cases d with
      | non =>
        obtain ⟨h1, rfl⟩ := key .st hm
        exact ⟨h1, fun F2 H2 v us ex r2 rv => ⟨by cases rv; rfl, q F2 H2 us ex r2⟩⟩
      | _ => cases hm
    | bk ρ => cases hm
    | ct ρ => cases hm
    | er x ρ => cases hm
    | st => cases hm
def callG (n : Nat) (m : List D → Res (List D)) : List D → Res (List D) := fun ds => if ds.length = n then (match m ds with
  | .ok xs => .ok xs
  | _ => .st) else .st
section
variable {X : Cx} {We : WX} {S : List Nat} {k j : Nat} {f : Addr} {fd : FuncData} {ps : List Str} {m : List D → Res (List D)} {x : Str} {p p2 pos pos' : Pos} {e : PySem.Expr} {es : List PySem.Expr} {g : DEnv → Res (List D)}
theorem passE0 {X : Cx} : Passes (L2.CX X.prog X.w) X (fun _ _ _ => False) := fun pins σ H s e s' I h => by
  obtain ⟨_, _, _, _, _, _, _, _, _, _, _, _, z⟩ := h
  exact z.elim
theorem pf_listG (hr : Room k X.A) (hjk : j + 3 ≤ k) (F : FnG X.prog X.w X.K X.mg X.base j f fd ps m) (hm : X.mg x = some (.ref f)) (hk : PySem.W.keepIn X.K (.ref f) = true) (hb : Binds X.K fd ps []) (hml : X.mg "list" = none)
    (ha : PAD X We S (e :: es) g) (hg : Gl X x := by rfl) (hgl : Gl X "list" := by rfl) (hdb : (x == ("__debug__" : Str)) = false := by decide) (he : starEach (e :: es) X.env = (false, eval e X.env) :: starEach es X.env := by rfl) (hpl : (backTo pos' (starEach es X.env)).any (·.1) = false := by rfl)
    (he2 : starEach [.Call (.Name x p) (e :: es) [] pos'] X.env = (false, eval (.Call (.Name x p) (e :: es) [] pos') X.env) :: starEach [] X.env := by rfl) :
    PF X We S (.Call (.Name "list" p2) [.Call (.Name x p) (e :: es) [] pos'] [] pos) (eL (callG ps.length m) g) := by
  have hjk' : j ≤ k := Nat.le_trans (Nat.le_add_right _ _) hjk
  refine pe_imp (pe_listG (pgen_call (E := fun _ _ _ => False) F (hr.mono hjk') hg hm hk hb .nil ha hdb he hpl) passE0 (fun _ _ _ h => h.elim) (hr.mono hjk) hgl hml (by decide +kernel) (by decide) (by decide) he2) fun σ H Q ⟨F, ρ, hF, hE, q⟩ => ⟨F, ρ, hF, hE, Out.bind q fun ds F1 H1 vs ex r q1 => ?_⟩
  unfold callG at q1
  by_cases hl : ds.length = ps.length
  · rw [if_pos hl] at q1
    cases hmd : m ds with
    | er x => rw [hmd] at q1; exact q1.elim
    | st => rw [hmd] at q1; exact q1.elim
    | ok xs =>
      rw [hmd] at q1
      rw [List.append_nil]
      refine ⟨by rw [r.length]; exact hl, F1, ds, xs, ex.2.1, r, hmd, fun F' H' ys ex' r' p hp => ?_⟩
      exact q1 F' _ _ ⟨ex'.1, ex'.2.1.trans (same_upd hp), ex'.2.2.1.trans (same_upd hp), ex'.2.2.2⟩ ⟨p, ys, rfl, ex'.2.2.1.free hp, ex'.2.1.free hp, upd_same, r'⟩
  · rw [if_neg hl] at q1; exact q1.elim
end
end DL
set_option Elab.async false
set_option linter.all false
set_option maxRecDepth 100000
set_option maxHeartbeats 1000000
/-! DL10: enumerate, reversed. -/
namespace DL
open PySem PySem.Spec PyProof.Rows L2

def enumD (i : Nat) : List D → List D
  | [] => []
  | d :: ds => .tup [.int (i : Nat), d] :: enumD (i + 1) ds
theorem enumD_length : ∀ (ds : List D) (i : Nat), (enumD i ds).length = ds.length
  | [], _ => rfl
  | _ :: ds, i => by show (enumD (i + 1) ds).length + 1 = _; rw [enumD_length ds (i + 1)]; rfl
theorem enumD_get : ∀ (ds : List D) (i j : Nat), (enumD i ds)[j]? = (ds[j]?).map fun d => .tup [.int ((i + j : Nat) : Int), d]
  | [], _, _ => by simp [enumD]
  | d :: ds, i, 0 => rfl
  | d :: ds, i, j + 1 => by
    show (enumD (i + 1) ds)[j]? = (ds[j]?).map _
    rw [enumD_get ds (i + 1) j, show i + 1 + j = i + (j + 1) by omega]
def bEnum : List D → Res (List D)
  | [.lst xs] => .ok (enumD 0 xs)
  | _ => .st
def bRev : D → Res (List D)
  | .lst xs => .ok xs.reverse
  | .tup xs => .ok xs.reverse
  | _ => .st
theorem rev_get {α : Type} (xs : List α) (i : Nat) (h : i < xs.length) : xs.reverse[i]? = xs[xs.length - 1 - i]? := by
  rw [List.getElem?_reverse h]
section
variable {K : PySem.W.Frag} {mg : Str → Option Value} {F : Hp}
theorem itd_enum {a : Addr} {vs : List V} {ds : List D} (h : SqL K F a vs) (r : RepAll K mg F vs ds) : ItD K mg (Ite K a) F (enumD 0 ds) := fun i Fc H s1 s2 => by
  have q := SqL.same (s1.trans s2) h
  refine ⟨fun e => ⟨vs, q, by rw [r.length, e, enumD_length]; exact Nat.le_refl _⟩, fun d hd => ?_⟩
  rw [enumD_get] at hd
  cases hx : ds[i]? with
  | none => rw [hx] at hd; cases hd
  | some x =>
    rw [hx] at hd
    cases hd
    obtain ⟨v, hv, rv⟩ := r.get hx
    refine ⟨⟨vs, v, q, hv⟩, fun y H' z => ?_⟩
    obtain ⟨T, w, rfl, nT, rfl, hw⟩ := z
    have e := (hw vs q).symm.trans hv
    cases e
    refine ⟨upd Fc T (.tup [.int (i : Nat), v]), Ext.new s2 nT, .tup (SqT.of upd_same) ?_⟩
    rw [Nat.zero_add]
    exact .cons (.int _) (.cons ((rv.mono s1).mono (same_upd (s2.free nT))) .nil)
theorem itd_rev {a : Addr} {vs : List V} {ds : List D} (h : SqL K F a vs) (r : RepAll K mg F vs ds) : ItD K mg (Itv K a vs.length) F ds.reverse := fun i Fc H s1 s2 => by
  have q := SqL.same (s1.trans s2) h
  have hl := r.length
  refine ⟨fun e => by show vs.length ≤ i; rw [e, List.length_reverse, hl]; exact Nat.le_refl _, fun d hd => ?_⟩
  have hi : i < ds.length := by
    have := (List.getElem?_eq_some_iff.mp hd).1
    simpa using this
  rw [rev_get _ _ hi, ← hl] at hd
  obtain ⟨v, hv, rv⟩ := r.get hd
  refine ⟨⟨by omega, vs, v, q, hv⟩, fun x H' y => ?_⟩
  obtain ⟨e, y⟩ := y
  subst e
  have e := (y vs q).symm.trans hv
  cases e
  exact ⟨Fc, Ext.refl s2, rv.mono s1⟩
theorem itd_revT {a : Addr} {vs : List V} {ds : List D} (h : SqT K F a vs) (r : RepAll K mg F vs ds) : ItD K mg (RT.ItvT K a vs.length) F ds.reverse := fun i Fc H s1 s2 => by
  have q := SqT.same (s1.trans s2) h
  have hl := r.length
  refine ⟨fun e => by show vs.length ≤ i; rw [e, List.length_reverse, hl]; exact Nat.le_refl _, fun d hd => ?_⟩
  have hi : i < ds.length := by
    have := (List.getElem?_eq_some_iff.mp hd).1
    simpa using this
  rw [rev_get _ _ hi, ← hl] at hd
  obtain ⟨v, hv, rv⟩ := r.get hd
  refine ⟨⟨by omega, vs, v, q, hv⟩, fun x H' y => ?_⟩
  obtain ⟨e, y⟩ := y
  subst e
  have e := (y vs q).symm.trans hv
  cases e
  exact ⟨Fc, Ext.refl s2, rv.mono s1⟩
end
section
variable {X : Cx} {We : WX} {S : List Nat} {tg e : PySem.Expr} {p pos tpos : Pos} {elts : List PySem.Expr} {kk : Nat} {g : DEnv → Res (List D)} {f : DEnv → Res D}
theorem bEnum_ok {ds xs : List D} (h : bEnum ds = .ok xs) : ∃ ys, ds = [.lst ys] ∧ xs = enumD 0 ys := by
  unfold bEnum at h
  split at h
  · cases h; exact ⟨_, rfl, rfl⟩
  · cases h
theorem bEnum_ner {ds : List D} {x : Exn} (h : bEnum ds = .er x) : False := by
  unfold bEnum at h
  split at h <;> cases h
theorem id_enum (hm : X.mg "enumerate" = none) (ha : PAD X We S [e] g) (hg : Gl X "enumerate" := by rfl) (hs : starEach [e] X.env = [(false, eval e X.env)] := by rfl) : ID X We S (.Tuple elts kk tpos) (.Call (.Name "enumerate" p) [e] [] pos) (eL bEnum g) :=
  pi_imp (pi_enum hg hm ha hs) fun σ H R ⟨F, ρ, hF, hE, q⟩ => ⟨F, ρ, hF, hE, Out.bind q fun ds F1 H1 vs ex r q1 => by
    cases h2 : bEnum ds with
    | st => rw [h2] at q1; exact q1.elim
    | er x => exact (bEnum_ner h2).elim
    | ok xs =>
      rw [h2] at q1
      obtain ⟨ys, rfl, rfl⟩ := bEnum_ok h2
      obtain ⟨v, rfl, rv⟩ := r.one
      cases rv with
      | lst a b => exact ⟨_, _, rfl, SqL.same ex.2.1 a, q1 F1 H1 _ (Ext.refl ex.2.1) (itd_enum a b)⟩⟩
theorem id_rev (hm : X.mg "reversed" = none) (he : PD X We S e f) (hg : Gl X "reversed" := by rfl) (hs : starEach [e] X.env = (false, eval e X.env) :: starEach [] X.env := by rfl) : ID X We S tg (.Call (.Name "reversed" p) [e] [] pos) (e1 bRev f) :=
  pi_imp (RT.pi_revA hg hm he hs) fun σ H R ⟨F, ρ, hF, hE, q⟩ => ⟨F, ρ, hF, hE, Out.bind q fun d F1 H1 v ex r q1 => by
    cases d with
    | lst xs =>
      cases r with
      | lst a b => exact ⟨_, _, rfl, .inl ⟨SqL.same ex.2.1 a, q1 F1 H1 _ (Ext.refl ex.2.1) (itd_rev a b)⟩⟩
    | tup xs =>
      cases r with
      | tup a b => exact ⟨_, _, rfl, .inr ⟨SqT.same ex.2.1 a, q1 F1 H1 _ (Ext.refl ex.2.1) (itd_revT a b)⟩⟩
    | _ => exact q1.elim⟩
end
end DL
set_option Elab.async false
set_option linter.all false
set_option maxRecDepth 100000
set_option maxHeartbeats 1000000
/-! DL11: unary operators, += on names, constants of the module. -/
namespace DL
open PySem PySem.Spec PyProof.Rows L2
section
variable {X : Cx} {We : WX} {S : List Nat} {f : DEnv → Res D} {e : PySem.Expr} {pos : Pos}
theorem pd_neg (h : PD X We S e f) : PD X We S (.UnaryOp .USub e pos) (e1 dNeg f) :=
  pe_imp (pe_un un_neg h) fun σ H Q ⟨F, ρ, hF, hE, q⟩ => ⟨F, ρ, hF, hE, Out.bind q fun x F1 H1 v ex rx q1 => by
    cases x with
    | int i => cases rx; exact ⟨i, rfl, q1 F1 H1 _ (Ext.refl ex.2.1) (.int _)⟩
    | _ => exact q1.elim⟩
theorem pd_inv (h : PD X We S e f) : PD X We S (.UnaryOp .Invert e pos) (e1 dInv f) :=
  pe_imp (pe_un un_inv h) fun σ H Q ⟨F, ρ, hF, hE, q⟩ => ⟨F, ρ, hF, hE, Out.bind q fun x F1 H1 v ex rx q1 => by
    cases x with
    | int i => cases rx; exact ⟨i, rfl, q1 F1 H1 _ (Ext.refl ex.2.1) (.int _)⟩
    | _ => exact q1.elim⟩
end
/-- a constant as data -/
def absD : Value → Option D
  | .none => some .non
  | .bool b => some (.bl b)
  | .int i _ => some (.int i)
  | .str x _ => some (.str x)
  | _ => none
def absDs : List Value → Option (List D)
  | [] => some []
  | v :: vs => match absD v, absDs vs with
    | some d, some ds => some (d :: ds)
    | _, _ => none
section
variable {K : PySem.W.Frag} {mg : Str → Option Value}
theorem absD_rep {u : Value} {d : D} (h : absD u = some d) : ∃ v, RelV v u ∧ ∀ F, Rep K mg F v d := by
  unfold absD at h
  split at h
  · cases h; exact ⟨.non, rfl, fun F => .non⟩
  · cases h; exact ⟨.bl _, rfl, fun F => .bl _⟩
  · cases h; exact ⟨.int _, ⟨_, rfl⟩, fun F => .int _⟩
  · cases h; exact ⟨.str _, ⟨_, rfl⟩, fun F => .str _⟩
  · cases h
theorem absDs_rep : ∀ {us : List Value} {ds : List D}, absDs us = some ds → ∃ vs, Vals vs us ∧ ∀ F, RepAll K mg F vs ds
  | [], ds, h => by cases h; exact ⟨[], .nil, fun F => .nil⟩
  | u :: us, ds, h => by
    unfold absDs at h
    cases h1 : absD u with
    | none => simp only [h1] at h; cases h
    | some d =>
      cases h2 : absDs us with
      | none => simp only [h1, h2] at h; cases h
      | some es =>
        simp only [h1, h2] at h
        cases h
        obtain ⟨v, r1, p1⟩ := absD_rep (K := K) (mg := mg) h1
        obtain ⟨vs, r2, p2⟩ := absDs_rep h2
        exact ⟨v :: vs, .cons r1 r2, fun F => .cons (p1 F) (p2 F)⟩
/-- a tuple of constants in the text -/
structure KTup (K : PySem.W.Frag) (mg : Str → Option Value) (x : Str) (a : Addr) (o : Obj) (its : Array Value) (n : Nat) (ds : List D) : Prop where
  gl : mg x = some (.ref a)
  lk : K.lookup a = some o
  cl : o.cls = .type "tuple"
  da : o.data = .seq its n
  ab : absDs its.toList = some ds
  sz : its.size ≤ lim
theorem KTup.rep {x : Str} {a : Addr} {o : Obj} {its : Array Value} {n : Nat} {ds : List D} (h : KTup K mg x a o its n ds) (F : Hp) : Rep K mg F (.ref a) (.tup ds) := by
  obtain ⟨vs, r, p⟩ := absDs_rep (K := K) (mg := mg) h.ab
  exact .tup (.inr ⟨o, its, n, h.lk, h.cl, h.da, le_line h.sz, r⟩) (p F)
end
theorem pd_ktup {X : Cx} {We : WX} {c : Str} {a : Addr} {o : Obj} {its : Array Value} {n : Nat} {ds : List D} {pos : Pos} (h : KTup X.K X.mg c a o its n ds) (hg : Gl X c := by rfl) (hdb : (c == ("__debug__" : Str)) = false := by decide) : PD X We [] (.Name c pos) (eC (.tup ds)) :=
  pd_glob (v := .ref a) h.gl rfl h.rep hg hdb
end DL
set_option Elab.async false
set_option linter.all false
set_option maxRecDepth 100000
set_option maxHeartbeats 1000000
/-! DL12: the law's own end; small helps for the printed walks. -/
namespace DL
open PySem PySem.Spec PyProof.Rows L2
theorem rep_ints {K : PySem.W.Frag} {mg : Str → Option Value} {F : Hp} : ∀ ns : List Int, RepAll K mg F (ns.map V.int) (ns.map D.int)
  | [] => .nil
  | _ :: ns => .cons (.int _) (rep_ints ns)
def spLaw (K : PySem.W.Frag) : Sp := fun vs H Q _ => ∃ (a : Addr) (ns : List Int), vs = [.ref a] ∧ SqL K H a (ns.map V.int) ∧ ns.length ≤ 63 ∧ (∀ z ∈ ns, Builtin.Int.intBits z ≤ 1048576) ∧ ∀ H', Q (.bl true) H'
theorem law_imp {P : Program} {w : World} {K : PySem.W.Frag} {mg : Str → Option Value} {base : Heap} {k : Nat} {f : Addr} {fd : FuncData} {x : Str} {m : List D → Res D} (F : FnD P w K mg base k f fd [x] false m)
    (h : ∀ ns : List Int, ns.length ≤ 63 → (∀ z ∈ ns, Builtin.Int.intBits z ≤ 1048576) → m [.lst (ns.map .int)] = .ok (.bl true)) : FnOk P w K mg base (L2.CX P w) k f fd [x] (spLaw K) :=
  F.imp fun vs H Q E ⟨a, ns, e, s, l, b, q⟩ => by
    subst e
    refine ⟨rfl, H, _, Same.refl H, .cons (.lst s (rep_ints ns)) .nil, ?_⟩
    rw [h ns l b]
    intro F' H' v ex r
    cases r
    exact q H'
theorem cx_none {P : Program} {w : World} {H : Hp} {s : Shared} {e : Value} {s' : Shared} (h : L2.CX P w [] H s (fun _ _ _ => False) e s') : False := by
  obtain ⟨_, _, _, _, _, _, _, _, _, _, _, _, z⟩ := h
  exact z
theorem binds1 {K : PySem.W.Frag} {x qual : Str} {st : Stmt} {f : Addr} {fd : FuncData} {p : Str} : True := trivial
end DL
set_option Elab.async false
set_option linter.all false
set_option maxRecDepth 100000
set_option maxHeartbeats 1000000
/-! DM1: mirrors reckoned out: equations for simp. -/
namespace DL
open PySem PySem.Spec PyProof.Rows L2
section
variable {α β γ : Type} {f g h : DEnv → SRes} {ρ ρ' : DEnv} {S : List Nat} {i n : Nat} {d x y : D} {e : Exn}
@[simp] theorem bind_ok {a : α} {k : α → Res β} : (Res.ok a).bind k = k a := id rfl
@[simp] theorem bind_er {k : α → Res β} : (Res.er e : Res α).bind k = .er e := id rfl
@[simp] theorem bind_st {k : α → Res β} : (Res.st : Res α).bind k = .st := id rfl
@[simp] theorem bindN_okE {a : α} {k : α → Res β} : (Res.ok a).bindN k = k a := id rfl
@[simp] theorem sSeq_ap : sSeq f g ρ = (f ρ).seq g := id rfl
@[simp] theorem seq_nx : (SRes.nx ρ).seq g = g ρ := id rfl
@[simp] theorem seq_rt : (SRes.rt d).seq g = .rt d := id rfl
@[simp] theorem seq_bk : (SRes.bk ρ).seq g = .bk ρ := id rfl
@[simp] theorem seq_ct : (SRes.ct ρ).seq g = .ct ρ := id rfl
@[simp] theorem seq_er : (SRes.er e ρ).seq g = .er e ρ := id rfl
@[simp] theorem seq_st : (SRes.st).seq g = .st := id rfl
@[simp] theorem sNil_ap : sNil ρ = .nx ρ := id rfl
@[simp] theorem after_ok {a : β} {k : β → SRes} : after (.ok a) ρ k = k a := id rfl
@[simp] theorem after_er {k : β → SRes} : after (.er e : Res β) ρ k = .er e ρ := id rfl
@[simp] theorem after_st {k : β → SRes} : after (.st : Res β) ρ k = .st := id rfl
@[simp] theorem rest_f {c : Bool → Bool} {k : DEnv → SRes} : rest false S c ρ k = k (dem S ρ) := id rfl
@[simp] theorem rest_t {c : Bool → Bool} {k : DEnv → SRes} : rest true S c ρ k = if c (hasO S ρ) then k ρ else .st := id rfl
@[simp] theorem sAsg_ap {k : Bool} {fe : DEnv → Res D} : sAsg k S i fe ρ = after (fe ρ) ρ fun d => rest k S (fun b => d.nlx b) ρ fun ρ' => .nx (ρ'.set i (.d d)) := id rfl
@[simp] theorem sAsgF_ap {k : Bool} {fe : DEnv → Res (List D)} : sAsgF k S i fe ρ = after (fe ρ) ρ fun xs => rest k S (fun b => nlxs b xs) ρ fun ρ' => .nx (ρ'.set i (.own false xs)) := id rfl
@[simp] theorem sIf_ap {c : DEnv → Res Bool} : sIf c f g ρ = after (c ρ) ρ fun b => if b then f ρ else g ρ := id rfl
@[simp] theorem sRet_ap {fe : DEnv → Res D} : sRet S fe ρ = after (fe ρ) ρ fun d => .rt d := id rfl
@[simp] theorem sRetF_ap {fe : DEnv → Res (List D)} : sRetF S fe ρ = after (fe ρ) ρ fun xs => .rt (.lst xs) := id rfl
@[simp] theorem sRetN_ap : sRetN ρ = .rt .non := id rfl
@[simp] theorem sBk_ap : sBk ρ = .bk ρ := id rfl
@[simp] theorem sCt_ap : sCt ρ = .ct ρ := id rfl
@[simp] theorem sApp_ap {k : Bool} {fe : DEnv → Res D} : sApp k S i fe ρ = match ρ[i]? with
  | some (.own _ _) => after (fe ρ) ρ fun d => rest k S (fun b => d.nlx b) ρ fun ρ' => match ρ'[i]? with
    | some (.own t xs) => if xs.length < lim then .nx (ρ'.set i (.own t (xs ++ [d]))) else .st
    | _ => .st
  | _ => .st := id rfl
@[simp] theorem sRetO_ap : sRetO i ρ = match ρ[i]? with
  | some (.own _ xs) => .rt (.lst xs)
  | _ => .st := id rfl
theorem cDiv_ok {a b : Int} (h : 0 < b) (h2 : b < 1073741824) : cDiv a b = true := by
  unfold cDiv
  rw [decide_eq_true (by omega), decide_eq_true (by omega)]
  rfl
theorem cMod_ok {a b : Int} (h : 0 < b) : cMod a b = true := decide_eq_true (by omega)
theorem cMul_l {a b : Int} (h : -big < a) (h2 : a < big) : cMul a b = true := by
  unfold big at h h2
  unfold cMul
  rw [decide_eq_true (by omega)]
  rfl
theorem cPow_of {a b : Int} (h : 0 ≤ b) (h2 : b ≤ 1000000) (h3 : -big < a) (h4 : a < big) : cPow a b = true := by
  unfold big at h3 h4
  unfold cPow
  rw [decide_eq_true h, decide_eq_true (by omega), decide_eq_true (by omega)]
  rfl
theorem cShr_ok {a b : Int} (h : 0 ≤ b) : cShr a b = true := decide_eq_true h
theorem bor_nn (a b : Nat) : Builtin.bitOr (a : Int) (b : Int) = ((a ||| b : Nat) : Int) := by
  rw [Bits.bitOr_pp (Int.natCast_nonneg a) (Int.natCast_nonneg b), Int.toNat_natCast, Int.toNat_natCast]
theorem band_nn (a b : Nat) : Builtin.bitAnd (a : Int) (b : Int) = ((a &&& b : Nat) : Int) := by
  rw [bitAnd_pp (Int.natCast_nonneg a) (Int.natCast_nonneg b), Int.toNat_natCast, Int.toNat_natCast]
theorem lim_lt {n : Nat} (h : n ≤ 10000) : n < lim := Nat.lt_of_le_of_lt h (by decide)
/-- dem by places -/
def demI (S : List Nat) : Nat → DEnv → DEnv
  | _, [] => []
  | i, s :: ρ => demS (S.contains i) s :: demI S (i + 1) ρ
theorem dem_shift : ∀ (ρ : DEnv) (j : Nat), (ρ.mapIdx fun i s => demS (S.contains (i + j)) s) = demI S j ρ
  | [], _ => rfl
  | s :: ρ, j => by
    rw [List.mapIdx_cons, demI, Nat.zero_add]
    congr 1
    rw [← dem_shift ρ (j + 1)]
    congr 1
    funext i s
    rw [Nat.add_right_comm, Nat.add_assoc]
@[simp] theorem dem_eq : dem S ρ = demI S 0 ρ := dem_shift ρ 0
@[simp] theorem demI_nil : demI S i [] = [] := id rfl
@[simp] theorem demI_cons {s : Slot} : demI S i (s :: ρ) = demS (S.contains i) s :: demI S (i + 1) ρ := id rfl
@[simp] theorem demS_d {b : Bool} : demS b (.d d) = .d d := id rfl
@[simp] theorem demS_un {b : Bool} : demS b .un = .un := id rfl
@[simp] theorem demS_ot {t : Bool} {xs : List D} : demS true (.own t xs) = .d (.lst xs) := id rfl
@[simp] theorem demS_of {t : Bool} {xs : List D} : demS false (.own t xs) = .own t xs := id rfl
@[simp] theorem demS_bt {t : Bool} {c : Str} {ns : List Str} {fs : List D} : demS true (.obo t c ns fs) = .d (.obj c ns fs) := id rfl
@[simp] theorem demS_bf {t : Bool} {c : Str} {ns : List Str} {fs : List D} : demS false (.obo t c ns fs) = .obo t c ns fs := id rfl
@[simp] theorem demS_ff {s : Slot} : demS false s = s := by cases s <;> rfl
/-- a slot's value -/
def slotV : Option Slot → Res D
  | some s => match s.val with
    | some d => .ok d
    | none => .st
  | none => .st
@[simp] theorem eVar_ap : eVar i ρ = slotV ρ[i]? := by
  unfold eVar slotV
  cases ρ[i]? <;> rfl
@[simp] theorem slotV_d : slotV (some (.d d)) = .ok d := id rfl
@[simp] theorem slotV_own {t : Bool} {xs : List D} : slotV (some (.own t xs)) = .ok (.lst xs) := id rfl
@[simp] theorem slotV_obo {t : Bool} {c : Str} {ns : List Str} {fs : List D} : slotV (some (.obo t c ns fs)) = .ok (.obj c ns fs) := id rfl
@[simp] theorem eC_ap : eC d ρ = .ok d := id rfl
@[simp] theorem e2_ap {o : D → D → Res β} {a b : DEnv → Res D} : e2 o a b ρ = (a ρ).bind fun x => (b ρ).bind fun y => o x y := id rfl
@[simp] theorem e1_ap {o : D → Res β} {a : DEnv → Res D} : e1 o a ρ = (a ρ).bind o := id rfl
@[simp] theorem e3_ap {o : D → Option Int → Option Int → Res β} {a : DEnv → Res D} {l h : DEnv → Res (Option Int)} : e3 o a l h ρ = (a ρ).bind fun x => (l ρ).bind fun p => (h ρ).bind fun q => o x p q := id rfl
@[simp] theorem eNoP_ap : eNoP ρ = .ok none := id rfl
@[simp] theorem eP_ap {a : DEnv → Res D} : eP a ρ = (a ρ).bind asP := id rfl
@[simp] theorem asP_int {j : Int} : asP (.int j) = .ok (some j) := id rfl
@[simp] theorem eCh_ap {o o' : D → D → Res D} {a b c : DEnv → Res D} : eCh o o' a b c ρ = (a ρ).bind fun x => (b ρ).bind fun y => (o x y).bind fun k => match k with
  | .bl true => (c ρ).bind fun z => o' y z
  | .bl false => .ok (.bl false)
  | _ => .st := id rfl
@[simp] theorem asB_bl {b : Bool} : asB (.bl b) = .ok b := id rfl
@[simp] theorem eB_ap {a : DEnv → Res D} : eB a ρ = (a ρ).bind asB := id rfl
@[simp] theorem eTru_ap {a : DEnv → Res D} : eTru a ρ = (a ρ).bind truth := id rfl
@[simp] theorem truth_bl {b : Bool} : truth (.bl b) = .ok b := id rfl
@[simp] theorem truth_int {j : Int} : truth (.int j) = .ok (j != 0) := id rfl
@[simp] theorem truth_non : truth .non = .ok false := id rfl
@[simp] theorem truth_lst {xs : List D} : truth (.lst xs) = .ok (!xs.isEmpty) := id rfl
@[simp] theorem truth_tup {xs : List D} : truth (.tup xs) = .ok (!xs.isEmpty) := id rfl
@[simp] theorem eAnd_ap {a b : DEnv → Res Bool} : eAnd a b ρ = (a ρ).bind fun k => if k then b ρ else .ok false := id rfl
@[simp] theorem eOr_ap {a b : DEnv → Res Bool} : eOr a b ρ = (a ρ).bind fun k => if k then .ok true else b ρ := id rfl
@[simp] theorem eNot_ap {a : DEnv → Res Bool} : eNot a ρ = (a ρ).bind fun k => .ok (!k) := id rfl
@[simp] theorem eIf_ap {c : DEnv → Res Bool} {a b : DEnv → Res β} : eIf c a b ρ = (c ρ).bind fun k => if k then a ρ else b ρ := id rfl
@[simp] theorem eAndV_ap {a b : DEnv → Res D} : eAndV a b ρ = (a ρ).bind fun x => (asB x).bind fun k => if k then b ρ else .ok (.bl false) := id rfl
@[simp] theorem eOrV_ap {a b : DEnv → Res D} : eOrV a b ρ = (a ρ).bind fun x => (asB x).bind fun k => if k then .ok (.bl true) else b ρ := id rfl
@[simp] theorem eNotV_ap {a : DEnv → Res D} : eNotV a ρ = (a ρ).bind fun x => (asB x).bind fun k => .ok (.bl (!k)) := id rfl
@[simp] theorem eNil_ap : eNil ρ = .ok [] := id rfl
@[simp] theorem eCons_ap {a : DEnv → Res D} {r : DEnv → Res (List D)} : eCons a r ρ = (a ρ).bind fun x => (r ρ).bind fun xs => .ok (x :: xs) := id rfl
@[simp] theorem eTup_ap {r : DEnv → Res (List D)} : eTup r ρ = (r ρ).bind fun xs => (okLen xs).bind fun ys => .ok (.tup ys) := id rfl
@[simp] theorem eLst_ap {r : DEnv → Res (List D)} : eLst r ρ = (r ρ).bind okLen := id rfl
@[simp] theorem eFz_ap {r : DEnv → Res (List D)} : eFz r ρ = (r ρ).bind fun xs => .ok (.lst xs) := id rfl
theorem okLen_le {xs : List D} (h : xs.length ≤ lim) : okLen xs = .ok xs := if_pos h
@[simp] theorem okLen0 : okLen [] = .ok [] := id rfl
@[simp] theorem okLen1 {a : D} : okLen [a] = .ok [a] := id rfl
@[simp] theorem okLen2 {a b : D} : okLen [a, b] = .ok [a, b] := id rfl
@[simp] theorem okLen3 {a b c : D} : okLen [a, b, c] = .ok [a, b, c] := id rfl
@[simp] theorem okLen4 {a b c d : D} : okLen [a, b, c, d] = .ok [a, b, c, d] := id rfl
@[simp] theorem okLen8 {a b c d e f g h : D} : okLen [a, b, c, d, e, f, g, h] = .ok [a, b, c, d, e, f, g, h] := id rfl
@[simp] theorem eL_ap {o : List D → Res β} {r : DEnv → Res (List D)} : eL o r ρ = (r ρ).bind o := id rfl
@[simp] theorem eIt_ap {a : DEnv → Res D} : eIt a ρ = (a ρ).bind items := id rfl
@[simp] theorem items_lst {xs : List D} : items (.lst xs) = .ok xs := id rfl
@[simp] theorem items_tup {xs : List D} : items (.tup xs) = .ok xs := id rfl
@[simp] theorem asL_lst {xs : List D} : asL (.lst xs) = .ok xs := id rfl
theorem callN_ap {m : List D → Res D} {ds : List D} (h : ds.length = n) : callN n m ds = m ds := if_pos h
@[simp] theorem callN1 {m : List D → Res D} {a : D} : callN 1 m [a] = m [a] := id rfl
@[simp] theorem callN2 {m : List D → Res D} {a b : D} : callN 2 m [a, b] = m [a, b] := id rfl
@[simp] theorem callN3 {m : List D → Res D} {a b c : D} : callN 3 m [a, b, c] = m [a, b, c] := id rfl
@[simp] theorem callN4 {m : List D → Res D} {a b c d : D} : callN 4 m [a, b, c, d] = m [a, b, c, d] := id rfl
@[simp] theorem callF_ap {m : List D → Res D} {ds : List D} : callF n m ds = (callN n m ds).bind asL := id rfl
@[simp] theorem mkD1 {c : Str} {m : List D → Res (List Str × List D)} {a : D} : mkD c 2 m [a] = (m [a]).bind fun r => .ok (.obj c r.1 r.2) := id rfl
@[simp] theorem mkD2 {c : Str} {m : List D → Res (List Str × List D)} {a b : D} : mkD c 3 m [a, b] = (m [a, b]).bind fun r => .ok (.obj c r.1 r.2) := id rfl
@[simp] theorem callG2 {m : List D → Res (List D)} {a b : D} : callG 2 m [a, b] = match m [a, b] with
  | .ok xs => .ok xs
  | _ => .st := id rfl
/-! ### operators -/
variable {j k : Int} {z w : Str}
@[simp low] theorem dI2_ap {o : Int → Int → Int} : dI2 o (.int j) (.int k) = .ok (.int (o j k)) := id rfl
@[simp] theorem dI2b_ap {o : Int → Int → Bool} : dI2b o (.int j) (.int k) = .ok (.bl (o j k)) := id rfl
@[simp low] theorem dI2c_ap {c : Int → Int → Bool} {o : Int → Int → Int} : dI2c c o (.int j) (.int k) = if c j k = true then .ok (.int (o j k)) else .st := id rfl
@[simp] theorem dAdd_ii : dAdd (.int j) (.int k) = .ok (.int (j + k)) := id rfl
@[simp] theorem dNeg_ap : dNeg (.int j) = .ok (.int (-j)) := id rfl
@[simp] theorem bAbs_ap : bAbs [.int j] = .ok (.int (if j < 0 then -j else j)) := id rfl
@[simp] theorem bInt_ap : bInt [.int j] = .ok (.int j) := id rfl
@[simp] theorem bLen_lst {xs : List D} : bLen [.lst xs] = .ok (.int xs.length) := id rfl
@[simp] theorem bLen_tup {xs : List D} : bLen [.tup xs] = .ok (.int xs.length) := id rfl
@[simp] theorem bTuple_lst {xs : List D} : bTuple [.lst xs] = .ok (.tup xs) := id rfl
@[simp] theorem bList_lst {xs : List D} : bList [.lst xs] = .ok xs := id rfl
@[simp] theorem dIx_lst {xs : List D} : dIx (.lst xs) (.int j) = match atI xs j with
  | some d => .ok d
  | none => .st := id rfl
@[simp] theorem dIx_tup {xs : List D} : dIx (.tup xs) (.int j) = match atI xs j with
  | some d => .ok d
  | none => .st := id rfl
theorem atI_at {α : Type} {xs : List α} {i : Nat} {x : α} (h : xs[i]? = some x) : L2.atI xs (i : Int) = some x := atI_nat h
@[simp] theorem g1_ap : g1 d = some [d] := id rfl
/-- == of data that is plain, as ints -/
theorem dEq_ii : dEq (.int j) (.int k) = .ok (.bl (D.eqv (.int j) (.int k))) := rfl
end
/-! ### loops -/
/-- a loop by an invariant -/
theorem forL_ind {sl : List Nat} {g : D → Option (List D)} {fb : DEnv → SRes} (I : Nat → DEnv → Prop) : ∀ (ds : List D) (n : Nat) (ρ : DEnv), I n ρ →
    (∀ i d ρ, ds[i]? = some d → I (n + i) ρ → ∃ vs ρ', g d = some vs ∧ (fb (setAll ρ sl (vs.map Slot.d)) = .nx ρ' ∨ fb (setAll ρ sl (vs.map Slot.d)) = .ct ρ') ∧ I (n + i + 1) ρ') → ∃ ρ', forL sl g fb ds ρ = .nx ρ' ∧ I (n + ds.length) ρ'
  | [], n, ρ, h, _ => ⟨ρ, rfl, h⟩
  | d :: ds, n, ρ, h, st => by
    obtain ⟨vs, ρ', h1, h2, h3⟩ := st 0 d ρ rfl h
    obtain ⟨ρ'', q1, q2⟩ := forL_ind I ds (n + 1) ρ' h3 fun i d ρ e z => by
      have := st (i + 1) d ρ (by simpa using e) (by rw [show n + (i + 1) = n + 1 + i by omega]; exact z)
      rw [show n + (i + 1) + 1 = n + 1 + i + 1 by omega] at this
      exact this
    refine ⟨ρ'', ?_, by rw [List.length_cons, show n + (ds.length + 1) = n + 1 + ds.length by omega]; exact q2⟩
    unfold forL
    simp only [h1]
    rcases h2 with h2 | h2 <;> simp only [h2, q1]
theorem forL_nx {sl : List Nat} {g : D → Option (List D)} {fb : DEnv → SRes} {d : D} {ds vs : List D} {ρ ρ' : DEnv} (h : g d = some vs) (e : fb (setAll ρ sl (vs.map Slot.d)) = .nx ρ') : forL sl g fb (d :: ds) ρ = forL sl g fb ds ρ' := by
  have z : forL sl g fb (d :: ds) ρ = (match g d with
    | none => .st
    | some vs => match fb (setAll ρ sl (vs.map Slot.d)) with
      | .nx ρ' => forL sl g fb ds ρ'
      | .ct ρ' => forL sl g fb ds ρ'
      | .bk ρ' => .nx ρ'
      | r => r) := rfl
  rw [z, h]
  simp only [e]
theorem rangeD_len {lo : Int} {n : Nat} : (rangeD lo n).length = n := by simp [rangeD]
theorem rangeD_get {lo : Int} {n i : Nat} {d : D} (h : (rangeD lo n)[i]? = some d) : i < n ∧ d = .int (lo + i) := by
  unfold rangeD at h
  rw [List.getElem?_map] at h
  cases hc : (List.range n)[i]? with
  | none => rw [hc] at h; cases h
  | some c =>
    rw [hc] at h
    cases h
    obtain ⟨h1, h2⟩ := List.getElem?_eq_some_iff.mp hc
    have h1 : i < n := by simpa using h1
    have h2 : i = c := by simpa using h2
    subst h2
    exact ⟨h1, rfl⟩
@[simp] theorem sForR_ap {sl : List Nat} {fi : DEnv → Res (List D)} {g : D → Option (List D)} {fb : DEnv → SRes} {ρ : DEnv} : sForR sl fi g fb ρ = after (fi ρ) ρ fun ds => forL sl g fb ds ρ := id rfl
@[simp] theorem sFor_ap {S sl : List Nat} {fi : DEnv → Res (List D)} {g : D → Option (List D)} {fb : DEnv → SRes} {ρ : DEnv} : sFor S sl fi g fb ρ = after (fi ρ) ρ fun ds => forL sl g fb ds (dem S ρ) := id rfl
theorem rng1_ap {j : Int} (h0 : 0 ≤ j) (h1 : j < 4611686018427387904) : rng1 [.int j] = .ok (rangeD 0 j.toNat) := by
  show (if cR j = true then Res.ok (rangeD 0 j.toNat) else Res.st) = _
  rw [if_pos]
  unfold cR
  exact decide_eq_true (by omega)
theorem dAnd_nn (a b : Nat) : dAnd (.int a) (.int b) = .ok (.int ((a &&& b : Nat) : Int)) := congrArg (fun z => Res.ok (D.int z)) (band_nn a b)
theorem dOr_nn (a b : Nat) : dOr (.int a) (.int b) = .ok (.int ((a ||| b : Nat) : Int)) := congrArg (fun z => Res.ok (D.int z)) (bor_nn a b)
theorem beq_nn (a b : Nat) : ((a : Int) == (b : Int)) = decide (a = b) := by
  by_cases h : a = b
  · subst h; simp
  · rw [decide_eq_false h]
    exact beq_eq_false_iff_ne.mpr fun z => h (Int.ofNat.inj z)
theorem dEq_nn (a b : Nat) : dEq (.int a) (.int b) = .ok (.bl (decide (a = b))) := congrArg (fun z => Res.ok (D.bl z)) (beq_nn a b)
theorem dNe_nn (a b : Nat) : dNe (.int a) (.int b) = .ok (.bl (!decide (a = b))) := congrArg (fun z => Res.ok (D.bl (!z))) (beq_nn a b)
theorem rng1_n (n : Nat) (h : n ≤ 1000000) : rng1 [.int (n : Int)] = .ok (rangeD 0 n) := by rw [rng1_ap (by omega) (by omega), Int.toNat_natCast]
@[simp] theorem gT2_ap {a b : D} {g : List D → Option (List D)} : gT 2 g (.tup [a, b]) = g [a, b] := id rfl
@[simp] theorem gT3_ap {a b c : D} {g : List D → Option (List D)} : gT 3 g (.tup [a, b, c]) = g [a, b, c] := id rfl
@[simp] theorem gC_ap {a : D} {as : List D} {g : D → Option (List D)} {h : List D → Option (List D)} : gC g h (a :: as) = (g a).bind fun x => (h as).bind fun y => some (x ++ y) := id rfl
@[simp] theorem gN_ap : gN [] = some [] := id rfl
@[simp] theorem setAll_nil {α : Type} {l : List α} {xs : List α} : setAll l [] xs = l := by cases xs <;> rfl
@[simp] theorem setAll_cons {α : Type} {l : List α} {i : Nat} {is : List Nat} {x : α} {xs : List α} : setAll l (i :: is) (x :: xs) = setAll (l.set i x) is xs := id rfl
@[simp] theorem sTgt_ap {k : Bool} {S sl : List Nat} {g : D → Option (List D)} {f : DEnv → Res D} {ρ : DEnv} : sTgt k S sl g f ρ = after (f ρ) ρ fun d => rest k S (fun b => d.nlx b) ρ fun ρ' => match g d with
  | some ds => .nx (setAll ρ' sl (ds.map Slot.d))
  | none => .st := id rfl
@[simp] theorem sAttr_ap {k : Bool} {S : List Nat} {cs : List Str} {i : Nat} {fl : Str} {f : DEnv → Res D} {ρ : DEnv} : sAttr k S cs i fl f ρ = after (f ρ) ρ fun d => rest k S (fun b => d.nlx b) ρ fun ρ' => match ρ'[i]? with
  | some (.obo t c ns fs) => if cs.contains c = true ∧ ns.length < 1000 then .nx (ρ'.set i (.obo t c (putN fl ns) (putD fl d ns fs))) else .st
  | _ => .st := id rfl
@[simp] theorem nlx_int {b : Bool} {j : Int} : (D.int j).nlx b = true := id rfl
@[simp] theorem nlx_bl {b c : Bool} : (D.bl c).nlx b = true := id rfl
@[simp] theorem nlx_str {b : Bool} {z : Str} : (D.str z).nlx b = true := id rfl
@[simp] theorem nlx_non {b : Bool} : (D.non).nlx b = true := id rfl
@[simp] theorem nlx_tup {b : Bool} {xs : List D} : (D.tup xs).nlx b = nlxs b xs := id rfl
@[simp] theorem nlxs_nil {b : Bool} : nlxs b [] = true := id rfl
@[simp] theorem nlxs_cons {b : Bool} {x : D} {xs : List D} : nlxs b (x :: xs) = (x.nlx b && nlxs b xs) := id rfl
/-! ### generators, while -/
def gsq (r : GRes) (g : DEnv → GRes) : GRes := match r with
  | (a, .nx ρ') => (a ++ (g ρ').1, (g ρ').2)
  | r => r
@[simp] theorem gSeq_ap {f g : DEnv → GRes} {ρ : DEnv} : gSeq f g ρ = gsq (f ρ) g := id rfl
@[simp] theorem gsq_nx {a : List D} {ρ : DEnv} {g : DEnv → GRes} : gsq (a, .nx ρ) g = (a ++ (g ρ).1, (g ρ).2) := id rfl
@[simp] theorem gPl_ap {f : DEnv → SRes} {ρ : DEnv} : gPl f ρ = ([], f ρ) := id rfl
@[simp] theorem gNil_ap {ρ : DEnv} : DL.gNil ρ = ([], .nx ρ) := id rfl
def gyR (S : List Nat) (ρ : DEnv) : Res D → GRes
  | .ok d => ([d], .nx (dem S ρ))
  | .er x => ([], .er x ρ)
  | .st => ([], .st)
@[simp] theorem gYd_ap {S : List Nat} {f : DEnv → Res D} {ρ : DEnv} : gYd false S f ρ = gyR S ρ (f ρ) := by
  unfold gYd gyR
  cases f ρ <;> rfl
@[simp] theorem gyR_ok {S : List Nat} {d : D} {ρ : DEnv} : gyR S ρ (.ok d) = ([d], .nx (dem S ρ)) := id rfl
theorem gWh_f {c : DEnv → Res Bool} {f : DEnv → GRes} {ρ : DEnv} {n : Nat} (h : c ρ = .ok false) : gWh c f (n + 1) ρ = ([], .nx ρ) := by
  show (match c ρ with
    | .ok true => match f ρ with
      | (a, .nx ρ') => (a ++ (gWh c f n ρ').1, (gWh c f n ρ').2)
      | (a, .ct ρ') => (a ++ (gWh c f n ρ').1, (gWh c f n ρ').2)
      | (a, .bk ρ') => (a, .nx ρ')
      | r => r
    | .ok false => ([], .nx ρ)
    | .er x => ([], .er x ρ)
    | .st => ([], .st)) = _
  rw [h]
theorem gWh_t {c : DEnv → Res Bool} {f : DEnv → GRes} {ρ ρ' : DEnv} {n : Nat} {a : List D} (h : c ρ = .ok true) (e : f ρ = (a, .nx ρ')) : gWh c f (n + 1) ρ = (a ++ (gWh c f n ρ').1, (gWh c f n ρ').2) := by
  show (match c ρ with
    | .ok true => match f ρ with
      | (a, .nx ρ') => (a ++ (gWh c f n ρ').1, (gWh c f n ρ').2)
      | (a, .ct ρ') => (a ++ (gWh c f n ρ').1, (gWh c f n ρ').2)
      | (a, .bk ρ') => (a, .nx ρ')
      | r => r
    | .ok false => ([], .nx ρ)
    | .er x => ([], .er x ρ)
    | .st => ([], .st)) = _
  rw [h]
  simp only [e]
theorem whL_f {c : DEnv → Res Bool} {f : DEnv → SRes} {ρ : DEnv} {n : Nat} (h : c ρ = .ok false) : whL c f (n + 1) ρ = .nx ρ := by
  show (after (c ρ) ρ fun b => if b then (match f ρ with
      | .nx ρ' => whL c f n ρ'
      | .ct ρ' => whL c f n ρ'
      | .bk ρ' => .nx ρ'
      | r => r) else .nx ρ) = _
  rw [h]
  rfl
theorem whL_t {c : DEnv → Res Bool} {f : DEnv → SRes} {ρ ρ' : DEnv} {n : Nat} (h : c ρ = .ok true) (e : f ρ = .nx ρ') : whL c f (n + 1) ρ = whL c f n ρ' := by
  show (after (c ρ) ρ fun b => if b then (match f ρ with
      | .nx ρ' => whL c f n ρ'
      | .ct ρ' => whL c f n ρ'
      | .bk ρ' => .nx ρ'
      | r => r) else .nx ρ) = _
  rw [h, e]
  rfl
@[simp] theorem sNever_ap {ρ : DEnv} : sNever ρ = .st := id rfl
@[simp] theorem atI_0 {α : Type} {a : α} {xs : List α} : L2.atI (a :: xs) 0 = some a := atI_nat (j := 0) rfl
@[simp] theorem atI_1 {α : Type} {a b : α} {xs : List α} : L2.atI (a :: b :: xs) 1 = some b := atI_nat (j := 1) rfl
@[simp] theorem atI_2 {α : Type} {a b c : α} {xs : List α} : L2.atI (a :: b :: c :: xs) 2 = some c := atI_nat (j := 2) rfl
end DL
set_option Elab.async false
set_option linter.all false
set_option maxRecDepth 100000
set_option maxHeartbeats 0
namespace K86
open PySem PySem.Spec PyProof.Rows L2 DL
/-! ### the text by places -/
def top (i : Nat) : Stmt := PySem.Challenge.pw_whatisdue_k86_whole_due_by_all_cases.main.body.getD i (.Pass ⟨0, 0, 0, 0⟩)
abbrev s__law_cell : Stmt := (top 25)
abbrev s__law_numbers : Stmt := (top 26)
abbrev s__law_rules : Stmt := (top 27)
abbrev s__law_meets : Stmt := (top 28)
abbrev s_everything : Stmt := (top 8)
abbrev s_is_prop : Stmt := (top 11)
abbrev s_Book_init : Stmt := (inClass (top 23) 2)
abbrev s__law_due : Stmt := (top 29)
abbrev s_switches : Stmt := (top 14)
abbrev s_Book_iter : Stmt := (inClass (top 23) 3)
abbrev s_meet_heads : Stmt := (top 15)
abbrev s_steps : Stmt := (top 18)
abbrev s_settle : Stmt := (top 19)
abbrev s_output : Stmt := (top 17)
abbrev s_worlds_of : Stmt := (top 9)
abbrev s_within : Stmt := (top 10)
abbrev s_is_stable : Stmt := (top 16)
abbrev s_due : Stmt := (top 20)
abbrev s__law_is_integer : Stmt := (top 30)
abbrev s_is_due : Stmt := (top 21)
abbrev s_law : Stmt := (top 31)
def k_MANNERS : List D := [(.str "once"), (.str "cases"), (.str "steps"), (.str "both"), (.str "once+"), (.str "cases+"), (.str "steps+"), (.str "both+")]
/-! ### what the walk asks of the text -/
structure Ad where
  c_Book : Addr
  f__law_cell : Addr
  d__law_cell : FuncData
  f__law_numbers : Addr
  d__law_numbers : FuncData
  f__law_rules : Addr
  d__law_rules : FuncData
  f__law_meets : Addr
  d__law_meets : FuncData
  f_everything : Addr
  d_everything : FuncData
  f_is_prop : Addr
  d_is_prop : FuncData
  f_Book_init : Addr
  d_Book_init : FuncData
  f__law_due : Addr
  d__law_due : FuncData
  f_switches : Addr
  d_switches : FuncData
  f_Book_iter : Addr
  d_Book_iter : FuncData
  f_meet_heads : Addr
  d_meet_heads : FuncData
  f_steps : Addr
  d_steps : FuncData
  f_settle : Addr
  d_settle : FuncData
  f_output : Addr
  d_output : FuncData
  f_worlds_of : Addr
  d_worlds_of : FuncData
  f_within : Addr
  d_within : FuncData
  f_is_stable : Addr
  d_is_stable : FuncData
  f_due : Addr
  d_due : FuncData
  f__law_is_integer : Addr
  d__law_is_integer : FuncData
  f_is_due : Addr
  d_is_due : FuncData
  f_law : Addr
  d_law : FuncData
  u_Book_MOST_LETTERS : Value
  u_Book_MOST_RULES : Value
  q_MANNERS : Addr
  o_MANNERS : Obj
  i_MANNERS : Array Value
  n_MANNERS : Nat
structure Tx (K : PySem.W.Frag) (mg : Str → Option Value) (A : Ad) : Prop where
  F__law_cell : Fun K "_law_cell" "_law_cell" s__law_cell A.f__law_cell A.d__law_cell
  b__law_cell : Binds K A.d__law_cell ["script", "k"] []
  m__law_cell : mg "_law_cell" = some (.ref A.f__law_cell)
  F__law_numbers : Fun K "_law_numbers" "_law_numbers" s__law_numbers A.f__law_numbers A.d__law_numbers
  b__law_numbers : Binds K A.d__law_numbers ["script", "at", "count", "bound"] []
  m__law_numbers : mg "_law_numbers" = some (.ref A.f__law_numbers)
  F__law_rules : Fun K "_law_rules" "_law_rules" s__law_rules A.f__law_rules A.d__law_rules
  b__law_rules : Binds K A.d__law_rules ["script", "n", "count"] []
  m__law_rules : mg "_law_rules" = some (.ref A.f__law_rules)
  F__law_meets : Fun K "_law_meets" "_law_meets" s__law_meets A.f__law_meets A.d__law_meets
  b__law_meets : Binds K A.d__law_meets ["n", "rules"] []
  m__law_meets : mg "_law_meets" = some (.ref A.f__law_meets)
  F_everything : Fun K "everything" "everything" s_everything A.f_everything A.d_everything
  b_everything : Binds K A.d_everything ["n"] []
  m_everything : mg "everything" = some (.ref A.f_everything)
  F_is_prop : Fun K "is_prop" "is_prop" s_is_prop A.f_is_prop A.d_is_prop
  b_is_prop : Binds K A.d_is_prop ["n", "prop"] []
  m_is_prop : mg "is_prop" = some (.ref A.f_is_prop)
  F_Book_init : Fun K "__init__" "Book.__init__" s_Book_init A.f_Book_init A.d_Book_init
  b_Book_init : Binds K A.d_Book_init ["self", "n", "rules"] []
  mk_Book : Mk K A.c_Book A.f_Book_init
  F__law_due : Fun K "_law_due" "_law_due" s__law_due A.f__law_due A.d__law_due
  b__law_due : Binds K A.d__law_due ["meets", "facts", "manner"] []
  m__law_due : mg "_law_due" = some (.ref A.f__law_due)
  F_switches : Fun K "switches" "switches" s_switches A.f_switches A.d_switches
  b_switches : Binds K A.d_switches ["manner"] []
  m_switches : mg "switches" = some (.ref A.f_switches)
  F_Book_iter : Fun K "__iter__" "Book.__iter__" s_Book_iter A.f_Book_iter A.d_Book_iter
  b_Book_iter : Binds K A.d_Book_iter ["self"] []
  it_Book : PySem.W.findIn K (.ref A.c_Book) "__iter__" = some (some (.ref A.f_Book_iter))
  itf_Book : PySem.W.isFn K (.ref A.f_Book_iter) = true
  F_meet_heads : Fun K "meet_heads" "meet_heads" s_meet_heads A.f_meet_heads A.d_meet_heads
  b_meet_heads : Binds K A.d_meet_heads ["book", "case"] []
  m_meet_heads : mg "meet_heads" = some (.ref A.f_meet_heads)
  F_steps : Fun K "steps" "steps" s_steps A.f_steps A.d_steps
  b_steps : Binds K A.d_steps ["book", "facts"] []
  m_steps : mg "steps" = some (.ref A.f_steps)
  F_settle : Fun K "settle" "settle" s_settle A.f_settle A.d_settle
  b_settle : Binds K A.d_settle ["book", "facts"] []
  m_settle : mg "settle" = some (.ref A.f_settle)
  F_output : Fun K "output" "output" s_output A.f_output A.d_output
  b_output : Binds K A.d_output ["book", "case", "manner"] []
  m_output : mg "output" = some (.ref A.f_output)
  F_worlds_of : Fun K "worlds_of" "worlds_of" s_worlds_of A.f_worlds_of A.d_worlds_of
  b_worlds_of : Binds K A.d_worlds_of ["prop"] []
  m_worlds_of : mg "worlds_of" = some (.ref A.f_worlds_of)
  F_within : Fun K "within" "within" s_within A.f_within A.d_within
  b_within : Binds K A.d_within ["first", "second"] []
  m_within : mg "within" = some (.ref A.f_within)
  F_is_stable : Fun K "is_stable" "is_stable" s_is_stable A.f_is_stable A.d_is_stable
  b_is_stable : Binds K A.d_is_stable ["book", "case"] []
  m_is_stable : mg "is_stable" = some (.ref A.f_is_stable)
  F_due : Fun K "due" "due" s_due A.f_due A.d_due
  b_due : Binds K A.d_due ["book", "facts", "manner"] []
  m_due : mg "due" = some (.ref A.f_due)
  F__law_is_integer : Fun K "_law_is_integer" "_law_is_integer" s__law_is_integer A.f__law_is_integer A.d__law_is_integer
  b__law_is_integer : Binds K A.d__law_is_integer ["value"] []
  m__law_is_integer : mg "_law_is_integer" = some (.ref A.f__law_is_integer)
  F_is_due : Fun K "is_due" "is_due" s_is_due A.f_is_due A.d_is_due
  b_is_due : Binds K A.d_is_due ["book", "facts", "claim", "manner"] []
  m_is_due : mg "is_due" = some (.ref A.f_is_due)
  F_law : Fun K "law" "law" s_law A.f_law A.d_law
  b_law : Binds K A.d_law ["script"] []
  m_law : mg "law" = some (.ref A.f_law)
  g_Book : mg "Book" = some (.ref A.c_Book)
  d_Book : ClD K mg "Book" A.c_Book ["n", "rules"]
  r_Book : ClX.CRead K A.c_Book (.type "type")
  v_Book_MOST_LETTERS : ClX.CVal K A.c_Book (.type "type") "MOST_LETTERS" (V.int 4) A.u_Book_MOST_LETTERS
  v_Book_MOST_RULES : ClX.CVal K A.c_Book (.type "type") "MOST_RULES" (V.int 16) A.u_Book_MOST_RULES
  k_MANNERS : KTup K mg "MANNERS" A.q_MANNERS A.o_MANNERS A.i_MANNERS A.n_MANNERS k_MANNERS
  z_len : mg "len" = none
  z_int : mg "int" = none
  z_abs : mg "abs" = none
  z_range : mg "range" = none
  z_enumerate : mg "enumerate" = none
  z_tuple : mg "tuple" = none
  z_list : mg "list" = none
  z_iter : mg "iter" = none
  z_isinstance : mg "isinstance" = none
  z_bool : mg "bool" = none
section
variable {P : Program} {w : World} {K : PySem.W.Frag} {mg : Str → Option Value} {base : Heap} {A : Ad}
theorem sc__law_cell : FnScope ["script", "k"] ["script", "k"] (defScope s__law_cell) := ⟨rfl, rfl, rfl, by decide +kernel, rfl, by decide +kernel, by decide +kernel⟩
def g__law_cell : DEnv → SRes := (sSeq (sIf (eB (e2 dLt (eVar 1) (eL bLen (eCons (eVar 0) eNil)))) (sRet ((([0] ++ [1]) ++ []) ++ []) (eL bAbs (eCons (eL bInt (eCons (e2 dIx (eVar 0) (eVar 1)) eNil)) eNil))) sNil) (sRet [] (eC (.int 0))))
def m__law_cell : List D → Res D := mOf 2 false g__law_cell
theorem w__law_cell (T : Tx K mg A) : FnD P w K mg base 1 A.f__law_cell A.d__law_cell ["script", "k"] false m__law_cell := fnd_of T.F__law_cell sc__law_cell fun cdv A outer s H E hr => (sds_cons (sd_if (ptd_cmp op_lt od_intb (pd_var 1) (pd_B call_lenA cd_len T.z_len (pad_cons (pd_var 0) pad_nil)) (by first | exact nomark _ | rfl)) (sds_one (sd_ret (pd_B call_abs cd_abs T.z_abs (pad_cons (pd_T call_int1 cd_int T.z_int (pad_cons (pd_ix (pd_var 0) (pd_var 1)) pad_nil)) pad_nil)))) sds_nil) (sds_one (sd_ret pd_int)))
theorem sc__law_numbers : FnScope ["script", "at", "count", "bound", "cell", "numbers", "left", "k", "mixed"] ["script", "at", "count", "bound"] (defScope s__law_numbers) := ⟨rfl, rfl, rfl, by decide +kernel, rfl, by decide +kernel, by decide +kernel⟩
def b__law_numbers_1 : DEnv → SRes := (sIf (eB (e2 dGt (eVar 6) (eC (.int 0)))) (sSeq (sApp false (([6] ++ []) ++ [3]) 5 (e2 dMod (eL bInt (eCons (eVar 6) eNil)) (eVar 3))) (sAsg false ([6] ++ [3]) 6 (e2 dDiv (eVar 6) (eVar 3)))) (sSeq (sAsg false (((((([4] ++ []) ++ ([] ++ [1])) ++ []) ++ ((([] ++ [7]) ++ ([] ++ [1])) ++ [])) ++ []) ++ []) 8 (e2 dMod (eL bInt (eCons (e2 dMul (e2 dAdd (e2 dAdd (e2 dMod (eVar 4) (eC (.int 999983))) (e2 dMul (eC (.int 37)) (eVar 1))) (eC (.int 1))) (e2 dAdd (e2 dAdd (e2 dMul (eC (.int 7919)) (eVar 7)) (e2 dMul (eC (.int 611)) (eVar 1))) (eC (.int 104729)))) eNil)) (eC (.int 1000003)))) (sApp false (((([8] ++ ([8] ++ [])) ++ []) ++ []) ++ [3]) 5 (e2 dMod (e2 dMod (eL bInt (eCons (e2 dMul (eVar 8) (e2 dAdd (eVar 8) (eC (.int 31)))) eNil)) (eC (.int 1000033))) (eVar 3)))))
def g__law_numbers : DEnv → SRes := (sSeq (sAsg false ([0] ++ ([1] ++ [])) 4 (eL (callN 2 m__law_cell) (eCons (eVar 0) (eCons (eVar 1) eNil)))) (sSeq (sAsgF false [] 5 (eLst eNil)) (sSeq (sAsg false [4] 6 (eVar 4)) (sSeq (sIf (eB (e2 dLt (eVar 6) (e2 dPow (eC (.int 10)) (eC (.int 18))))) (sAsg false [] 6 (eC (.int 0))) sNil) (sSeq (sForR [7] (eL rng1 (eCons (eVar 2) eNil)) g1 b__law_numbers_1) (sRetO 5))))))
def m__law_numbers : List D → Res D := mOf 9 true g__law_numbers
theorem w__law_numbers (T : Tx K mg A) : FnD P w K mg base 2 A.f__law_numbers A.d__law_numbers ["script", "at", "count", "bound"] true m__law_numbers := fnd_of T.F__law_numbers sc__law_numbers fun cdv A outer s H E hr => (sds_cons (sd_asg false (i := 4) sc__law_numbers.nd (pd_call (takes_of rfl rfl rfl rfl) hr (by decide) (w__law_cell T) T.m__law_cell T.F__law_cell.kp T.b__law_cell (pad_cons (pd_var 0) (pad_cons (pd_var 1) pad_nil)))) (sds_cons (sd_asgF false (i := 5) sc__law_numbers.nd (pf_lst pad_nil)) (sds_cons (sd_asg false (i := 6) sc__law_numbers.nd (pd_var 4)) (sds_cons (sd_if (ptd_cmp op_lt od_intb (pd_var 6) (pd_bin op_pow od_pow pd_int pd_int) (by first | exact nomark _ | rfl)) (sds_one (sd_asg false (i := 6) sc__law_numbers.nd pd_int)) sds_nil) (sds_cons (sd_forR (S := ([2] ++ [])) (passes_of rfl) rfl (id_range1 T.z_range (pad_cons (pd_var 2) pad_nil)) (gd_name sc__law_numbers.nd) (sds_one (sd_if (ptd_cmp op_gt od_intb (pd_var 6) pd_int (by first | exact nomark _ | rfl)) (sds_cons (sd_app false 5 (pd_bin op_mod od_mod (pd_T call_int1 cd_int T.z_int (pad_cons (pd_var 6) pad_nil)) (pd_var 3))) (sds_one (sd_asg false (i := 6) sc__law_numbers.nd (pd_bin op_fdiv od_div (pd_var 6) (pd_var 3))))) (sds_cons (sd_asg false (i := 8) sc__law_numbers.nd (pd_bin op_mod od_mod (pd_T call_int1 cd_int T.z_int (pad_cons (pd_bin op_mul od_mul (pd_bin op_addA od_add (pd_bin op_addA od_add (pd_bin op_mod od_mod (pd_var 4) pd_int) (pd_bin op_mul od_mul pd_int (pd_var 1))) pd_int) (pd_bin op_addA od_add (pd_bin op_addA od_add (pd_bin op_mul od_mul pd_int (pd_var 7)) (pd_bin op_mul od_mul pd_int (pd_var 1))) pd_int)) pad_nil)) pd_int)) (sds_one (sd_app false 5 (pd_bin op_mod od_mod (pd_bin op_mod od_mod (pd_T call_int1 cd_int T.z_int (pad_cons (pd_bin op_mul od_mul (pd_var 8) (pd_bin op_addA od_add (pd_var 8) pd_int)) pad_nil)) pd_int) (pd_var 3)))))))) (sds_one (sd_retO 5)))))))
theorem sc__law_rules : FnScope ["script", "n", "count", "top", "kinds", "bodies", "heads", "more", "rules", "k", "body", "head"] ["script", "n", "count"] (defScope s__law_rules) := ⟨rfl, rfl, rfl, by decide +kernel, rfl, by decide +kernel, by decide +kernel⟩
def b__law_rules_1 : DEnv → SRes := (sSeq (sAsg false ([5] ++ [9]) 10 (e2 dIx (eVar 5) (eVar 9))) (sSeq (sAsg false ([6] ++ [9]) 11 (e2 dIx (eVar 6) (eVar 9))) (sSeq (sIf (eB (e2 dIn (e2 dIx (eVar 4) (eVar 9)) (eTup (eCons (eC (.int 1)) (eCons (eC (.int 2)) (eCons (eC (.int 5)) eNil)))))) (sAsg false ([10] ++ ([7] ++ ([] ++ [9]))) 10 (e2 dOr (eVar 10) (e2 dIx (eVar 7) (e2 dMul (eC (.int 2)) (eVar 9))))) sNil) (sSeq (sIf (eB (e2 dIn (e2 dIx (eVar 4) (eVar 9)) (eTup (eCons (eC (.int 2)) (eCons (eC (.int 3)) eNil))))) (sAsg false ([11] ++ ([7] ++ (([] ++ [9]) ++ []))) 11 (e2 dOr (eVar 11) (e2 dIx (eVar 7) (e2 dAdd (e2 dMul (eC (.int 2)) (eVar 9)) (eC (.int 1)))))) sNil) (sSeq (sIf (eB (e2 dEq (e2 dIx (eVar 4) (eVar 9)) (eC (.int 4)))) (sAsg false ([3] ++ []) 10 (e2 dSub (eVar 3) (eC (.int 1)))) sNil) (sApp false ([10] ++ ([11] ++ [])) 8 (eTup (eCons (eVar 10) (eCons (eVar 11) eNil)))))))))
def g__law_rules : DEnv → SRes := (sSeq (sAsg false ([] ++ ([] ++ [1])) 3 (e2 dShl (eC (.int 1)) (e2 dShl (eC (.int 1)) (eVar 1)))) (sSeq (sAsg false ([0] ++ ([] ++ ([2] ++ ([] ++ [])))) 4 (eFz (eL (callF 4 m__law_numbers) (eCons (eVar 0) (eCons (eC (.int 2)) (eCons (eVar 2) (eCons (eC (.int 7)) eNil))))))) (sSeq (sAsg false ([0] ++ ([] ++ ([2] ++ ([3] ++ [])))) 5 (eFz (eL (callF 4 m__law_numbers) (eCons (eVar 0) (eCons (eC (.int 3)) (eCons (eVar 2) (eCons (eVar 3) eNil))))))) (sSeq (sAsg false ([0] ++ ([] ++ ([2] ++ ([3] ++ [])))) 6 (eFz (eL (callF 4 m__law_numbers) (eCons (eVar 0) (eCons (eC (.int 4)) (eCons (eVar 2) (eCons (eVar 3) eNil))))))) (sSeq (sAsg false ([0] ++ ([] ++ (([] ++ [2]) ++ ([3] ++ [])))) 7 (eFz (eL (callF 4 m__law_numbers) (eCons (eVar 0) (eCons (eC (.int 5)) (eCons (e2 dMul (eC (.int 2)) (eVar 2)) (eCons (eVar 3) eNil))))))) (sSeq (sAsgF false [] 8 (eLst eNil)) (sSeq (sForR [9] (eL rng1 (eCons (eVar 2) eNil)) g1 b__law_rules_1) (sRetO 8))))))))
def m__law_rules : List D → Res D := mOf 12 true g__law_rules
theorem w__law_rules (T : Tx K mg A) : FnD P w K mg base 3 A.f__law_rules A.d__law_rules ["script", "n", "count"] true m__law_rules := fnd_of T.F__law_rules sc__law_rules fun cdv A outer s H E hr => (sds_cons (sd_asg false (i := 3) sc__law_rules.nd (pd_bin op_shl od_shl pd_int (pd_bin op_shl od_shl pd_int (pd_var 1)))) (sds_cons (sd_asg false (i := 4) sc__law_rules.nd (pd_fz (pf_call (takes_of rfl rfl rfl rfl) hr (by decide) (w__law_numbers T) T.m__law_numbers T.F__law_numbers.kp T.b__law_numbers (pad_cons (pd_var 0) (pad_cons pd_int (pad_cons (pd_var 2) (pad_cons pd_int pad_nil))))))) (sds_cons (sd_asg false (i := 5) sc__law_rules.nd (pd_fz (pf_call (takes_of rfl rfl rfl rfl) hr (by decide) (w__law_numbers T) T.m__law_numbers T.F__law_numbers.kp T.b__law_numbers (pad_cons (pd_var 0) (pad_cons pd_int (pad_cons (pd_var 2) (pad_cons (pd_var 3) pad_nil))))))) (sds_cons (sd_asg false (i := 6) sc__law_rules.nd (pd_fz (pf_call (takes_of rfl rfl rfl rfl) hr (by decide) (w__law_numbers T) T.m__law_numbers T.F__law_numbers.kp T.b__law_numbers (pad_cons (pd_var 0) (pad_cons pd_int (pad_cons (pd_var 2) (pad_cons (pd_var 3) pad_nil))))))) (sds_cons (sd_asg false (i := 7) sc__law_rules.nd (pd_fz (pf_call (takes_of rfl rfl rfl rfl) hr (by decide) (w__law_numbers T) T.m__law_numbers T.F__law_numbers.kp T.b__law_numbers (pad_cons (pd_var 0) (pad_cons pd_int (pad_cons (pd_bin op_mul od_mul pd_int (pd_var 2)) (pad_cons (pd_var 3) pad_nil))))))) (sds_cons (sd_asgF false (i := 8) sc__law_rules.nd (pf_lst pad_nil)) (sds_cons (sd_forR (S := ([2] ++ [])) (passes_of rfl) rfl (id_range1 T.z_range (pad_cons (pd_var 2) pad_nil)) (gd_name sc__law_rules.nd) (sds_cons (sd_asg false (i := 10) sc__law_rules.nd (pd_ix (pd_var 5) (pd_var 9))) (sds_cons (sd_asg false (i := 11) sc__law_rules.nd (pd_ix (pd_var 6) (pd_var 9))) (sds_cons (sd_if (ptd_cmp (op_inA (u65 hr)) od_in (pd_ix (pd_var 4) (pd_var 9)) (pd_tup (pad_cons pd_int (pad_cons pd_int (pad_cons pd_int pad_nil)))) (by first | exact nomark _ | rfl)) (sds_one (sd_asg false (i := 10) sc__law_rules.nd (pd_bin op_or od_orr (pd_var 10) (pd_ix (pd_var 7) (pd_bin op_mul od_mul pd_int (pd_var 9)))))) sds_nil) (sds_cons (sd_if (ptd_cmp (op_inA (u65 hr)) od_in (pd_ix (pd_var 4) (pd_var 9)) (pd_tup (pad_cons pd_int (pad_cons pd_int pad_nil))) (by first | exact nomark _ | rfl)) (sds_one (sd_asg false (i := 11) sc__law_rules.nd (pd_bin op_or od_orr (pd_var 11) (pd_ix (pd_var 7) (pd_bin op_addA od_add (pd_bin op_mul od_mul pd_int (pd_var 9)) pd_int))))) sds_nil) (sds_cons (sd_if (ptd_cmp (op_eqD hr.units) od_eq (pd_ix (pd_var 4) (pd_var 9)) pd_int (by first | exact nomark _ | rfl)) (sds_one (sd_asg false (i := 10) sc__law_rules.nd (pd_bin op_sub od_sub (pd_var 3) pd_int))) sds_nil) (sds_one (sd_app false 8 (pd_tup (pad_cons (pd_var 10) (pad_cons (pd_var 11) pad_nil))))))))))) (sds_one (sd_retO 8)))))))))
theorem sc__law_meets : FnScope ["n", "rules", "top", "meets", "case", "meet", "rule"] ["n", "rules"] (defScope s__law_meets) := ⟨rfl, rfl, rfl, by decide +kernel, rfl, by decide +kernel, by decide +kernel⟩
def b__law_meets_1 : DEnv → SRes := (sIf (eB (e2 dEq (e2 dAnd (eVar 4) (e2 dIx (eVar 6) (eC (.int 0)))) (eVar 4))) (sAsg false ([5] ++ ([6] ++ [])) 5 (e2 dAnd (eVar 5) (e2 dIx (eVar 6) (eC (.int 1))))) sNil)
def b__law_meets_2 : DEnv → SRes := (sSeq (sAsg false ([2] ++ []) 5 (e2 dSub (eVar 2) (eC (.int 1)))) (sSeq (sFor [1] [6] (eIt (eVar 1)) g1 b__law_meets_1) (sApp false [5] 3 (eVar 5))))
def g__law_meets : DEnv → SRes := (sSeq (sAsg false ([] ++ ([] ++ [0])) 2 (e2 dShl (eC (.int 1)) (e2 dShl (eC (.int 1)) (eVar 0)))) (sSeq (sAsgF false [] 3 (eLst eNil)) (sSeq (sForR [4] (eL rng1 (eCons (eVar 2) eNil)) g1 b__law_meets_2) (sRetO 3))))
def m__law_meets : List D → Res D := mOf 7 true g__law_meets
theorem w__law_meets (T : Tx K mg A) : FnD P w K mg base 1 A.f__law_meets A.d__law_meets ["n", "rules"] true m__law_meets := fnd_of T.F__law_meets sc__law_meets fun cdv A outer s H E hr => (sds_cons (sd_asg false (i := 2) sc__law_meets.nd (pd_bin op_shl od_shl pd_int (pd_bin op_shl od_shl pd_int (pd_var 0)))) (sds_cons (sd_asgF false (i := 3) sc__law_meets.nd (pf_lst pad_nil)) (sds_cons (sd_forR (S := ([2] ++ [])) (passes_of rfl) rfl (id_range1 T.z_range (pad_cons (pd_var 2) pad_nil)) (gd_name sc__law_meets.nd) (sds_cons (sd_asg false (i := 5) sc__law_meets.nd (pd_bin op_sub od_sub (pd_var 2) pd_int)) (sds_cons (sd_for (passes_of rfl) rfl (id_seq (pd_var 1)) (gd_name sc__law_meets.nd) (sds_one (sd_if (ptd_cmp (op_eqD hr.units) od_eq (pd_bin op_and od_and (pd_var 4) (pd_ix (pd_var 6) pd_int)) (pd_var 4) (by first | exact nomark _ | rfl)) (sds_one (sd_asg false (i := 5) sc__law_meets.nd (pd_bin op_and od_and (pd_var 5) (pd_ix (pd_var 6) pd_int)))) sds_nil))) (sds_one (sd_app false 3 (pd_var 5)))))) (sds_one (sd_retO 3)))))
theorem sc_everything : FnScope ["n"] ["n"] (defScope s_everything) := ⟨rfl, rfl, rfl, by decide +kernel, rfl, by decide +kernel, by decide +kernel⟩
def g_everything : DEnv → SRes := (sRet (([] ++ ([] ++ [0])) ++ []) (e2 dSub (e2 dShl (eC (.int 1)) (e2 dShl (eC (.int 1)) (eVar 0))) (eC (.int 1))))
def m_everything : List D → Res D := mOf 1 false g_everything
theorem w_everything (T : Tx K mg A) : FnD P w K mg base 1 A.f_everything A.d_everything ["n"] false m_everything := fnd_of T.F_everything sc_everything fun cdv A outer s H E hr => (sds_one (sd_ret (pd_bin op_sub od_sub (pd_bin op_shl od_shl pd_int (pd_bin op_shl od_shl pd_int (pd_var 0))) pd_int)))
theorem sc_is_prop : FnScope ["n", "prop"] ["n", "prop"] (defScope s_is_prop) := ⟨rfl, rfl, rfl, by decide +kernel, rfl, by decide +kernel, by decide +kernel⟩
def g_is_prop : DEnv → SRes := (sRet ([] ++ [1] ++ ([0] ++ [])) (eCh dLe dLe (eC (.int 0)) (eVar 1) (eL (callN 1 m_everything) (eCons (eVar 0) eNil))))
def m_is_prop : List D → Res D := mOf 2 false g_is_prop
theorem w_is_prop (T : Tx K mg A) : FnD P w K mg base 2 A.f_is_prop A.d_is_prop ["n", "prop"] false m_is_prop := fnd_of T.F_is_prop sc_is_prop fun cdv A outer s H E hr => (sds_one (sd_ret (pd_chain op_le od_intb op_le od_intb pd_int (pd_var 1) (pd_call (takes_of rfl rfl rfl rfl) hr (by decide) (w_everything T) T.m_everything T.F_everything.kp T.b_everything (pad_cons (pd_var 0) pad_nil)))))
theorem sc_Book_init : FnScope ["self", "n", "rules", "kept", "number", "body", "head"] ["self", "n", "rules"] (defScope s_Book_init) := ⟨rfl, rfl, rfl, by decide +kernel, rfl, by decide +kernel, by decide +kernel⟩
def b_Book_init_1 : DEnv → SRes := (sSeq (sIf (eOr (eNot (eTru (eL (callN 2 m_is_prop) (eCons (eVar 1) (eCons (eVar 5) eNil))))) (eNot (eTru (eL (callN 2 m_is_prop) (eCons (eVar 1) (eCons (eVar 6) eNil)))))) sNever sNil) (sApp false ([5] ++ ([6] ++ [])) 3 (eTup (eCons (eVar 5) (eCons (eVar 6) eNil)))))
def g_Book_init : DEnv → SRes := (sSeq (sIf (eNot (eB (eCh dLe dLe (eC (.int 1)) (eVar 1) (eC (.int 4))))) sNever sNil) (sSeq (sIf (eB (e2 dGt (eL bLen (eCons (eVar 2) eNil)) (eC (.int 16)))) sNever sNil) (sSeq (sAsgF false [] 3 (eLst eNil)) (sSeq (sFor ([2] ++ []) ([4] ++ (([5] ++ ([6] ++ [])) ++ [])) (eL bEnum (eCons (eVar 2) eNil)) (gT 2 (gC g1 (gC (gT 2 (gC g1 (gC g1 gN))) gN))) b_Book_init_1) (sSeq (sAttr false [1] ["Book"] 0 "n" (eVar 1)) (sAttr true ([3] ++ []) ["Book"] 0 "rules" (eL bTuple (eCons (eVar 3) eNil))))))))
def m_Book_init : List D → Res (List Str × List D) := mI 7 "Book" g_Book_init
theorem w_Book_init (T : Tx K mg A) : FnI P w K mg base 3 A.f_Book_init A.d_Book_init ["self", "n", "rules"] A.c_Book m_Book_init := fni_of (c := "Book") T.F_Book_init sc_Book_init T.g_Book fun cdv A outer s H E hr => (sds_cons (sd_if (ptd_not (ptd_chain op_le od_intb op_le od_intb pd_int (pd_var 1) (pd_cval T.g_Book T.r_Book T.v_Book_MOST_LETTERS (fun _ => by constructor)))) (sds_one sd_never) sds_nil) (sds_cons (sd_if (ptd_cmp op_gt od_intb (pd_B call_lenA cd_len T.z_len (pad_cons (pd_var 2) pad_nil)) (pd_cval T.g_Book T.r_Book T.v_Book_MOST_RULES (fun _ => by constructor)) (by first | exact nomark _ | rfl)) (sds_one sd_never) sds_nil) (sds_cons (sd_asgF false (i := 3) sc_Book_init.nd (pf_lst pad_nil)) (sds_cons (sd_for (passes_of rfl) rfl (id_enum T.z_enumerate (pad_cons (pd_var 2) pad_nil)) (gd_tup rfl (gds_cons (gd_name sc_Book_init.nd) (gds_cons (gd_tup rfl (gds_cons (gd_name sc_Book_init.nd) (gds_cons (gd_name sc_Book_init.nd) gds_nil))) gds_nil))) (sds_cons (sd_if (ptd_w (pwd_or (ptd_not (ptd_tru (pd_call (takes_of rfl rfl rfl rfl) hr (by decide) (w_is_prop T) T.m_is_prop T.F_is_prop.kp T.b_is_prop (pad_cons (pd_var 1) (pad_cons (pd_var 5) pad_nil))))) (pwd_or1 (ptd_not (ptd_tru (pd_call (takes_of rfl rfl rfl rfl) hr (by decide) (w_is_prop T) T.m_is_prop T.F_is_prop.kp T.b_is_prop (pad_cons (pd_var 1) (pad_cons (pd_var 6) pad_nil)))))))) (sds_one sd_never) sds_nil) (sds_one (sd_app false 3 (pd_tup (pad_cons (pd_var 5) (pad_cons (pd_var 6) pad_nil))))))) (sds_cons (sd_attr false ["Book"] 0 (List.forall_mem_cons.2 ⟨⟨_, _, T.d_Book, (.head _)⟩, (fun _ h => nomatch h)⟩) (pd_var 1)) (sds_one (sd_attr true ["Book"] 0 (List.forall_mem_cons.2 ⟨⟨_, _, T.d_Book, (.tail _ (.head _))⟩, (fun _ h => nomatch h)⟩) (pd_T call_tuple_of cd_tuple T.z_tuple (pad_cons (pd_var 3) pad_nil)))))))))
theorem sc__law_due : FnScope ["meets", "facts", "manner", "join", "case", "allowed"] ["meets", "facts", "manner"] (defScope s__law_due) := ⟨rfl, rfl, rfl, by decide +kernel, rfl, by decide +kernel, by decide +kernel⟩
def b__law_due_1 : DEnv → SRes := (sSeq (sAsg false (([4] ++ [1]) ++ [4]) 5 (e2 dEq (e2 dAnd (eVar 4) (eVar 1)) (eVar 4))) (sSeq (sIf (eAnd (eB (e2 dIn (e3 dSl (eVar 2) eNoP (eP (eC (.int 5)))) (eTup (eCons (eC (.str "cases")) (eCons (eC (.str "both")) (eCons (eC (.str "both+")) eNil)))))) (eB (e2 dNe (e2 dAnd (eVar 4) (e2 dSub (eVar 4) (eC (.int 1)))) (eC (.int 0))))) (sAsg false [] 5 (eC (.bl false))) sNil) (sSeq (sIf (eAnd (eB (e2 dIn (e3 dSl (eVar 2) eNoP (eP (eC (.int 5)))) (eTup (eCons (eC (.str "steps")) (eCons (eC (.str "both")) (eCons (eC (.str "both+")) eNil)))))) (eB (e2 dNe (e2 dAnd (eVar 4) (e2 dIx (eVar 0) (eVar 4))) (eVar 4)))) (sAsg false [] 5 (eC (.bl false))) sNil) (sIf (eTru (eVar 5)) (sIf (eB (e2 dEq (e2 dIx (eVar 2) (e1 dNeg (eC (.int 1)))) (eC (.str "+")))) (sAsg false ([3] ++ (([0] ++ [4]) ++ [4])) 3 (e2 dOr (eVar 3) (e2 dAnd (e2 dIx (eVar 0) (eVar 4)) (eVar 4)))) (sAsg false ([3] ++ ([0] ++ [4])) 3 (e2 dOr (eVar 3) (e2 dIx (eVar 0) (eVar 4))))) sNil))))
def g__law_due : DEnv → SRes := (sSeq (sAsg false [] 3 (eC (.int 0))) (sSeq (sForR [4] (eL rng1 (eCons (eL bLen (eCons (eVar 0) eNil)) eNil)) g1 b__law_due_1) (sRet [3] (eVar 3))))
def m__law_due : List D → Res D := mOf 6 false g__law_due
theorem w__law_due (T : Tx K mg A) : FnD P w K mg base 1 A.f__law_due A.d__law_due ["meets", "facts", "manner"] false m__law_due := fnd_of T.F__law_due sc__law_due fun cdv A outer s H E hr => (sds_cons (sd_asg false (i := 3) sc__law_due.nd pd_int) (sds_cons (sd_forR (S := (([0] ++ []) ++ [])) (passes_of rfl) rfl (id_range1 T.z_range (pad_cons (pd_B call_lenA cd_len T.z_len (pad_cons (pd_var 0) pad_nil)) pad_nil)) (gd_name sc__law_due.nd) (sds_cons (sd_asg false (i := 5) sc__law_due.nd (pd_cmp (op_eqD hr.units) od_eq (pd_bin op_and od_and (pd_var 4) (pd_var 1)) (pd_var 4) (by first | exact nomark _ | rfl))) (sds_cons (sd_if (ptd_w (pwd_and (ptd_cmp (op_inA (u65 hr)) od_in (pd_sl (pd_var 2) pod_none (pod_some pd_int)) (pd_tup (pad_cons pd_str (pad_cons pd_str (pad_cons pd_str pad_nil)))) (by first | exact nomark _ | rfl)) (pwd_and1 (ptd_cmp (op_neD hr.units) od_ne (pd_bin op_and od_and (pd_var 4) (pd_bin op_sub od_sub (pd_var 4) pd_int)) pd_int (by first | exact nomark _ | rfl))))) (sds_one (sd_asg false (i := 5) sc__law_due.nd pd_bl)) sds_nil) (sds_cons (sd_if (ptd_w (pwd_and (ptd_cmp (op_inA (u65 hr)) od_in (pd_sl (pd_var 2) pod_none (pod_some pd_int)) (pd_tup (pad_cons pd_str (pad_cons pd_str (pad_cons pd_str pad_nil)))) (by first | exact nomark _ | rfl)) (pwd_and1 (ptd_cmp (op_neD hr.units) od_ne (pd_bin op_and od_and (pd_var 4) (pd_ix (pd_var 0) (pd_var 4))) (pd_var 4) (by first | exact nomark _ | rfl))))) (sds_one (sd_asg false (i := 5) sc__law_due.nd pd_bl)) sds_nil) (sds_one (sd_if (ptd_tru (pd_var 5)) (sds_one (sd_if (ptd_cmp (op_eqD hr.units) od_eq (pd_ix (pd_var 2) (pd_neg pd_int)) pd_str (by first | exact nomark _ | rfl)) (sds_one (sd_asg false (i := 3) sc__law_due.nd (pd_bin op_or od_orr (pd_var 3) (pd_bin op_and od_and (pd_ix (pd_var 0) (pd_var 4)) (pd_var 4))))) (sds_one (sd_asg false (i := 3) sc__law_due.nd (pd_bin op_or od_orr (pd_var 3) (pd_ix (pd_var 0) (pd_var 4))))))) sds_nil)))))) (sds_one (sd_ret (pd_var 3)))))
theorem sc_switches : FnScope ["manner", "plain"] ["manner"] (defScope s_switches) := ⟨rfl, rfl, rfl, by decide +kernel, rfl, by decide +kernel, by decide +kernel⟩
def g_switches : DEnv → SRes := (sSeq (sIf (eB (e2 dNotIn (eVar 0) (eC (.tup k_MANNERS)))) sNever sNil) (sSeq (sAsg false ([0] ++ ([] ++ [])) 1 (eM mRemoveSuffix (eVar 0) (eCons (eC (.str "+")) eNil))) (sRet (([1] ++ ([] ++ ([] ++ []))) ++ (([1] ++ ([] ++ ([] ++ []))) ++ (([1] ++ [0]) ++ []))) (eTup (eCons (e2 dIn (eVar 1) (eTup (eCons (eC (.str "cases")) (eCons (eC (.str "both")) eNil)))) (eCons (e2 dIn (eVar 1) (eTup (eCons (eC (.str "steps")) (eCons (eC (.str "both")) eNil)))) (eCons (e2 dNe (eVar 1) (eVar 0)) eNil)))))))
def m_switches : List D → Res D := mOf 2 false g_switches
theorem w_switches (T : Tx K mg A) : FnD P w K mg base 1 A.f_switches A.d_switches ["manner"] false m_switches := fnd_of T.F_switches sc_switches fun cdv A outer s H E hr => (sds_cons (sd_if (ptd_cmp (op_notinA (u65 hr)) od_notin (pd_var 0) (pd_ktup T.k_MANNERS) (by first | exact nomark _ | rfl)) (sds_one sd_never) sds_nil) (sds_cons (sd_asg false (i := 1) sc_switches.nd (pd_m PySem.F.slot_str_removesuffix PySem.F.type_str_removesuffix mt_removesuffix md_removesuffix (pd_var 0) (pad_cons pd_str pad_nil))) (sds_one (sd_ret (pd_tup (pad_cons (pd_cmp (op_inA (u65 hr)) od_in (pd_var 1) (pd_tup (pad_cons pd_str (pad_cons pd_str pad_nil))) (by first | exact nomark _ | rfl)) (pad_cons (pd_cmp (op_inA (u65 hr)) od_in (pd_var 1) (pd_tup (pad_cons pd_str (pad_cons pd_str pad_nil))) (by first | exact nomark _ | rfl)) (pad_cons (pd_cmp (op_neD hr.units) od_ne (pd_var 1) (pd_var 0) (by first | exact nomark _ | rfl)) pad_nil))))))))
theorem sc_Book_iter : FnScope ["self"] ["self"] (defScope s_Book_iter) := ⟨rfl, rfl, rfl, by decide +kernel, rfl, by decide +kernel, by decide +kernel⟩
theorem w_Book_iter (T : Tx K mg A) : FnS P w K mg base 1 A.f_Book_iter A.d_Book_iter ["self"] (spIt K A.c_Book "rules") := fnit_of (k := 0) T.F_Book_iter sc_Book_iter T.d_Book (.tail _ (.head _)) T.z_iter fun cdv A outer s H E => pss_one (ps_ret (pe_callB call_iterT (by rfl) T.z_iter (by decide +kernel) (pa_cons (pe_fld (pv 0) rfl) pa_nil)))
theorem sc_meet_heads : FnScope ["book", "case", "prop", "body", "head"] ["book", "case"] (defScope s_meet_heads) := ⟨rfl, rfl, rfl, by decide +kernel, rfl, by decide +kernel, by decide +kernel⟩
def b_meet_heads_1 : DEnv → SRes := (sIf (eB (e2 dEq (e2 dAnd (eVar 1) (eVar 3)) (eVar 1))) (sAsg false ([2] ++ [4]) 2 (e2 dAnd (eVar 2) (eVar 4))) sNil)
def g_meet_heads : DEnv → SRes := (sSeq (sAsg false ([0] ++ []) 2 (eL (callN 1 m_everything) (eCons (e1 (dFld ["Book"] "n") (eVar 0)) eNil))) (sSeq (sFor [0] ([3] ++ ([4] ++ [])) (e1 (itO "Book" "rules") (eVar 0)) (gT 2 (gC g1 (gC g1 gN))) b_meet_heads_1) (sRet [2] (eVar 2))))
def m_meet_heads : List D → Res D := mOf 5 false g_meet_heads
theorem w_meet_heads (T : Tx K mg A) : FnD P w K mg base 2 A.f_meet_heads A.d_meet_heads ["book", "case"] false m_meet_heads := fnd_of T.F_meet_heads sc_meet_heads fun cdv A outer s H E hr => (sds_cons (sd_asg false (i := 2) sc_meet_heads.nd (pd_call (takes_of rfl rfl rfl rfl) hr (by decide) (w_everything T) T.m_everything T.F_everything.kp T.b_everything (pad_cons (pd_fld ["Book"] (List.forall_mem_cons.2 ⟨⟨_, _, T.d_Book, (.head _)⟩, (fun _ h => nomatch h)⟩) (pd_var 0)) pad_nil))) (sds_cons (sd_for (passes_of rfl) rfl (id_own hr (by decide) T.g_Book T.it_Book T.itf_Book (w_Book_iter T) T.b_Book_iter (pd_var 0)) (gd_tup rfl (gds_cons (gd_name sc_meet_heads.nd) (gds_cons (gd_name sc_meet_heads.nd) gds_nil))) (sds_one (sd_if (ptd_cmp (op_eqD hr.units) od_eq (pd_bin op_and od_and (pd_var 1) (pd_var 3)) (pd_var 1) (by first | exact nomark _ | rfl)) (sds_one (sd_asg false (i := 2) sc_meet_heads.nd (pd_bin op_and od_and (pd_var 2) (pd_var 4)))) sds_nil))) (sds_one (sd_ret (pd_var 2)))))
theorem sc_steps : GScope ["book", "facts", "prop", "smaller"] ["book", "facts"] (defScope s_steps) := ⟨rfl, rfl, rfl, by decide +kernel, rfl, by decide +kernel, by decide +kernel⟩
def c_steps_1 : DEnv → Res Bool := (eB (e2 dNe (eVar 3) (eVar 2)))
def b_steps_1 : DEnv → GRes := (gSeq (gPl (sAsg false [3] 2 (eVar 3))) (gSeq (gPl (sAsg false ([2] ++ ([0] ++ ([2] ++ []))) 3 (e2 dAnd (eVar 2) (eL (callN 2 m_meet_heads) (eCons (eVar 0) (eCons (eVar 2) eNil)))))) (gSeq (gYd false [2] (eVar 2)) gNil)))
def g_steps : DEnv → GRes := (gSeq (gPl (sAsg false [1] 2 (eVar 1))) (gSeq (gPl (sAsg false ([2] ++ ([0] ++ ([2] ++ []))) 3 (e2 dAnd (eVar 2) (eL (callN 2 m_meet_heads) (eCons (eVar 0) (eCons (eVar 2) eNil)))))) (gSeq (gYd false [2] (eVar 2)) (gSeq (gWh c_steps_1 b_steps_1 1000) gNil))))
def m_steps : List D → Res (List D) := mG 4 g_steps
theorem w_steps (T : Tx K mg A) : FnG P w K mg base 3 A.f_steps A.d_steps ["book", "facts"] m_steps := fng_of T.F_steps sc_steps fun cdv A outer s H E pn hr => (gsds_cons (gsd_pl (sd_asg false (i := 2) sc_steps.nd (pd_var 1))) (gsds_cons (gsd_pl (sd_asg false (i := 3) sc_steps.nd (pd_bin op_and od_and (pd_var 2) (pd_call takes_gcx hr (by decide) (w_meet_heads T) T.m_meet_heads T.F_meet_heads.kp T.b_meet_heads (pad_cons (pd_var 0) (pad_cons (pd_var 2) pad_nil)))))) (gsds_cons (gsd_yield false (pd_var 2)) (gsds_cons (gsd_while 1000 owns_gcx (ptd_cmp (op_neD hr.units) od_ne (pd_var 3) (pd_var 2) (by first | exact nomark _ | rfl)) (gsds_cons (gsd_pl (sd_asg false (i := 2) sc_steps.nd (pd_var 3))) (gsds_cons (gsd_pl (sd_asg false (i := 3) sc_steps.nd (pd_bin op_and od_and (pd_var 2) (pd_call takes_gcx hr (by decide) (w_meet_heads T) T.m_meet_heads T.F_meet_heads.kp T.b_meet_heads (pad_cons (pd_var 0) (pad_cons (pd_var 2) pad_nil)))))) (gsds_cons (gsd_yield false (pd_var 2)) gsds_nil)))) gsds_nil))))
theorem sc_settle : FnScope ["book", "facts"] ["book", "facts"] (defScope s_settle) := ⟨rfl, rfl, rfl, by decide +kernel, rfl, by decide +kernel, by decide +kernel⟩
def g_settle : DEnv → SRes := (sRet (([0] ++ ([1] ++ [])) ++ []) (e2 dIx (eFz (eL (callG 2 m_steps) (eCons (eVar 0) (eCons (eVar 1) eNil)))) (e1 dNeg (eC (.int 1)))))
def m_settle : List D → Res D := mOf 2 false g_settle
theorem w_settle (T : Tx K mg A) : FnD P w K mg base 7 A.f_settle A.d_settle ["book", "facts"] false m_settle := fnd_of T.F_settle sc_settle fun cdv A outer s H E hr => (sds_one (sd_ret (pd_ix (pd_fz (pf_listG hr (by decide) (w_steps T) T.m_steps T.F_steps.kp T.b_steps T.z_list (pad_cons (pd_var 0) (pad_cons (pd_var 1) pad_nil)))) (pd_neg pd_int))))
theorem sc_output : FnScope ["book", "case", "manner", "prop"] ["book", "case", "manner"] (defScope s_output) := ⟨rfl, rfl, rfl, by decide +kernel, rfl, by decide +kernel, by decide +kernel⟩
def g_output : DEnv → SRes := (sSeq (sAsg false ([0] ++ ([1] ++ [])) 3 (eL (callN 2 m_meet_heads) (eCons (eVar 0) (eCons (eVar 1) eNil)))) (sSeq (sIf (eTru (e2 dIx (eL (callN 1 m_switches) (eCons (eVar 2) eNil)) (eC (.int 2)))) (sRet ([3] ++ [1]) (e2 dAnd (eVar 3) (eVar 1))) sNil) (sRet [3] (eVar 3))))
def m_output : List D → Res D := mOf 4 false g_output
theorem w_output (T : Tx K mg A) : FnD P w K mg base 3 A.f_output A.d_output ["book", "case", "manner"] false m_output := fnd_of T.F_output sc_output fun cdv A outer s H E hr => (sds_cons (sd_asg false (i := 3) sc_output.nd (pd_call (takes_of rfl rfl rfl rfl) hr (by decide) (w_meet_heads T) T.m_meet_heads T.F_meet_heads.kp T.b_meet_heads (pad_cons (pd_var 0) (pad_cons (pd_var 1) pad_nil)))) (sds_cons (sd_if (ptd_tru (pd_ix (pd_call (takes_of rfl rfl rfl rfl) hr (by decide) (w_switches T) T.m_switches T.F_switches.kp T.b_switches (pad_cons (pd_var 2) pad_nil)) pd_int)) (sds_one (sd_ret (pd_bin op_and od_and (pd_var 3) (pd_var 1)))) sds_nil) (sds_one (sd_ret (pd_var 3)))))
theorem sc_worlds_of : FnScope ["prop", "worlds", "world"] ["prop"] (defScope s_worlds_of) := ⟨rfl, rfl, rfl, by decide +kernel, rfl, by decide +kernel, by decide +kernel⟩
def c_worlds_of_1 : DEnv → Res Bool := (eB (e2 dGt (eVar 0) (eC (.int 0))))
def b_worlds_of_1 : DEnv → SRes := (sSeq (sIf (eB (e2 dEq (e2 dAnd (eVar 0) (eC (.int 1))) (eC (.int 1)))) (sApp false [2] 1 (eVar 2)) sNil) (sSeq (sAsg false ([0] ++ []) 0 (e2 dShr (eVar 0) (eC (.int 1)))) (sAsg false ([2] ++ []) 2 (e2 dAdd (eVar 2) (eC (.int 1))))))
def g_worlds_of : DEnv → SRes := (sSeq (sAsgF false [] 1 (eLst eNil)) (sSeq (sAsg false [] 2 (eC (.int 0))) (sSeq (whL c_worlds_of_1 b_worlds_of_1 1000) (sRetO 1))))
def m_worlds_of : List D → Res D := mOf 3 true g_worlds_of
theorem w_worlds_of (T : Tx K mg A) : FnD P w K mg base 1 A.f_worlds_of A.d_worlds_of ["prop"] true m_worlds_of := fnd_of T.F_worlds_of sc_worlds_of fun cdv A outer s H E hr => (sds_cons (sd_asgF false (i := 1) sc_worlds_of.nd (pf_lst pad_nil)) (sds_cons (sd_asg false (i := 2) sc_worlds_of.nd pd_int) (sds_cons (sd_while 1000 (passes_of rfl) (ptd_cmp op_gt od_intb (pd_var 0) pd_int (by first | exact nomark _ | rfl)) (sds_cons (sd_if (ptd_cmp (op_eqD hr.units) od_eq (pd_bin op_and od_and (pd_var 0) pd_int) pd_int (by first | exact nomark _ | rfl)) (sds_one (sd_app false 1 (pd_var 2))) sds_nil) (sds_cons (sd_asg false (i := 0) sc_worlds_of.nd (pd_bin op_shr od_shr (pd_var 0) pd_int)) (sds_one (sd_asg false (i := 2) sc_worlds_of.nd (pd_bin op_addA od_add (pd_var 2) pd_int)))))) (sds_one (sd_retO 1)))))
theorem sc_within : FnScope ["first", "second"] ["first", "second"] (defScope s_within) := ⟨rfl, rfl, rfl, by decide +kernel, rfl, by decide +kernel, by decide +kernel⟩
def g_within : DEnv → SRes := (sRet (([0] ++ [1]) ++ [0]) (e2 dEq (e2 dAnd (eVar 0) (eVar 1)) (eVar 0)))
def m_within : List D → Res D := mOf 2 false g_within
theorem w_within (T : Tx K mg A) : FnD P w K mg base 1 A.f_within A.d_within ["first", "second"] false m_within := fnd_of T.F_within sc_within fun cdv A outer s H E hr => (sds_one (sd_ret (pd_cmp (op_eqD hr.units) od_eq (pd_bin op_and od_and (pd_var 0) (pd_var 1)) (pd_var 0) (by first | exact nomark _ | rfl))))
theorem sc_is_stable : FnScope ["book", "case"] ["book", "case"] (defScope s_is_stable) := ⟨rfl, rfl, rfl, by decide +kernel, rfl, by decide +kernel, by decide +kernel⟩
def g_is_stable : DEnv → SRes := (sRet ([1] ++ (([0] ++ ([1] ++ [])) ++ [])) (eL (callN 2 m_within) (eCons (eVar 1) (eCons (eL (callN 2 m_meet_heads) (eCons (eVar 0) (eCons (eVar 1) eNil))) eNil))))
def m_is_stable : List D → Res D := mOf 2 false g_is_stable
theorem w_is_stable (T : Tx K mg A) : FnD P w K mg base 3 A.f_is_stable A.d_is_stable ["book", "case"] false m_is_stable := fnd_of T.F_is_stable sc_is_stable fun cdv A outer s H E hr => (sds_one (sd_ret (pd_call (takes_of rfl rfl rfl rfl) hr (by decide) (w_within T) T.m_within T.F_within.kp T.b_within (pad_cons (pd_var 1) (pad_cons (pd_call (takes_of rfl rfl rfl rfl) hr (by decide) (w_meet_heads T) T.m_meet_heads T.F_meet_heads.kp T.b_meet_heads (pad_cons (pd_var 0) (pad_cons (pd_var 1) pad_nil))) pad_nil)))))
theorem sc_due : FnScope ["book", "facts", "manner", "prop", "world", "by_cases", "in_steps", "_", "case"] ["book", "facts", "manner"] (defScope s_due) := ⟨rfl, rfl, rfl, by decide +kernel, rfl, by decide +kernel, by decide +kernel⟩
def b_due_1 : DEnv → SRes := (sSeq (sAsg false ([] ++ [4]) 8 (e2 dShl (eC (.int 1)) (eVar 4))) (sIf (eOr (eNot (eTru (eVar 6))) (eTru (eL (callN 2 m_is_stable) (eCons (eVar 0) (eCons (eVar 8) eNil))))) (sAsg false ([3] ++ ([0] ++ ([8] ++ ([2] ++ [])))) 3 (e2 dOr (eVar 3) (eL (callN 3 m_output) (eCons (eVar 0) (eCons (eVar 8) (eCons (eVar 2) eNil)))))) sNil))
def g_due : DEnv → SRes := (sSeq (sTgt false ([2] ++ []) ([5] ++ ([6] ++ ([7] ++ []))) (gT 3 (gC g1 (gC g1 (gC g1 gN)))) (eL (callN 1 m_switches) (eCons (eVar 2) eNil))) (sSeq (sIf (eNot (eTru (eVar 5))) (sSeq (sAsg false ([6] ++ ([0] ++ ([1] ++ [])) ++ [1]) 8 (eIf (eTru (eVar 6)) (eL (callN 2 m_settle) (eCons (eVar 0) (eCons (eVar 1) eNil))) (eVar 1))) (sRet ([0] ++ ([8] ++ ([2] ++ []))) (eL (callN 3 m_output) (eCons (eVar 0) (eCons (eVar 8) (eCons (eVar 2) eNil)))))) sNil) (sSeq (sAsg false ([0] ++ ([] ++ ([2] ++ []))) 3 (eL (callN 3 m_output) (eCons (eVar 0) (eCons (eC (.int 0)) (eCons (eVar 2) eNil))))) (sSeq (sFor ([1] ++ []) [4] (eL (callF 1 m_worlds_of) (eCons (eVar 1) eNil)) g1 b_due_1) (sRet [3] (eVar 3))))))
def m_due : List D → Res D := mOf 9 false g_due
theorem w_due (T : Tx K mg A) : FnD P w K mg base 8 A.f_due A.d_due ["book", "facts", "manner"] false m_due := fnd_of T.F_due sc_due fun cdv A outer s H E hr => (sds_cons (sd_tgt false (pd_call (takes_of rfl rfl rfl rfl) hr (by decide) (w_switches T) T.m_switches T.F_switches.kp T.b_switches (pad_cons (pd_var 2) pad_nil)) (gd_tup rfl (gds_cons (gd_name sc_due.nd) (gds_cons (gd_name sc_due.nd) (gds_cons (gd_name sc_due.nd) gds_nil))))) (sds_cons (sd_if (ptd_not (ptd_tru (pd_var 5))) (sds_cons (sd_asg false (i := 8) sc_due.nd (pd_if (ptd_tru (pd_var 6)) (pd_call (takes_of rfl rfl rfl rfl) hr (by decide) (w_settle T) T.m_settle T.F_settle.kp T.b_settle (pad_cons (pd_var 0) (pad_cons (pd_var 1) pad_nil))) (pd_var 1))) (sds_one (sd_ret (pd_call (takes_of rfl rfl rfl rfl) hr (by decide) (w_output T) T.m_output T.F_output.kp T.b_output (pad_cons (pd_var 0) (pad_cons (pd_var 8) (pad_cons (pd_var 2) pad_nil))))))) sds_nil) (sds_cons (sd_asg false (i := 3) sc_due.nd (pd_call (takes_of rfl rfl rfl rfl) hr (by decide) (w_output T) T.m_output T.F_output.kp T.b_output (pad_cons (pd_var 0) (pad_cons pd_int (pad_cons (pd_var 2) pad_nil))))) (sds_cons (sd_for (passes_of rfl) rfl (id_new (pf_call (takes_of rfl rfl rfl rfl) hr (by decide) (w_worlds_of T) T.m_worlds_of T.F_worlds_of.kp T.b_worlds_of (pad_cons (pd_var 1) pad_nil))) (gd_name sc_due.nd) (sds_cons (sd_asg false (i := 8) sc_due.nd (pd_bin op_shl od_shl pd_int (pd_var 4))) (sds_one (sd_if (ptd_w (pwd_or (ptd_not (ptd_tru (pd_var 6))) (pwd_or1 (ptd_tru (pd_call (takes_of rfl rfl rfl rfl) hr (by decide) (w_is_stable T) T.m_is_stable T.F_is_stable.kp T.b_is_stable (pad_cons (pd_var 0) (pad_cons (pd_var 8) pad_nil))))))) (sds_one (sd_asg false (i := 3) sc_due.nd (pd_bin op_or od_orr (pd_var 3) (pd_call (takes_of rfl rfl rfl rfl) hr (by decide) (w_output T) T.m_output T.F_output.kp T.b_output (pad_cons (pd_var 0) (pad_cons (pd_var 8) (pad_cons (pd_var 2) pad_nil))))))) sds_nil)))) (sds_one (sd_ret (pd_var 3)))))))
theorem sc__law_is_integer : FnScope ["value"] ["value"] (defScope s__law_is_integer) := ⟨rfl, rfl, rfl, by decide +kernel, rfl, by decide +kernel, by decide +kernel⟩
def g__law_is_integer : DEnv → SRes := (sRet ([0] ++ [0]) (eAndV (e1 (dIsi "int") (eVar 0)) (eNotV (e1 (dIsi "bool") (eVar 0)))))
def m__law_is_integer : List D → Res D := mOf 1 false g__law_is_integer
theorem w__law_is_integer (T : Tx K mg A) : FnD P w K mg base 1 A.f__law_is_integer A.d__law_is_integer ["value"] false m__law_is_integer := fnd_of T.F__law_is_integer sc__law_is_integer fun cdv A outer s H E hr => (sds_one (sd_ret (pd_and (pd_isi "int" T.z_isinstance T.z_int (pd_var 0)) (pd_one (pd_not (pd_isi "bool" T.z_isinstance T.z_bool (pd_var 0)))))))
theorem sc_is_due : FnScope ["book", "facts", "claim", "manner"] ["book", "facts", "claim", "manner"] (defScope s_is_due) := ⟨rfl, rfl, rfl, by decide +kernel, rfl, by decide +kernel, by decide +kernel⟩
def g_is_due : DEnv → SRes := (sRet (([0] ++ ([1] ++ ([3] ++ []))) ++ ([2] ++ [])) (eL (callN 2 m_within) (eCons (eL (callN 3 m_due) (eCons (eVar 0) (eCons (eVar 1) (eCons (eVar 3) eNil)))) (eCons (eVar 2) eNil))))
def m_is_due : List D → Res D := mOf 4 false g_is_due
theorem w_is_due (T : Tx K mg A) : FnD P w K mg base 9 A.f_is_due A.d_is_due ["book", "facts", "claim", "manner"] false m_is_due := fnd_of T.F_is_due sc_is_due fun cdv A outer s H E hr => (sds_one (sd_ret (pd_call (takes_of rfl rfl rfl rfl) hr (by decide) (w_within T) T.m_within T.F_within.kp T.b_within (pad_cons (pd_call (takes_of rfl rfl rfl rfl) hr (by decide) (w_due T) T.m_due T.F_due.kp T.b_due (pad_cons (pd_var 0) (pad_cons (pd_var 1) (pad_cons (pd_var 3) pad_nil)))) (pad_cons (pd_var 2) pad_nil)))))
theorem sc_law : FnScope ["script", "letters", "n", "count", "rules", "top", "drawn", "facts", "meets", "book", "manner", "expected", "actual", "claim", "told"] ["script"] (defScope s_law) := ⟨rfl, rfl, rfl, by decide +kernel, rfl, by decide +kernel, by decide +kernel⟩
def b_law_1 : DEnv → SRes := (sSeq (sAsg false ([9] ++ ([7] ++ ([13] ++ ([10] ++ [])))) 14 (eL (callN 4 m_is_due) (eCons (eVar 9) (eCons (eVar 7) (eCons (eVar 13) (eCons (eVar 10) eNil)))))) (sIf (eOr (eNot (eTru (e1 (dIsi "bool") (eVar 14)))) (eB (e2 dNe (eVar 14) (e2 dEq (e2 dAnd (eVar 11) (eVar 13)) (eVar 11))))) (sRet [] (eC (.bl false))) sNil))
def b_law_2 : DEnv → SRes := (sSeq (sAsg false ([8] ++ ([7] ++ ([10] ++ []))) 11 (eL (callN 3 m__law_due) (eCons (eVar 8) (eCons (eVar 7) (eCons (eVar 10) eNil))))) (sSeq (sAsg false ([9] ++ ([7] ++ ([10] ++ []))) 12 (eL (callN 3 m_due) (eCons (eVar 9) (eCons (eVar 7) (eCons (eVar 10) eNil))))) (sSeq (sIf (eOr (eNot (eTru (eL (callN 1 m__law_is_integer) (eCons (eVar 12) eNil)))) (eB (e2 dNe (eVar 12) (eVar 11)))) (sRet [] (eC (.bl false))) sNil) (sFor (([6] ++ []) ++ ([11] ++ (([11] ++ ([11] ++ [])) ++ (([11] ++ ([6] ++ [])) ++ [])))) [13] (eLst (eCons (e2 dIx (eVar 6) (eC (.int 2))) (eCons (eVar 11) (eCons (e2 dAnd (eVar 11) (e2 dSub (eVar 11) (eC (.int 1)))) (eCons (e2 dOr (eVar 11) (e2 dIx (eVar 6) (eC (.int 2)))) eNil))))) g1 b_law_1))))
def g_law : DEnv → SRes := (sSeq (sAsg false ([] ++ ([] ++ ([] ++ ([] ++ [])))) 1 (eFz (eLst (eCons (eC (.int 2)) (eCons (eC (.int 1)) (eCons (eC (.int 3)) (eCons (eC (.int 2)) eNil))))))) (sSeq (sAsg false ([1] ++ (([0] ++ ([] ++ [])) ++ [])) 2 (e2 dIx (eVar 1) (e2 dMod (eL (callN 2 m__law_cell) (eCons (eVar 0) (eCons (eC (.int 0)) eNil))) (eC (.int 4))))) (sSeq (sAsg false (([] ++ ([0] ++ ([] ++ []))) ++ []) 3 (e2 dMod (e2 dAdd (eC (.int 3)) (eL (callN 2 m__law_cell) (eCons (eVar 0) (eCons (eC (.int 1)) eNil)))) (eC (.int 6)))) (sSeq (sIf (eB (e2 dEq (e2 dMod (e2 dDiv (eL (callN 2 m__law_cell) (eCons (eVar 0) (eCons (eC (.int 1)) eNil))) (eC (.int 6))) (eC (.int 8))) (eC (.int 1)))) (sAsg false ([] ++ ((([0] ++ ([] ++ [])) ++ []) ++ [])) 3 (e2 dAdd (eC (.int 6)) (e2 dMod (e2 dDiv (eL (callN 2 m__law_cell) (eCons (eVar 0) (eCons (eC (.int 1)) eNil))) (eC (.int 48))) (eC (.int 11))))) sNil) (sSeq (sAsg false ([0] ++ ([2] ++ ([3] ++ []))) 4 (eFz (eL (callF 3 m__law_rules) (eCons (eVar 0) (eCons (eVar 2) (eCons (eVar 3) eNil)))))) (sSeq (sAsg false ([] ++ ([] ++ [2])) 5 (e2 dShl (eC (.int 1)) (e2 dShl (eC (.int 1)) (eVar 2)))) (sSeq (sAsg false ([0] ++ ([] ++ ([] ++ ([5] ++ [])))) 6 (eFz (eL (callF 4 m__law_numbers) (eCons (eVar 0) (eCons (eC (.int 6)) (eCons (eC (.int 3)) (eCons (eVar 5) eNil))))))) (sSeq (sAsg false ([6] ++ []) 7 (e2 dIx (eVar 6) (eC (.int 0)))) (sSeq (sIf (eB (e2 dEq (e2 dMod (e2 dDiv (eL (callN 2 m__law_cell) (eCons (eVar 0) (eCons (eC (.int 0)) eNil))) (eC (.int 4))) (eC (.int 3))) (eC (.int 1)))) (sAsg false (([6] ++ []) ++ ([6] ++ [])) 7 (e2 dAnd (e2 dIx (eVar 6) (eC (.int 0))) (e2 dIx (eVar 6) (eC (.int 1))))) sNil) (sSeq (sAsg false ([2] ++ ([4] ++ [])) 8 (eFz (eL (callF 2 m__law_meets) (eCons (eVar 2) (eCons (eVar 4) eNil))))) (sSeq (sAsg false ([2] ++ (([4] ++ []) ++ [])) 9 (eL (mkD "Book" 3 m_Book_init) (eCons (eVar 2) (eCons (eFz (eL bList (eCons (eVar 4) eNil))) eNil)))) (sSeq (sFor ([] ++ ([] ++ ([] ++ ([] ++ ([] ++ ([] ++ ([] ++ ([] ++ [])))))))) [10] (eIt (eTup (eCons (eC (.str "once")) (eCons (eC (.str "cases")) (eCons (eC (.str "steps")) (eCons (eC (.str "both")) (eCons (eC (.str "once+")) (eCons (eC (.str "cases+")) (eCons (eC (.str "steps+")) (eCons (eC (.str "both+")) eNil)))))))))) g1 b_law_2) (sRet (([9] ++ ([4] ++ [])) ++ ([9] ++ [2])) (eAndV (e2 dEq (e1 (dFld ["Book"] "rules") (eVar 9)) (eL bTuple (eCons (eVar 4) eNil))) (e2 dEq (e1 (dFld ["Book"] "n") (eVar 9)) (eVar 2))))))))))))))))
def m_law : List D → Res D := mOf 15 false g_law
theorem w_law (T : Tx K mg A) : FnD P w K mg base 10 A.f_law A.d_law ["script"] false m_law := fnd_of T.F_law sc_law fun cdv A outer s H E hr => (sds_cons (sd_asg false (i := 1) sc_law.nd (pd_fz (pf_lst (pad_cons pd_int (pad_cons pd_int (pad_cons pd_int (pad_cons pd_int pad_nil))))))) (sds_cons (sd_asg false (i := 2) sc_law.nd (pd_ix (pd_var 1) (pd_bin op_mod od_mod (pd_call (takes_of rfl rfl rfl rfl) hr (by decide) (w__law_cell T) T.m__law_cell T.F__law_cell.kp T.b__law_cell (pad_cons (pd_var 0) (pad_cons pd_int pad_nil))) pd_int))) (sds_cons (sd_asg false (i := 3) sc_law.nd (pd_bin op_mod od_mod (pd_bin op_addA od_add pd_int (pd_call (takes_of rfl rfl rfl rfl) hr (by decide) (w__law_cell T) T.m__law_cell T.F__law_cell.kp T.b__law_cell (pad_cons (pd_var 0) (pad_cons pd_int pad_nil)))) pd_int)) (sds_cons (sd_if (ptd_cmp (op_eqD hr.units) od_eq (pd_bin op_mod od_mod (pd_bin op_fdiv od_div (pd_call (takes_of rfl rfl rfl rfl) hr (by decide) (w__law_cell T) T.m__law_cell T.F__law_cell.kp T.b__law_cell (pad_cons (pd_var 0) (pad_cons pd_int pad_nil))) pd_int) pd_int) pd_int (by first | exact nomark _ | rfl)) (sds_one (sd_asg false (i := 3) sc_law.nd (pd_bin op_addA od_add pd_int (pd_bin op_mod od_mod (pd_bin op_fdiv od_div (pd_call (takes_of rfl rfl rfl rfl) hr (by decide) (w__law_cell T) T.m__law_cell T.F__law_cell.kp T.b__law_cell (pad_cons (pd_var 0) (pad_cons pd_int pad_nil))) pd_int) pd_int)))) sds_nil) (sds_cons (sd_asg false (i := 4) sc_law.nd (pd_fz (pf_call (takes_of rfl rfl rfl rfl) hr (by decide) (w__law_rules T) T.m__law_rules T.F__law_rules.kp T.b__law_rules (pad_cons (pd_var 0) (pad_cons (pd_var 2) (pad_cons (pd_var 3) pad_nil)))))) (sds_cons (sd_asg false (i := 5) sc_law.nd (pd_bin op_shl od_shl pd_int (pd_bin op_shl od_shl pd_int (pd_var 2)))) (sds_cons (sd_asg false (i := 6) sc_law.nd (pd_fz (pf_call (takes_of rfl rfl rfl rfl) hr (by decide) (w__law_numbers T) T.m__law_numbers T.F__law_numbers.kp T.b__law_numbers (pad_cons (pd_var 0) (pad_cons pd_int (pad_cons pd_int (pad_cons (pd_var 5) pad_nil))))))) (sds_cons (sd_asg false (i := 7) sc_law.nd (pd_ix (pd_var 6) pd_int)) (sds_cons (sd_if (ptd_cmp (op_eqD hr.units) od_eq (pd_bin op_mod od_mod (pd_bin op_fdiv od_div (pd_call (takes_of rfl rfl rfl rfl) hr (by decide) (w__law_cell T) T.m__law_cell T.F__law_cell.kp T.b__law_cell (pad_cons (pd_var 0) (pad_cons pd_int pad_nil))) pd_int) pd_int) pd_int (by first | exact nomark _ | rfl)) (sds_one (sd_asg false (i := 7) sc_law.nd (pd_bin op_and od_and (pd_ix (pd_var 6) pd_int) (pd_ix (pd_var 6) pd_int)))) sds_nil) (sds_cons (sd_asg false (i := 8) sc_law.nd (pd_fz (pf_call (takes_of rfl rfl rfl rfl) hr (by decide) (w__law_meets T) T.m__law_meets T.F__law_meets.kp T.b__law_meets (pad_cons (pd_var 2) (pad_cons (pd_var 4) pad_nil))))) (sds_cons (sd_asg false (i := 9) sc_law.nd (pd_make (takes_of rfl rfl rfl rfl) hr (by decide) T.mk_Book (w_Book_init T) T.g_Book T.b_Book_init (pad_cons (pd_var 2) (pad_cons (pd_fz (pf_T call_list_of cf_list T.z_list (pad_cons (pd_var 4) pad_nil))) pad_nil)))) (sds_cons (sd_for (passes_of rfl) rfl (id_seq (pd_tup (pad_cons pd_str (pad_cons pd_str (pad_cons pd_str (pad_cons pd_str (pad_cons pd_str (pad_cons pd_str (pad_cons pd_str (pad_cons pd_str pad_nil)))))))))) (gd_name sc_law.nd) (sds_cons (sd_asg false (i := 11) sc_law.nd (pd_call (takes_of rfl rfl rfl rfl) hr (by decide) (w__law_due T) T.m__law_due T.F__law_due.kp T.b__law_due (pad_cons (pd_var 8) (pad_cons (pd_var 7) (pad_cons (pd_var 10) pad_nil))))) (sds_cons (sd_asg false (i := 12) sc_law.nd (pd_call (takes_of rfl rfl rfl rfl) hr (by decide) (w_due T) T.m_due T.F_due.kp T.b_due (pad_cons (pd_var 9) (pad_cons (pd_var 7) (pad_cons (pd_var 10) pad_nil))))) (sds_cons (sd_if (ptd_w (pwd_or (ptd_not (ptd_tru (pd_call (takes_of rfl rfl rfl rfl) hr (by decide) (w__law_is_integer T) T.m__law_is_integer T.F__law_is_integer.kp T.b__law_is_integer (pad_cons (pd_var 12) pad_nil)))) (pwd_or1 (ptd_cmp (op_neD hr.units) od_ne (pd_var 12) (pd_var 11) (by first | exact nomark _ | rfl))))) (sds_one (sd_ret pd_bl)) sds_nil) (sds_one (sd_for (passes_of rfl) rfl (id_new (pf_lst (pad_cons (pd_ix (pd_var 6) pd_int) (pad_cons (pd_var 11) (pad_cons (pd_bin op_and od_and (pd_var 11) (pd_bin op_sub od_sub (pd_var 11) pd_int)) (pad_cons (pd_bin op_or od_orr (pd_var 11) (pd_ix (pd_var 6) pd_int)) pad_nil)))))) (gd_name sc_law.nd) (sds_cons (sd_asg false (i := 14) sc_law.nd (pd_call (takes_of rfl rfl rfl rfl) hr (by decide) (w_is_due T) T.m_is_due T.F_is_due.kp T.b_is_due (pad_cons (pd_var 9) (pad_cons (pd_var 7) (pad_cons (pd_var 13) (pad_cons (pd_var 10) pad_nil)))))) (sds_one (sd_if (ptd_w (pwd_or (ptd_not (ptd_tru (pd_isi "bool" T.z_isinstance T.z_bool (pd_var 14)))) (pwd_or1 (ptd_cmp (op_neD hr.units) od_ne (pd_var 14) (pd_cmp (op_eqD hr.units) od_eq (pd_bin op_and od_and (pd_var 11) (pd_var 13)) (pd_var 11) (by first | exact nomark _ | rfl)) (by first | exact nomark _ | rfl))))) (sds_one (sd_ret pd_bl)) sds_nil))))))))) (sds_one (sd_ret (pd_and (pd_cmp (op_eqD hr.units) od_eq (pd_fld ["Book"] (List.forall_mem_cons.2 ⟨⟨_, _, T.d_Book, (.tail _ (.head _))⟩, (fun _ h => nomatch h)⟩) (pd_var 9)) (pd_T call_tuple_of cd_tuple T.z_tuple (pad_cons (pd_var 4) pad_nil)) (by first | exact nomark _ | rfl)) (pd_one (pd_cmp (op_eqD hr.units) od_eq (pd_fld ["Book"] (List.forall_mem_cons.2 ⟨⟨_, _, T.d_Book, (.head _)⟩, (fun _ h => nomatch h)⟩) (pd_var 9)) (pd_var 2) (by first | exact nomark _ | rfl))))))))))))))))))
end
/-! ### what the top has written -/
theorem all_mk {l : PySem.W.OpenLaw} {w : World} {K : PySem.W.Frag} {h : Heap} {mg : Str → Option Value} {fa : Addr} (X : K.In h) (G : h.Ns mainGlobals mg) (hfa : mg "law" = some (.ref fa))
    {C_Book : Addr}
    {f1 : Addr} {od1 an1 : Option Addr} {sl1 : Array (Option Value)} {oc1 kV1 dc1 pm1 cd1 ct1 : Value}
    {f2 : Addr} {od2 an2 : Option Addr} {sl2 : Array (Option Value)} {oc2 kV2 dc2 pm2 cd2 ct2 : Value}
    {f3 : Addr} {od3 an3 : Option Addr} {sl3 : Array (Option Value)} {oc3 kV3 dc3 pm3 cd3 ct3 : Value}
    {f4 : Addr} {od4 an4 : Option Addr} {sl4 : Array (Option Value)} {oc4 kV4 dc4 pm4 cd4 ct4 : Value}
    {f5 : Addr} {od5 an5 : Option Addr} {sl5 : Array (Option Value)} {oc5 kV5 dc5 pm5 cd5 ct5 : Value}
    {f6 : Addr} {od6 an6 : Option Addr} {sl6 : Array (Option Value)} {oc6 kV6 dc6 pm6 cd6 ct6 : Value}
    {f7 : Addr} {od7 an7 : Option Addr} {sl7 : Array (Option Value)} {oc7 kV7 dc7 pm7 cd7 ct7 : Value}
    {f8 : Addr} {od8 an8 : Option Addr} {sl8 : Array (Option Value)} {oc8 kV8 dc8 pm8 cd8 ct8 : Value}
    {f9 : Addr} {od9 an9 : Option Addr} {sl9 : Array (Option Value)} {oc9 kV9 dc9 pm9 cd9 ct9 : Value}
    {f10 : Addr} {od10 an10 : Option Addr} {sl10 : Array (Option Value)} {oc10 kV10 dc10 pm10 cd10 ct10 : Value}
    {f11 : Addr} {od11 an11 : Option Addr} {sl11 : Array (Option Value)} {oc11 kV11 dc11 pm11 cd11 ct11 : Value}
    {f12 : Addr} {od12 an12 : Option Addr} {sl12 : Array (Option Value)} {oc12 kV12 dc12 pm12 cd12 ct12 : Value}
    {f13 : Addr} {od13 an13 : Option Addr} {sl13 : Array (Option Value)} {oc13 kV13 dc13 pm13 cd13 ct13 : Value}
    {f14 : Addr} {od14 an14 : Option Addr} {sl14 : Array (Option Value)} {oc14 kV14 dc14 pm14 cd14 ct14 : Value}
    {f15 : Addr} {od15 an15 : Option Addr} {sl15 : Array (Option Value)} {oc15 kV15 dc15 pm15 cd15 ct15 : Value}
    {f16 : Addr} {od16 an16 : Option Addr} {sl16 : Array (Option Value)} {oc16 kV16 dc16 pm16 cd16 ct16 : Value}
    {f17 : Addr} {od17 an17 : Option Addr} {sl17 : Array (Option Value)} {oc17 kV17 dc17 pm17 cd17 ct17 : Value}
    {f18 : Addr} {od18 an18 : Option Addr} {sl18 : Array (Option Value)} {oc18 kV18 dc18 pm18 cd18 ct18 : Value}
    {f19 : Addr} {od19 an19 : Option Addr} {sl19 : Array (Option Value)} {oc19 kV19 dc19 pm19 cd19 ct19 : Value}
    {f20 : Addr} {od20 an20 : Option Addr} {sl20 : Array (Option Value)} {oc20 kV20 dc20 pm20 cd20 ct20 : Value}
    {f21 : Addr} {od21 an21 : Option Addr} {sl21 : Array (Option Value)} {oc21 kV21 dc21 pm21 cd21 ct21 : Value}
    {U_Book_MOST_LETTERS : Tok}
    {U_Book_MOST_RULES : Tok}
    {Q_MANNERS : Addr} {qd_MANNERS : Option Addr} {qs_MANNERS : Array (Option Value)} {qi_MANNERS : Array Value} {qn_MANNERS : Nat}
    (aC_Book : PySem.W.nsIn K mainGlobals "Book" = some (some (.ref C_Book)))
    (a1 : PySem.W.nsIn K mainGlobals "_law_cell" = some (some (.ref f1)))
    (l1 : K.lookup f1 = some ⟨oc1, od1, .func (PySem.W.fnOf "_law_cell" "_law_cell" (defArgs s__law_cell) (defBody s__law_cell) (defScope s__law_cell) .none kV1 dc1 pm1 an1 cd1 ct1), sl1⟩)
    (c1 : PySem.W.codeIn K cd1 "_law_cell" = true)
    (k1 : PySem.W.keepIn K (.ref f1) = true)
    (a2 : PySem.W.nsIn K mainGlobals "_law_numbers" = some (some (.ref f2)))
    (l2 : K.lookup f2 = some ⟨oc2, od2, .func (PySem.W.fnOf "_law_numbers" "_law_numbers" (defArgs s__law_numbers) (defBody s__law_numbers) (defScope s__law_numbers) .none kV2 dc2 pm2 an2 cd2 ct2), sl2⟩)
    (c2 : PySem.W.codeIn K cd2 "_law_numbers" = true)
    (k2 : PySem.W.keepIn K (.ref f2) = true)
    (a3 : PySem.W.nsIn K mainGlobals "_law_rules" = some (some (.ref f3)))
    (l3 : K.lookup f3 = some ⟨oc3, od3, .func (PySem.W.fnOf "_law_rules" "_law_rules" (defArgs s__law_rules) (defBody s__law_rules) (defScope s__law_rules) .none kV3 dc3 pm3 an3 cd3 ct3), sl3⟩)
    (c3 : PySem.W.codeIn K cd3 "_law_rules" = true)
    (k3 : PySem.W.keepIn K (.ref f3) = true)
    (a4 : PySem.W.nsIn K mainGlobals "_law_meets" = some (some (.ref f4)))
    (l4 : K.lookup f4 = some ⟨oc4, od4, .func (PySem.W.fnOf "_law_meets" "_law_meets" (defArgs s__law_meets) (defBody s__law_meets) (defScope s__law_meets) .none kV4 dc4 pm4 an4 cd4 ct4), sl4⟩)
    (c4 : PySem.W.codeIn K cd4 "_law_meets" = true)
    (k4 : PySem.W.keepIn K (.ref f4) = true)
    (a5 : PySem.W.nsIn K mainGlobals "everything" = some (some (.ref f5)))
    (l5 : K.lookup f5 = some ⟨oc5, od5, .func (PySem.W.fnOf "everything" "everything" (defArgs s_everything) (defBody s_everything) (defScope s_everything) .none kV5 dc5 pm5 an5 cd5 ct5), sl5⟩)
    (c5 : PySem.W.codeIn K cd5 "everything" = true)
    (k5 : PySem.W.keepIn K (.ref f5) = true)
    (a6 : PySem.W.nsIn K mainGlobals "is_prop" = some (some (.ref f6)))
    (l6 : K.lookup f6 = some ⟨oc6, od6, .func (PySem.W.fnOf "is_prop" "is_prop" (defArgs s_is_prop) (defBody s_is_prop) (defScope s_is_prop) .none kV6 dc6 pm6 an6 cd6 ct6), sl6⟩)
    (c6 : PySem.W.codeIn K cd6 "is_prop" = true)
    (k6 : PySem.W.keepIn K (.ref f6) = true)
    (a7 : PySem.W.findIn K (.ref C_Book) "__init__" = some (some (.ref f7)))
    (l7 : K.lookup f7 = some ⟨oc7, od7, .func (PySem.W.fnOf "__init__" "Book.__init__" (defArgs s_Book_init) (defBody s_Book_init) (defScope s_Book_init) .none kV7 dc7 pm7 an7 cd7 ct7), sl7⟩)
    (c7 : PySem.W.codeIn K cd7 "Book.__init__" = true)
    (k7 : PySem.W.keepIn K (.ref f7) = true)
    (i7 : PySem.W.isFn K (.ref f7) = true)
    (mk_Book : PySem.W.makesIn K C_Book = true)
    (kc_Book : PySem.W.keepIn K (.ref C_Book) = true)
    (a8 : PySem.W.nsIn K mainGlobals "_law_due" = some (some (.ref f8)))
    (l8 : K.lookup f8 = some ⟨oc8, od8, .func (PySem.W.fnOf "_law_due" "_law_due" (defArgs s__law_due) (defBody s__law_due) (defScope s__law_due) .none kV8 dc8 pm8 an8 cd8 ct8), sl8⟩)
    (c8 : PySem.W.codeIn K cd8 "_law_due" = true)
    (k8 : PySem.W.keepIn K (.ref f8) = true)
    (a9 : PySem.W.nsIn K mainGlobals "switches" = some (some (.ref f9)))
    (l9 : K.lookup f9 = some ⟨oc9, od9, .func (PySem.W.fnOf "switches" "switches" (defArgs s_switches) (defBody s_switches) (defScope s_switches) .none kV9 dc9 pm9 an9 cd9 ct9), sl9⟩)
    (c9 : PySem.W.codeIn K cd9 "switches" = true)
    (k9 : PySem.W.keepIn K (.ref f9) = true)
    (a10 : PySem.W.findIn K (.ref C_Book) "__iter__" = some (some (.ref f10)))
    (l10 : K.lookup f10 = some ⟨oc10, od10, .func (PySem.W.fnOf "__iter__" "Book.__iter__" (defArgs s_Book_iter) (defBody s_Book_iter) (defScope s_Book_iter) .none kV10 dc10 pm10 an10 cd10 ct10), sl10⟩)
    (c10 : PySem.W.codeIn K cd10 "Book.__iter__" = true)
    (k10 : PySem.W.keepIn K (.ref f10) = true)
    (i10 : PySem.W.isFn K (.ref f10) = true)
    (a11 : PySem.W.nsIn K mainGlobals "meet_heads" = some (some (.ref f11)))
    (l11 : K.lookup f11 = some ⟨oc11, od11, .func (PySem.W.fnOf "meet_heads" "meet_heads" (defArgs s_meet_heads) (defBody s_meet_heads) (defScope s_meet_heads) .none kV11 dc11 pm11 an11 cd11 ct11), sl11⟩)
    (c11 : PySem.W.codeIn K cd11 "meet_heads" = true)
    (k11 : PySem.W.keepIn K (.ref f11) = true)
    (a12 : PySem.W.nsIn K mainGlobals "steps" = some (some (.ref f12)))
    (l12 : K.lookup f12 = some ⟨oc12, od12, .func (PySem.W.fnOf "steps" "steps" (defArgs s_steps) (defBody s_steps) (defScope s_steps) .none kV12 dc12 pm12 an12 cd12 ct12), sl12⟩)
    (c12 : PySem.W.codeIn K cd12 "steps" = true)
    (k12 : PySem.W.keepIn K (.ref f12) = true)
    (a13 : PySem.W.nsIn K mainGlobals "settle" = some (some (.ref f13)))
    (l13 : K.lookup f13 = some ⟨oc13, od13, .func (PySem.W.fnOf "settle" "settle" (defArgs s_settle) (defBody s_settle) (defScope s_settle) .none kV13 dc13 pm13 an13 cd13 ct13), sl13⟩)
    (c13 : PySem.W.codeIn K cd13 "settle" = true)
    (k13 : PySem.W.keepIn K (.ref f13) = true)
    (a14 : PySem.W.nsIn K mainGlobals "output" = some (some (.ref f14)))
    (l14 : K.lookup f14 = some ⟨oc14, od14, .func (PySem.W.fnOf "output" "output" (defArgs s_output) (defBody s_output) (defScope s_output) .none kV14 dc14 pm14 an14 cd14 ct14), sl14⟩)
    (c14 : PySem.W.codeIn K cd14 "output" = true)
    (k14 : PySem.W.keepIn K (.ref f14) = true)
    (a15 : PySem.W.nsIn K mainGlobals "worlds_of" = some (some (.ref f15)))
    (l15 : K.lookup f15 = some ⟨oc15, od15, .func (PySem.W.fnOf "worlds_of" "worlds_of" (defArgs s_worlds_of) (defBody s_worlds_of) (defScope s_worlds_of) .none kV15 dc15 pm15 an15 cd15 ct15), sl15⟩)
    (c15 : PySem.W.codeIn K cd15 "worlds_of" = true)
    (k15 : PySem.W.keepIn K (.ref f15) = true)
    (a16 : PySem.W.nsIn K mainGlobals "within" = some (some (.ref f16)))
    (l16 : K.lookup f16 = some ⟨oc16, od16, .func (PySem.W.fnOf "within" "within" (defArgs s_within) (defBody s_within) (defScope s_within) .none kV16 dc16 pm16 an16 cd16 ct16), sl16⟩)
    (c16 : PySem.W.codeIn K cd16 "within" = true)
    (k16 : PySem.W.keepIn K (.ref f16) = true)
    (a17 : PySem.W.nsIn K mainGlobals "is_stable" = some (some (.ref f17)))
    (l17 : K.lookup f17 = some ⟨oc17, od17, .func (PySem.W.fnOf "is_stable" "is_stable" (defArgs s_is_stable) (defBody s_is_stable) (defScope s_is_stable) .none kV17 dc17 pm17 an17 cd17 ct17), sl17⟩)
    (c17 : PySem.W.codeIn K cd17 "is_stable" = true)
    (k17 : PySem.W.keepIn K (.ref f17) = true)
    (a18 : PySem.W.nsIn K mainGlobals "due" = some (some (.ref f18)))
    (l18 : K.lookup f18 = some ⟨oc18, od18, .func (PySem.W.fnOf "due" "due" (defArgs s_due) (defBody s_due) (defScope s_due) .none kV18 dc18 pm18 an18 cd18 ct18), sl18⟩)
    (c18 : PySem.W.codeIn K cd18 "due" = true)
    (k18 : PySem.W.keepIn K (.ref f18) = true)
    (a19 : PySem.W.nsIn K mainGlobals "_law_is_integer" = some (some (.ref f19)))
    (l19 : K.lookup f19 = some ⟨oc19, od19, .func (PySem.W.fnOf "_law_is_integer" "_law_is_integer" (defArgs s__law_is_integer) (defBody s__law_is_integer) (defScope s__law_is_integer) .none kV19 dc19 pm19 an19 cd19 ct19), sl19⟩)
    (c19 : PySem.W.codeIn K cd19 "_law_is_integer" = true)
    (k19 : PySem.W.keepIn K (.ref f19) = true)
    (a20 : PySem.W.nsIn K mainGlobals "is_due" = some (some (.ref f20)))
    (l20 : K.lookup f20 = some ⟨oc20, od20, .func (PySem.W.fnOf "is_due" "is_due" (defArgs s_is_due) (defBody s_is_due) (defScope s_is_due) .none kV20 dc20 pm20 an20 cd20 ct20), sl20⟩)
    (c20 : PySem.W.codeIn K cd20 "is_due" = true)
    (k20 : PySem.W.keepIn K (.ref f20) = true)
    (a21 : PySem.W.nsIn K mainGlobals "law" = some (some (.ref f21)))
    (l21 : K.lookup f21 = some ⟨oc21, od21, .func (PySem.W.fnOf "law" "law" (defArgs s_law) (defBody s_law) (defScope s_law) .none kV21 dc21 pm21 an21 cd21 ct21), sl21⟩)
    (c21 : PySem.W.codeIn K cd21 "law" = true)
    (k21 : PySem.W.keepIn K (.ref f21) = true)
    (pg_Book : PySem.W.plainGet K C_Book Str.empty = true)
    (hd_Book : PySem.W.hasDictIn K C_Book = true)
    (po_Book : PySem.W.plainOver K C_Book = true)
    (sa_Book : PySem.W.findIn K (.ref C_Book) "__setattr__" = some (some (.builtin "object.__setattr__")))
    (n_Book_rules : PySem.W.findIn K (.ref C_Book) "rules" = some none)
    (n_Book_n : PySem.W.findIn K (.ref C_Book) "n" = some none)
    (rd_Book : PySem.W.readsIn K C_Book (.type "type") = true)
    (ga_Book : PySem.W.specialIn K (.ref C_Book) "__getattribute__" = some (some (.builtin "type.__getattribute__")))
    (cv_Book_MOST_LETTERS : PySem.W.findCls K (.ref C_Book) (.type "type") "MOST_LETTERS" = some (.val (Value.int 4 U_Book_MOST_LETTERS)))
    (cv_Book_MOST_RULES : PySem.W.findCls K (.ref C_Book) (.type "type") "MOST_RULES" = some (.val (Value.int 16 U_Book_MOST_RULES)))
    (qa_MANNERS : PySem.W.nsIn K mainGlobals "MANNERS" = some (some (.ref Q_MANNERS)))
    (ql_MANNERS : K.lookup Q_MANNERS = some ⟨.type "tuple", qd_MANNERS, .seq qi_MANNERS qn_MANNERS, qs_MANNERS⟩)
    (qt_MANNERS : absDs qi_MANNERS.toList = some k_MANNERS)
    (qz_MANNERS : qi_MANNERS.size ≤ lim)
    (z_len : PySem.W.nsIn K mainGlobals "len" = some none)
    (z_int : PySem.W.nsIn K mainGlobals "int" = some none)
    (z_abs : PySem.W.nsIn K mainGlobals "abs" = some none)
    (z_range : PySem.W.nsIn K mainGlobals "range" = some none)
    (z_enumerate : PySem.W.nsIn K mainGlobals "enumerate" = some none)
    (z_tuple : PySem.W.nsIn K mainGlobals "tuple" = some none)
    (z_list : PySem.W.nsIn K mainGlobals "list" = some none)
    (z_iter : PySem.W.nsIn K mainGlobals "iter" = some none)
    (z_isinstance : PySem.W.nsIn K mainGlobals "isinstance" = some none)
    (z_bool : PySem.W.nsIn K mainGlobals "bool" = some none)
    (M : ∀ ns : List Int, ns.length ≤ 63 → (∀ z ∈ ns, Builtin.Int.intBits z ≤ 1048576) → m_law [.lst (ns.map .int)] = .ok (.bl true)) :
    ∃ fd : FuncData, (∀ (s : Shared) (v : Value), BindsTo s fd ⟨[v], []⟩ [("script", v)]) ∧ ∀ base : Heap, K.In base → base.Ns mainGlobals mg → FnOk l.prog w K mg base (L2.CX l.prog w) 10 fa fd ["script"] (spLaw K) := by
  have e := hfa.symm.trans (PySem.W.mg_of X G a21)
  cases e
  have F1 := fun_mk (st := s__law_cell) l1 c1 k1
  have F2 := fun_mk (st := s__law_numbers) l2 c2 k2
  have F3 := fun_mk (st := s__law_rules) l3 c3 k3
  have F4 := fun_mk (st := s__law_meets) l4 c4 k4
  have F5 := fun_mk (st := s_everything) l5 c5 k5
  have F6 := fun_mk (st := s_is_prop) l6 c6 k6
  have F7 := fun_mk (st := s_Book_init) l7 c7 k7
  have F8 := fun_mk (st := s__law_due) l8 c8 k8
  have F9 := fun_mk (st := s_switches) l9 c9 k9
  have F10 := fun_mk (st := s_Book_iter) l10 c10 k10
  have F11 := fun_mk (st := s_meet_heads) l11 c11 k11
  have F12 := fun_mk (st := s_steps) l12 c12 k12
  have F13 := fun_mk (st := s_settle) l13 c13 k13
  have F14 := fun_mk (st := s_output) l14 c14 k14
  have F15 := fun_mk (st := s_worlds_of) l15 c15 k15
  have F16 := fun_mk (st := s_within) l16 c16 k16
  have F17 := fun_mk (st := s_is_stable) l17 c17 k17
  have F18 := fun_mk (st := s_due) l18 c18 k18
  have F19 := fun_mk (st := s__law_is_integer) l19 c19 k19
  have F20 := fun_mk (st := s_is_due) l20 c20 k20
  have F21 := fun_mk (st := s_law) l21 c21 k21
  have T : Tx K mg ⟨C_Book, f1, _, f2, _, f3, _, f4, _, f5, _, f6, _, f7, _, f8, _, f9, _, f10, _, f11, _, f12, _, f13, _, f14, _, f15, _, f16, _, f17, _, f18, _, f19, _, f20, _, fa, _, _, _, Q_MANNERS, _, qi_MANNERS, qn_MANNERS⟩ := ⟨F1,
    F1.binds (ps := ["script", "k"]) fun _ _ _ _ _ _ us hl => match us, hl with | [_, _], _ => rfl,
    PySem.W.mg_of X G a1,
    F2,
    F2.binds (ps := ["script", "at", "count", "bound"]) fun _ _ _ _ _ _ us hl => match us, hl with | [_, _, _, _], _ => rfl,
    PySem.W.mg_of X G a2,
    F3,
    F3.binds (ps := ["script", "n", "count"]) fun _ _ _ _ _ _ us hl => match us, hl with | [_, _, _], _ => rfl,
    PySem.W.mg_of X G a3,
    F4,
    F4.binds (ps := ["n", "rules"]) fun _ _ _ _ _ _ us hl => match us, hl with | [_, _], _ => rfl,
    PySem.W.mg_of X G a4,
    F5,
    F5.binds (ps := ["n"]) fun _ _ _ _ _ _ us hl => match us, hl with | [_], _ => rfl,
    PySem.W.mg_of X G a5,
    F6,
    F6.binds (ps := ["n", "prop"]) fun _ _ _ _ _ _ us hl => match us, hl with | [_, _], _ => rfl,
    PySem.W.mg_of X G a6,
    F7,
    F7.binds (ps := ["self", "n", "rules"]) fun _ _ _ _ _ _ us hl => match us, hl with | [_, _, _], _ => rfl,
    ⟨mk_Book, a7, i7, kc_Book⟩,
    F8,
    F8.binds (ps := ["meets", "facts", "manner"]) fun _ _ _ _ _ _ us hl => match us, hl with | [_, _, _], _ => rfl,
    PySem.W.mg_of X G a8,
    F9,
    F9.binds (ps := ["manner"]) fun _ _ _ _ _ _ us hl => match us, hl with | [_], _ => rfl,
    PySem.W.mg_of X G a9,
    F10,
    F10.binds (ps := ["self"]) fun _ _ _ _ _ _ us hl => match us, hl with | [_], _ => rfl,
    a10,
    i10,
    F11,
    F11.binds (ps := ["book", "case"]) fun _ _ _ _ _ _ us hl => match us, hl with | [_, _], _ => rfl,
    PySem.W.mg_of X G a11,
    F12,
    F12.binds (ps := ["book", "facts"]) fun _ _ _ _ _ _ us hl => match us, hl with | [_, _], _ => rfl,
    PySem.W.mg_of X G a12,
    F13,
    F13.binds (ps := ["book", "facts"]) fun _ _ _ _ _ _ us hl => match us, hl with | [_, _], _ => rfl,
    PySem.W.mg_of X G a13,
    F14,
    F14.binds (ps := ["book", "case", "manner"]) fun _ _ _ _ _ _ us hl => match us, hl with | [_, _, _], _ => rfl,
    PySem.W.mg_of X G a14,
    F15,
    F15.binds (ps := ["prop"]) fun _ _ _ _ _ _ us hl => match us, hl with | [_], _ => rfl,
    PySem.W.mg_of X G a15,
    F16,
    F16.binds (ps := ["first", "second"]) fun _ _ _ _ _ _ us hl => match us, hl with | [_, _], _ => rfl,
    PySem.W.mg_of X G a16,
    F17,
    F17.binds (ps := ["book", "case"]) fun _ _ _ _ _ _ us hl => match us, hl with | [_, _], _ => rfl,
    PySem.W.mg_of X G a17,
    F18,
    F18.binds (ps := ["book", "facts", "manner"]) fun _ _ _ _ _ _ us hl => match us, hl with | [_, _, _], _ => rfl,
    PySem.W.mg_of X G a18,
    F19,
    F19.binds (ps := ["value"]) fun _ _ _ _ _ _ us hl => match us, hl with | [_], _ => rfl,
    PySem.W.mg_of X G a19,
    F20,
    F20.binds (ps := ["book", "facts", "claim", "manner"]) fun _ _ _ _ _ _ us hl => match us, hl with | [_, _, _, _], _ => rfl,
    PySem.W.mg_of X G a20,
    F21,
    F21.binds (ps := ["script"]) fun _ _ _ _ _ _ us hl => match us, hl with | [_], _ => rfl,
    PySem.W.mg_of X G a21,
    PySem.W.mg_of X G aC_Book,
    ⟨PySem.W.mg_of X G aC_Book, ⟨pg_Book, hd_Book, po_Book, sa_Book⟩, (List.forall_mem_cons.2 ⟨n_Book_n, (List.forall_mem_cons.2 ⟨n_Book_rules, (fun _ h => nomatch h)⟩)⟩)⟩,
    ⟨rd_Book, ga_Book⟩,
    ⟨cv_Book_MOST_LETTERS, ⟨_, rfl⟩⟩,
    ⟨cv_Book_MOST_RULES, ⟨_, rfl⟩⟩,
    ⟨PySem.W.mg_of X G qa_MANNERS, ql_MANNERS, rfl, rfl, qt_MANNERS, qz_MANNERS⟩,
    PySem.W.mg_none_of X G z_len,
    PySem.W.mg_none_of X G z_int,
    PySem.W.mg_none_of X G z_abs,
    PySem.W.mg_none_of X G z_range,
    PySem.W.mg_none_of X G z_enumerate,
    PySem.W.mg_none_of X G z_tuple,
    PySem.W.mg_none_of X G z_list,
    PySem.W.mg_none_of X G z_iter,
    PySem.W.mg_none_of X G z_isinstance,
    PySem.W.mg_none_of X G z_bool⟩
  exact ⟨_, fun s v => .of_eq rfl, fun base _ _ => law_imp (w_law T) M⟩
end K86
set_option Elab.async false
set_option linter.all false
set_option maxRecDepth 100000
set_option maxHeartbeats 400000
namespace K86
open PySem PySem.Spec PyProof.Rows L2 DL
/-! ### the script's numbers -/
def cell (ns : List Int) (k : Nat) : Int := match ns[k]? with
  | some i => if i < 0 then -i else i
  | none => 0
theorem cell_nn (ns : List Int) (k : Nat) : 0 ≤ cell ns k := by
  unfold cell
  split
  · split <;> omega
  · omega
theorem m_cell (ns : List Int) (k : Nat) : m__law_cell [.lst (ns.map .int), .int k] = .ok (.int (cell ns k)) := by
  unfold m__law_cell mOf g__law_cell cell
  by_cases h : k < ns.length
  · have e : (ns.map D.int)[k]? = some (.int ns[k]) := by rw [List.getElem?_map, List.getElem?_eq_getElem h]; rfl
    simp [atI_at e, List.getElem?_eq_getElem h]
    simp [h]
  · rw [List.getElem?_eq_none (by omega)]
    simp [h]
theorem numbers_turn (ns : List Int) (k cnt i : Nat) (c bound l : Int) (xs : List Int) (s7 s8 : Slot) (hi : i < cnt) (hc : cnt ≤ 100) (hk : k ≤ 100) (hx : xs.length = i) (b0 : 0 < bound) (b1 : bound < 1073741824) :
    ∃ (x l' : Int) (s8' : Slot), 0 ≤ x ∧ x < bound ∧ b__law_numbers_1 [.d (.lst (ns.map .int)), .d (.int k), .d (.int cnt), .d (.int bound), .d (.int c), .own false (xs.map .int), .d (.int l), .d (.int (0 + (i : Nat))), s8] =
      .nx [.d (.lst (ns.map .int)), .d (.int k), .d (.int cnt), .d (.int bound), .d (.int c), .own false ((xs ++ [x]).map .int), .d (.int l'), .d (.int (0 + (i : Nat))), s8'] := by
  have hl : xs.length < lim := lim_lt (by omega)
  unfold b__law_numbers_1
  by_cases h : 0 < l
  · refine ⟨l % bound, l / bound, s8, Int.emod_nonneg _ (by omega), Int.emod_lt_of_pos _ b0, ?_⟩
    simp [h, cDiv_ok b0 b1, cMod_ok b0, hl]
  · let mixed : Int := ((c % 999983 + 37 * k + 1) * (7919 * (i : Int) + 611 * k + 104729)) % 1000003
    refine ⟨mixed * (mixed + 31) % 1000033 % bound, l, .d (.int mixed), Int.emod_nonneg _ (by omega), Int.emod_lt_of_pos _ b0, ?_⟩
    · have e1 : cMul 37 (k : Int) = true := cMul_l (by decide) (by decide)
      have e2 : cMul 7919 (i : Int) = true := cMul_l (by decide) (by decide)
      have e3 : cMul 611 (k : Int) = true := cMul_l (by decide) (by decide)
      have e4 : ∀ a : Int, cMul (a % 1000003) (a % 1000003 + 31) = true := fun a => by
        have h1 : a % 1000003 < 1000003 := Int.emod_lt_of_pos _ (by omega)
        have h2 : 0 ≤ a % 1000003 := Int.emod_nonneg _ (by omega)
        exact cMul_l (by unfold big; omega) (by unfold big; omega)
      have e5 : ∀ b : Int, cMul (c % 999983 + 37 * k + 1) b = true := fun b => by
        have h1 : c % 999983 < 999983 := Int.emod_lt_of_pos _ (by omega)
        have h2 : 0 ≤ c % 999983 := Int.emod_nonneg _ (by omega)
        exact cMul_l (by unfold big; omega) (by unfold big; omega)
      have e6 : ∀ a : Int, cMod a 999983 = true := fun a => cMod_ok (by omega)
      have e7 : ∀ a : Int, cMod a 1000003 = true := fun a => cMod_ok (by omega)
      have e8 : ∀ a : Int, cMod a 1000033 = true := fun a => cMod_ok (by omega)
      simp [h, cMod_ok b0, hl, e1, e2, e3, e4, e5, e6, e7, e8]
      exact ⟨rfl, rfl⟩
theorem numbers_loop (ns : List Int) (k cnt : Nat) (bound : Int) (hc : cnt ≤ 100) (hk : k ≤ 100) (b0 : 0 < bound) (b1 : bound < 1073741824) (left : Int) : ∃ xs : List Int, ∃ l s7 s8, forL [7] g1 b__law_numbers_1 (rangeD 0 cnt) [.d (.lst (ns.map .int)), .d (.int k), .d (.int cnt), .d (.int bound), .d (.int (cell ns k)), .own false [], .d (.int left), .un, .un] =
      .nx [.d (.lst (ns.map .int)), .d (.int k), .d (.int cnt), .d (.int bound), .d (.int (cell ns k)), .own false (xs.map .int), .d (.int l), s7, s8] ∧ xs.length = cnt ∧ ∀ x ∈ xs, 0 ≤ x ∧ x < bound := by
    have key := forL_ind (sl := [7]) (g := g1) (fb := b__law_numbers_1) (fun i ρ => ∃ xs : List Int, ∃ l s7 s8, ρ = [.d (.lst (ns.map .int)), .d (.int k), .d (.int cnt), .d (.int bound), .d (.int (cell ns k)), .own false (xs.map .int), .d (.int l), s7, s8] ∧ xs.length = i ∧ ∀ x ∈ xs, 0 ≤ x ∧ x < bound)
      (rangeD 0 cnt) 0 _ ⟨[], left, .un, .un, rfl, rfl, by simp⟩ fun i d ρ hd ⟨xs, l, s7, s8, e, h2, h3⟩ => by
        subst e
        obtain ⟨hi, rfl⟩ := rangeD_get hd
        obtain ⟨x, l', s8', x0, x1, q⟩ := numbers_turn ns k cnt i (cell ns k) bound l xs s7 s8 hi hc hk (by omega) b0 b1
        refine ⟨_, _, rfl, .inl q, xs ++ [x], l', _, _, rfl, by simp [h2], fun y hy => ?_⟩
        rcases List.mem_append.mp hy with z | z
        · exact h3 y z
        · rw [List.mem_singleton.mp z]; exact ⟨x0, x1⟩
    obtain ⟨ρ, h1, xs, l, s7, s8, rfl, h2, h3⟩ := key
    rw [Nat.zero_add, rangeD_len] at h2
    exact ⟨xs, l, s7, s8, h1, h2, h3⟩
theorem m_numbers (ns : List Int) (k cnt : Nat) (bound : Int) (hc : cnt ≤ 100) (hk : k ≤ 100) (b0 : 0 < bound) (b1 : bound < 1073741824) :
    ∃ xs : List Int, m__law_numbers [.lst (ns.map .int), .int k, .int cnt, .int bound] = .ok (.lst (xs.map .int)) ∧ xs.length = cnt ∧ ∀ x ∈ xs, 0 ≤ x ∧ x < bound := by
  have er : rng1 [.int (cnt : Int)] = .ok (rangeD 0 cnt) := by rw [rng1_ap (by omega) (by omega), Int.toNat_natCast]
  obtain ⟨E, hE⟩ : ∃ E, dPow (.int 10) (.int 18) = .ok (.int E) := ⟨_, rfl⟩
  unfold m__law_numbers mOf g__law_numbers
  by_cases h : cell ns k < E
  · obtain ⟨xs, l, s7, s8, q, h2, h3⟩ := numbers_loop ns k cnt bound hc hk b0 b1 0
    refine ⟨xs, ?_, h2, h3⟩
    simp [-dI2c_ap, m_cell, er, hE, h, q]
  · obtain ⟨xs, l, s7, s8, q, h2, h3⟩ := numbers_loop ns k cnt bound hc hk b0 b1 (cell ns k)
    refine ⟨xs, ?_, h2, h3⟩
    simp [-dI2c_ap, m_cell, er, hE, h, q]
/-! ### numbers from nought -/
def nD (z : Nat) : D := .int (z : Int)
theorem nat_list : ∀ (xs : List Int) (b : Nat), (∀ x ∈ xs, 0 ≤ x ∧ x < (b : Int)) → ∃ zs : List Nat, xs.map D.int = zs.map nD ∧ zs.length = xs.length ∧ ∀ z ∈ zs, z < b
  | [], _, _ => ⟨[], rfl, rfl, by simp⟩
  | x :: xs, b, h => by
    obtain ⟨zs, h1, h2, h3⟩ := nat_list xs b fun y hy => h y (List.mem_cons_of_mem _ hy)
    obtain ⟨x0, x1⟩ := h x List.mem_cons_self
    obtain ⟨m, rfl⟩ := Int.eq_ofNat_of_zero_le x0
    refine ⟨m :: zs, by rw [List.map_cons, List.map_cons, h1]; rfl, by rw [List.length_cons, List.length_cons, h2], fun z hz => ?_⟩
    rcases List.mem_cons.mp hz with e | e
    · rw [e]; omega
    · exact h3 z e
theorem m_nums (ns : List Int) (k cnt b : Nat) (hc : cnt ≤ 100) (hk : k ≤ 100) (b0 : 0 < b) (b1 : b < 1073741824) :
    ∃ zs : List Nat, m__law_numbers [.lst (ns.map .int), .int k, .int cnt, .int b] = .ok (.lst (zs.map nD)) ∧ zs.length = cnt ∧ ∀ z ∈ zs, z < b := by
  obtain ⟨xs, h1, h2, h3⟩ := m_numbers ns k cnt b hc hk (by omega) (by omega)
  obtain ⟨zs, e, l, q⟩ := nat_list xs b h3
  exact ⟨zs, by rw [h1, e], by rw [l, h2], q⟩
theorem nD_at {zs : List Nat} {i : Nat} {z : Nat} (h : zs[i]? = some z) : L2.atI (zs.map nD) (i : Int) = some (.int (z : Int)) := atI_at (by rw [List.getElem?_map, h]; rfl)
/-- 1 << (1 << m) -/
theorem tops (m : Nat) (h : m ≤ 4) : ∃ (p : Int) (T : Nat), dShl (.int 1) (.int (m : Int)) = .ok (.int p) ∧ dShl (.int 1) (.int p) = .ok (.int (T : Int)) ∧ T = 2 ^ 2 ^ m ∧ 0 < T ∧ T ≤ 65536 := by
  match m, h with
  | 0, _ => exact ⟨_, 2, rfl, rfl, rfl, by decide, by decide⟩
  | 1, _ => exact ⟨_, 4, rfl, rfl, rfl, by decide, by decide⟩
  | 2, _ => exact ⟨_, 16, rfl, rfl, rfl, by decide, by decide⟩
  | 3, _ => exact ⟨_, 256, rfl, rfl, rfl, by decide, by decide⟩
  | 4, _ => exact ⟨_, 65536, rfl, rfl, rfl, by decide, by decide⟩
/-! ### the rules -/
abbrev Rule := Nat × Nat
def ruleD (r : Rule) : D := .tup [.int (r.1 : Int), .int (r.2 : Int)]
theorem rules_turn {e : Nat} (a m c : DL.Slot) (T i : Nat) (ks bs hs ms : List Nat) (rs : List Rule) (s10 s11 : DL.Slot) {kk bb hh m1 m2 : Nat} (hT : T = 2 ^ e) (hl : rs.length < lim)
    (ek : ks[i]? = some kk) (eb : bs[i]? = some bb) (eh : hs[i]? = some hh) (e1 : ms[2 * i]? = some m1) (e2' : ms[2 * i + 1]? = some m2) (qb : bb < T) (qh : hh < T) (q1 : m1 < T) (q2 : m2 < T) :
    ∃ (r : Rule) (t10 t11 : DL.Slot), r.1 < T ∧ r.2 < T ∧ b__law_rules_1 [a, m, c, .d (.int (T : Int)), .d (.lst (ks.map nD)), .d (.lst (bs.map nD)), .d (.lst (hs.map nD)), .d (.lst (ms.map nD)), .own false (rs.map ruleD), .d (.int (0 + (i : Nat))), s10, s11] =
      .nx [a, m, c, .d (.int (T : Int)), .d (.lst (ks.map nD)), .d (.lst (bs.map nD)), .d (.lst (hs.map nD)), .d (.lst (ms.map nD)), .own false ((rs ++ [r]).map ruleD), .d (.int (0 + (i : Nat))), t10, t11] := by
  obtain ⟨c1, hc1⟩ : ∃ c, dIn (.int (kk : Int)) (.tup [.int 1, .int 2, .int 5]) = .ok (.bl c) := ⟨_, rfl⟩
  obtain ⟨c2, hc2⟩ : ∃ c, dIn (.int (kk : Int)) (.tup [.int 2, .int 3]) = .ok (.bl c) := ⟨_, rfl⟩
  obtain ⟨c3, hc3⟩ : ∃ c, dEq (.int (kk : Int)) (.int 4) = .ok (.bl c) := ⟨_, rfl⟩
  have f1 : L2.atI (ms.map nD) (2 * (i : Int)) = some (.int (m1 : Int)) := nD_at e1
  have f2 : L2.atI (ms.map nD) (2 * (i : Int) + 1) = some (.int (m2 : Int)) := nD_at e2'
  have g1' : cMul 2 (i : Int) = true := cMul_l (by decide) (by decide)
  have hT0 : 0 < T := by rw [hT]; exact Nat.two_pow_pos e
  have hT1 : ((T : Int) - 1) = ((T - 1 : Nat) : Int) := by omega
  have lt1 : ∀ x y : Nat, x < T → y < T → x ||| y < T := fun x y hx hy => by rw [hT] at hx hy ⊢; exact Nat.or_lt_two_pow hx hy
  have lt2 : T - 1 < T := by omega
  let b1 : Nat := if c3 then T - 1 else if c1 then bb ||| m1 else bb
  let h1 : Nat := if c2 then hh ||| m2 else hh
  refine ⟨(b1, h1), .d (.int (b1 : Int)), .d (.int (h1 : Int)), ?_, ?_, ?_⟩
  · show (if c3 then T - 1 else if c1 then bb ||| m1 else bb) < T
    split
    · exact lt2
    · split
      · exact lt1 _ _ qb q1
      · exact qb
  · show (if c2 then hh ||| m2 else hh) < T
    split
    · exact lt1 _ _ qh q2
    · exact qh
  · unfold b__law_rules_1
    cases c1 <;> cases c2 <;> cases c3 <;>
      simp [nD_at ek, nD_at eb, nD_at eh, f1, f2, hc1, hc2, hc3, g1', dOr_nn, hT1, hl, b1, h1, ruleD]
theorem some_at {α : Type} {xs : List α} {i : Nat} (h : i < xs.length) : ∃ x, xs[i]? = some x ∧ x ∈ xs := ⟨xs[i], List.getElem?_eq_getElem h, List.getElem_mem h⟩
theorem m_rules (ns : List Int) (m cnt : Nat) (hm : m ≤ 4) (hc : cnt ≤ 20) : ∃ rs : List Rule, m__law_rules [.lst (ns.map .int), .int m, .int cnt] = .ok (.lst (rs.map ruleD)) ∧ rs.length = cnt ∧ ∀ r ∈ rs, r.1 < 2 ^ 2 ^ m ∧ r.2 < 2 ^ 2 ^ m := by
  obtain ⟨p, T, t1, t2, hT, T0, T1⟩ := tops m hm
  obtain ⟨ks, k1, k2, k3⟩ := m_nums ns 2 cnt 7 (by omega) (by omega) (by omega) (by omega)
  obtain ⟨bs, b1, b2, b3⟩ := m_nums ns 3 cnt T (by omega) (by omega) T0 (by omega)
  obtain ⟨hs, h1, h2, h3⟩ := m_nums ns 4 cnt T (by omega) (by omega) T0 (by omega)
  obtain ⟨ms, e1, e2, e3⟩ := m_nums ns 5 (2 * cnt) T (by omega) (by omega) T0 (by omega)
  have er : rng1 [.int (cnt : Int)] = .ok (rangeD 0 cnt) := by rw [rng1_ap (by omega) (by omega), Int.toNat_natCast]
  have key := forL_ind (sl := [9]) (g := g1) (fb := b__law_rules_1) (fun i ρ => ∃ (rs : List Rule) (s9 s10 s11 : DL.Slot), ρ = [.d (.lst (ns.map .int)), .d (.int m), .d (.int cnt), .d (.int (T : Int)), .d (.lst (ks.map nD)), .d (.lst (bs.map nD)), .d (.lst (hs.map nD)), .d (.lst (ms.map nD)), .own false (rs.map ruleD), s9, s10, s11] ∧ rs.length = i ∧ ∀ r ∈ rs, r.1 < T ∧ r.2 < T)
    (rangeD 0 cnt) 0 [.d (.lst (ns.map .int)), .d (.int m), .d (.int cnt), .d (.int (T : Int)), .d (.lst (ks.map nD)), .d (.lst (bs.map nD)), .d (.lst (hs.map nD)), .d (.lst (ms.map nD)), .own false [], .un, .un, .un] ⟨[], .un, .un, .un, rfl, rfl, by simp⟩ fun i d ρ hd ⟨rs, s9, s10, s11, e, l, q⟩ => by
      subst e
      obtain ⟨hi, rfl⟩ := rangeD_get hd
      obtain ⟨kk, ek, _⟩ := some_at (xs := ks) (i := i) (by omega)
      obtain ⟨bb, eb, mb⟩ := some_at (xs := bs) (i := i) (by omega)
      obtain ⟨hh, eh, mh⟩ := some_at (xs := hs) (i := i) (by omega)
      obtain ⟨m1, em1, mm1⟩ := some_at (xs := ms) (i := 2 * i) (by omega)
      obtain ⟨m2, em2, mm2⟩ := some_at (xs := ms) (i := 2 * i + 1) (by omega)
      obtain ⟨r, t10, t11, r1, r2, z⟩ := rules_turn (e := 2 ^ m) (.d (.lst (ns.map .int))) (.d (.int m)) (.d (.int cnt)) T i ks bs hs ms rs s10 s11 hT (lim_lt (by omega)) ek eb eh em1 em2 (b3 _ mb) (h3 _ mh) (e3 _ mm1) (e3 _ mm2)
      refine ⟨_, _, rfl, .inl z, rs ++ [r], _, t10, t11, rfl, by simp [l], fun y hy => ?_⟩
      rcases List.mem_append.mp hy with u | u
      · exact q y u
      · rw [List.mem_singleton.mp u]; exact ⟨r1, r2⟩
  obtain ⟨ρ, q1, rs, s9, s10, s11, rfl, l, q⟩ := key
  rw [Nat.zero_add, rangeD_len] at l
  refine ⟨rs, ?_, l, by rw [← hT]; exact q⟩
  have c2 : cMul 2 (cnt : Int) = true := cMul_l (by decide) (by decide)
  unfold m__law_rules mOf g__law_rules
  have k1 : m__law_numbers [.lst (ns.map .int), .int 2, .int cnt, .int 7] = .ok (.lst (ks.map nD)) := k1
  have b1 : m__law_numbers [.lst (ns.map .int), .int 3, .int cnt, .int T] = .ok (.lst (bs.map nD)) := b1
  have h1 : m__law_numbers [.lst (ns.map .int), .int 4, .int cnt, .int T] = .ok (.lst (hs.map nD)) := h1
  have e1 : m__law_numbers [.lst (ns.map .int), .int 5, .int (2 * (cnt : Int)), .int T] = .ok (.lst (ms.map nD)) := e1
  simp [t1, t2, k1, b1, h1, e1, c2, er, q1]
/-! ### meets -/
def mStep (c m : Nat) (r : Rule) : Nat := if c &&& r.1 = c then m &&& r.2 else m
def Mh (T : Nat) (rs : List Rule) (c : Nat) : Nat := rs.foldl (mStep c) (T - 1)
theorem ruleD_0 (r : Rule) : dIx (ruleD r) (.int 0) = .ok (.int (r.1 : Int)) := rfl
theorem ruleD_1 (r : Rule) : dIx (ruleD r) (.int 1) = .ok (.int (r.2 : Int)) := rfl
theorem meets_in (a b c d : DL.Slot) (k : Nat) : ∀ (rs : List Rule) (acc : Nat) (s6 : DL.Slot), ∃ s6', forL [6] g1 b__law_meets_1 (rs.map ruleD) [a, b, c, d, .d (.int (k : Int)), .d (.int (acc : Int)), s6] =
    .nx [a, b, c, d, .d (.int (k : Int)), .d (.int ((rs.foldl (mStep k) acc : Nat) : Int)), s6']
  | [], acc, s6 => ⟨s6, rfl⟩
  | r :: rs, acc, s6 => by
    obtain ⟨s6', q⟩ := meets_in a b c d k rs (mStep k acc r) (.d (ruleD r))
    refine ⟨s6', ?_⟩
    rw [List.map_cons, List.foldl_cons]
    have e : b__law_meets_1 [a, b, c, d, .d (.int (k : Int)), .d (.int (acc : Int)), .d (ruleD r)] = .nx [a, b, c, d, .d (.int (k : Int)), .d (.int ((mStep k acc r : Nat) : Int)), .d (ruleD r)] := by
      unfold b__law_meets_1 mStep
      by_cases h : k &&& r.1 = k
      · simp [ruleD_0, ruleD_1, dAnd_nn, dEq_nn, h]
      · simp [ruleD_0, ruleD_1, dAnd_nn, dEq_nn, h]
    exact (forL_nx (sl := [6]) (g := g1) (fb := b__law_meets_1) (ρ := [a, b, c, d, .d (.int (k : Int)), .d (.int (acc : Int)), s6]) (vs := [ruleD r]) rfl e).trans q
theorem tp_le (m : Nat) (hm : m ≤ 3) : 2 ^ 2 ^ m ≤ 256 := by
  have h1 : 2 ^ m ≤ 2 ^ 3 := Nat.pow_le_pow_right (by omega) hm
  exact Nat.le_trans (Nat.pow_le_pow_right (by omega) h1) (by decide)
theorem m_meets (m : Nat) (hm : m ≤ 3) (rs : List Rule) : m__law_meets [.int m, .lst (rs.map ruleD)] = .ok (.lst ((List.range (2 ^ 2 ^ m)).map fun c => nD (Mh (2 ^ 2 ^ m) rs c))) := by
  obtain ⟨p, T, t1, t2, hT, T0, T1⟩ := tops m (by omega)
  rw [← hT]
  have T2 : T ≤ 256 := by
    rw [hT]
    exact tp_le m hm
  have hT1 : ((T : Int) - 1) = ((T - 1 : Nat) : Int) := by omega
  have key := forL_ind (sl := [4]) (g := g1) (fb := b__law_meets_2) (fun i ρ => ∃ (s4 s5 s6 : DL.Slot), i ≤ T ∧ ρ = [.d (.int m), .d (.lst (rs.map ruleD)), .d (.int (T : Int)), .own false ((List.range i).map fun c => nD (Mh T rs c)), s4, s5, s6])
    (rangeD 0 T) 0 [.d (.int m), .d (.lst (rs.map ruleD)), .d (.int (T : Int)), .own false [], .un, .un, .un] ⟨.un, .un, .un, by omega, rfl⟩ fun i d ρ hd ⟨s4, s5, s6, l, e⟩ => by
      subst e
      obtain ⟨hi, rfl⟩ := rangeD_get hd
      obtain ⟨s6', q⟩ := meets_in (.d (.int m)) (.d (.lst (rs.map ruleD))) (.d (.int (T : Int))) (.own false ((List.range i).map fun c => nD (Mh T rs c))) i rs (T - 1) s6
      have hl : ((List.range i).map fun c => nD (Mh T rs c)).length < lim := lim_lt (by simp; omega)
      refine ⟨_, _, rfl, .inl ?_, .d (.int (i : Int)), .d (.int ((Mh T rs i : Nat) : Int)), s6', by omega, rfl⟩
      unfold b__law_meets_2
      simp only [Nat.zero_add, List.length_map, List.length_range] at hl q ⊢
      simp [hT1, q, hl, List.range_succ]
      exact ⟨rfl, rfl⟩
  obtain ⟨ρ, q1, s4, s5, s6, _, rfl⟩ := key
  rw [Nat.zero_add, rangeD_len] at q1
  unfold m__law_meets mOf g__law_meets
  simp [t1, t2, rng1_n T (by omega), q1]
/-! ### propositions as numbers: within, joins -/
def Sub (a b : Nat) : Prop := a &&& b = a
instance {a b : Nat} : Decidable (Sub a b) := by unfold Sub; exact inferInstance
theorem sub_iff {a b : Nat} : Sub a b ↔ ∀ j, a.testBit j = true → b.testBit j = true := by
  constructor
  · intro h j hj
    have e := congrArg (fun z => Nat.testBit z j) (show a &&& b = a from h)
    simp only [Nat.testBit_and, hj, Bool.true_and] at e
    exact e
  · intro h
    show a &&& b = a
    apply Nat.eq_of_testBit_eq
    intro j
    rw [Nat.testBit_and]
    cases ha : a.testBit j with
    | false => rfl
    | true => rw [h j ha]; rfl
theorem Sub.refl (a : Nat) : Sub a a := Nat.and_self a
theorem Sub.trans {a b c : Nat} (h : Sub a b) (k : Sub b c) : Sub a c := sub_iff.mpr fun j q => sub_iff.mp k j (sub_iff.mp h j q)
theorem sub_and {a b c : Nat} : Sub a (b &&& c) ↔ Sub a b ∧ Sub a c := by
  rw [sub_iff, sub_iff, sub_iff]
  constructor
  · intro h
    exact ⟨fun j q => by have := h j q; rw [Nat.testBit_and, Bool.and_eq_true] at this; exact this.1, fun j q => by have := h j q; rw [Nat.testBit_and, Bool.and_eq_true] at this; exact this.2⟩
  · intro h j q
    rw [Nat.testBit_and, h.1 j q, h.2 j q]; rfl
theorem sub_zero (a : Nat) : Sub 0 a := Nat.zero_and a
theorem fold_bit (c : Nat) (j : Nat) : ∀ (rs : List Rule) (acc : Nat), (rs.foldl (mStep c) acc).testBit j = true ↔ acc.testBit j = true ∧ ∀ r ∈ rs, Sub c r.1 → r.2.testBit j = true
  | [], acc => by simp
  | r :: rs, acc => by
    rw [List.foldl_cons, fold_bit c j rs]
    unfold mStep
    by_cases h : c &&& r.1 = c
    · rw [if_pos h, Nat.testBit_and, Bool.and_eq_true]
      constructor
      · rintro ⟨⟨a, b⟩, q⟩
        refine ⟨a, fun r' hr => ?_⟩
        rcases List.mem_cons.mp hr with e | e
        · rw [e]; exact fun _ => b
        · exact q r' e
      · rintro ⟨a, q⟩
        exact ⟨⟨a, q r List.mem_cons_self h⟩, fun r' hr => q r' (List.mem_cons_of_mem _ hr)⟩
    · rw [if_neg h]
      constructor
      · rintro ⟨a, q⟩
        refine ⟨a, fun r' hr => ?_⟩
        rcases List.mem_cons.mp hr with e | e
        · rw [e]; exact fun z => absurd z h
        · exact q r' e
      · rintro ⟨a, q⟩
        exact ⟨a, fun r' hr => q r' (List.mem_cons_of_mem _ hr)⟩
theorem Mh_mono {T : Nat} {rs : List Rule} {a b : Nat} (h : Sub a b) : Sub (Mh T rs a) (Mh T rs b) := by
  rw [sub_iff]
  intro j q
  unfold Mh at q ⊢
  rw [fold_bit] at q ⊢
  exact ⟨q.1, fun r hr k => q.2 r hr (h.trans k)⟩
/-- an output -/
def Oh (p : Bool) (T : Nat) (rs : List Rule) (c : Nat) : Nat := if p then Mh T rs c &&& c else Mh T rs c
theorem Oh_mono {p : Bool} {T : Nat} {rs : List Rule} {a b : Nat} (h : Sub a b) : Sub (Oh p T rs a) (Oh p T rs b) := by
  unfold Oh
  cases p with
  | false => exact Mh_mono h
  | true =>
    rw [if_pos rfl, if_pos rfl, sub_and]
    have z := (sub_and.mp (Sub.refl (Mh T rs a &&& a)))
    exact ⟨z.1.trans (Mh_mono h), z.2.trans h⟩
/-- a case that the manner allows within the facts -/
def Al (c s : Bool) (T : Nat) (rs : List Rule) (f k : Nat) : Prop := Sub k f ∧ (c = true → k &&& (k - 1) = 0) ∧ (s = true → Sub k (Mh T rs k))
instance {c s : Bool} {T : Nat} {rs : List Rule} {f k : Nat} : Decidable (Al c s T rs f k) := by unfold Al Sub; exact inferInstance
/-- what is due, by going through all cases -/
def Due (c s p : Bool) (T : Nat) (rs : List Rule) (f : Nat) : Nat := (List.range T).foldl (fun j k => if Al c s T rs f k then j ||| Oh p T rs k else j) 0
theorem join_bit {P : Nat → Prop} [DecidablePred P] {o : Nat → Nat} (i : Nat) : ∀ (l : List Nat) (a : Nat), (l.foldl (fun j k => if P k then j ||| o k else j) a).testBit i = true ↔ a.testBit i = true ∨ ∃ k ∈ l, P k ∧ (o k).testBit i = true
  | [], a => by simp
  | x :: l, a => by
    rw [List.foldl_cons, join_bit i l]
    by_cases h : P x
    · rw [if_pos h, Nat.testBit_or, Bool.or_eq_true]
      constructor
      · rintro ((q | q) | ⟨k, hk, q⟩)
        · exact .inl q
        · exact .inr ⟨x, List.mem_cons_self, h, q⟩
        · exact .inr ⟨k, List.mem_cons_of_mem _ hk, q⟩
      · rintro (q | ⟨k, hk, q⟩)
        · exact .inl (.inl q)
        · rcases List.mem_cons.mp hk with e | e
          · rw [e] at q; exact .inl (.inr q.2)
          · exact .inr ⟨k, e, q⟩
    · rw [if_neg h]
      constructor
      · rintro (q | ⟨k, hk, q⟩)
        · exact .inl q
        · exact .inr ⟨k, List.mem_cons_of_mem _ hk, q⟩
      · rintro (q | ⟨k, hk, q⟩)
        · exact .inl q
        · rcases List.mem_cons.mp hk with e | e
          · rw [e] at q; exact absurd q.1 h
          · exact .inr ⟨k, e, q⟩
theorem Due_bit {c s p : Bool} {T : Nat} {rs : List Rule} {f i : Nat} : (Due c s p T rs f).testBit i = true ↔ ∃ k, k < T ∧ Al c s T rs f k ∧ (Oh p T rs k).testBit i = true := by
  unfold Due
  rw [join_bit (P := fun k => Al c s T rs f k)]
  simp
/-- where the allowed cases have a greatest one, its output is due -/
theorem Due_top {c s p : Bool} {T : Nat} {rs : List Rule} {f g : Nat} (hg : g < T) (a : Al c s T rs f g) (h : ∀ k, k < T → Al c s T rs f k → Sub k g) : Due c s p T rs f = Oh p T rs g := by
  apply Nat.eq_of_testBit_eq
  intro i
  have : (Due c s p T rs f).testBit i = true ↔ (Oh p T rs g).testBit i = true := by
    rw [Due_bit]
    constructor
    · rintro ⟨k, hk, ak, q⟩
      exact sub_iff.mp (Oh_mono (h k hk ak)) i q
    · intro q
      exact ⟨g, hg, a, q⟩
  cases h1 : (Due c s p T rs f).testBit i <;> cases h2 : (Oh p T rs g).testBit i <;> simp_all
theorem one_bits : ∀ k < 256, k &&& (k - 1) = 0 → k = 0 ∨ ∃ w, w < 8 ∧ k = 2 ^ w := by decide +kernel
theorem pow_bits : ∀ w < 8, 2 ^ w &&& (2 ^ w - 1) = 0 := by decide +kernel
theorem pow_sub {w f : Nat} : Sub (2 ^ w) f ↔ f.testBit w = true := by
  rw [sub_iff]
  constructor
  · intro h
    exact h w (by rw [Nat.testBit_two_pow]; exact decide_eq_true rfl)
  · intro h j q
    rw [Nat.testBit_two_pow] at q
    rw [← of_decide_eq_true q]; exact h
instance {s : Bool} {T : Nat} {rs : List Rule} {k : Nat} : Decidable (s = true → Sub k (Mh T rs k)) := by unfold Sub; exact inferInstance
def Duw (s p : Bool) (T : Nat) (rs : List Rule) (ws : List Nat) : Nat := ws.foldl (fun j w => if (s = true → Sub (2 ^ w) (Mh T rs (2 ^ w))) then j ||| Oh p T rs (2 ^ w) else j) (Oh p T rs 0)
theorem beq_of {a b : Bool} (h : a = true ↔ b = true) : a = b := by cases a <;> cases b <;> simp_all
theorem Duw_eq {s p : Bool} {T : Nat} {rs : List Rule} {f : Nat} {ws : List Nat} (hf : f < T) (hT : T ≤ 256) (hw : ∀ w, w ∈ ws ↔ f.testBit w = true) : Duw s p T rs ws = Due true s p T rs f := by
  apply Nat.eq_of_testBit_eq
  intro i
  apply beq_of
  rw [Due_bit]
  unfold Duw
  rw [join_bit (P := fun w => s = true → Sub (2 ^ w) (Mh T rs (2 ^ w))) (o := fun w => Oh p T rs (2 ^ w))]
  have small : ∀ w, f.testBit w = true → 2 ^ w < T ∧ w < 8 := fun w h => by
    have h1 : 2 ^ w ≤ f := Nat.ge_two_pow_of_testBit h
    refine ⟨Nat.lt_of_le_of_lt h1 hf, ?_⟩
    by_cases z : w < 8
    · exact z
    · have : 2 ^ 8 ≤ 2 ^ w := Nat.pow_le_pow_right (by omega) (by omega)
      omega
  constructor
  · rintro (q | ⟨w, hm, hs, q⟩)
    · exact ⟨0, by omega, ⟨sub_zero _, fun _ => Nat.zero_and _, fun _ => sub_zero _⟩, q⟩
    · have hb := (hw w).mp hm
      exact ⟨2 ^ w, (small w hb).1, ⟨pow_sub.mpr hb, fun _ => pow_bits w (small w hb).2, hs⟩, q⟩
  · rintro ⟨k, hk, ⟨a1, a2, a3⟩, q⟩
    rcases one_bits k (by omega) (a2 rfl) with e | ⟨w, _, e⟩
    · rw [e] at q; exact .inl q
    · subst e
      exact .inr ⟨w, (hw w).mpr (pow_sub.mp a1), a3, q⟩
/-! ### the book -/
def bookD (m : Nat) (rs : List Rule) : D := .obj "Book" ["n", "rules"] [.int (m : Int), .tup (rs.map ruleD)]
theorem fld_n (m : Nat) (rs : List Rule) : dFld ["Book"] "n" (bookD m rs) = .ok (.int (m : Int)) := rfl
theorem fld_rules (m : Nat) (rs : List Rule) : dFld ["Book"] "rules" (bookD m rs) = .ok (.tup (rs.map ruleD)) := rfl
theorem it_book (m : Nat) (rs : List Rule) : itO "Book" "rules" (bookD m rs) = .ok (rs.map ruleD) := rfl
theorem m_every (m : Nat) (hm : m ≤ 4) : m_everything [.int (m : Int)] = .ok (.int ((2 ^ 2 ^ m - 1 : Nat) : Int)) := by
  obtain ⟨p, T, t1, t2, hT, T0, T1⟩ := tops m hm
  rw [← hT]
  have hT1 : ((T : Int) - 1) = ((T - 1 : Nat) : Int) := by omega
  unfold m_everything mOf g_everything
  simp [t1, t2, hT1]
theorem m_isprop (m x : Nat) (hm : m ≤ 4) (hx : x < 2 ^ 2 ^ m) : m_is_prop [.int (m : Int), .int (x : Int)] = .ok (.bl true) := by
  have e := m_every m hm
  obtain ⟨X, hX⟩ : ∃ X, X = 2 ^ 2 ^ m - 1 := ⟨_, rfl⟩
  rw [← hX] at e
  have h : (x : Int) ≤ (X : Int) := by omega
  unfold m_is_prop mOf g_is_prop
  simp [e, h]
theorem nlxs_rules (b : Bool) : ∀ rs : List Rule, nlxs b (rs.map ruleD) = true
  | [] => rfl
  | r :: rs => by
    show (true && nlxs b (rs.map ruleD)) = true
    rw [nlxs_rules b rs]; rfl
theorem book_turn (m : Nat) (hm : m ≤ 4) (a s4 s5 s6 : DL.Slot) (rs acc : List Rule) (r : Rule) (i : Nat) (h1 : r.1 < 2 ^ 2 ^ m) (h2 : r.2 < 2 ^ 2 ^ m) (hl : acc.length < lim) :
    b_Book_init_1 [a, .d (.int (m : Int)), .d (.lst (rs.map ruleD)), .own false (acc.map ruleD), .d (.int (i : Int)), .d (.int (r.1 : Int)), .d (.int (r.2 : Int))] =
      .nx [a, .d (.int (m : Int)), .d (.lst (rs.map ruleD)), .own false ((acc ++ [r]).map ruleD), .d (.int (i : Int)), .d (.int (r.1 : Int)), .d (.int (r.2 : Int))] := by
  unfold b_Book_init_1
  simp [m_isprop m _ hm h1, m_isprop m _ hm h2, hl]
  rfl
theorem m_book (m : Nat) (m0 : 1 ≤ m) (hm : m ≤ 4) (rs : List Rule) (hl : rs.length ≤ 16) (hr : ∀ r ∈ rs, r.1 < 2 ^ 2 ^ m ∧ r.2 < 2 ^ 2 ^ m) : m_Book_init [.int (m : Int), .lst (rs.map ruleD)] = .ok (["n", "rules"], [.int (m : Int), .tup (rs.map ruleD)]) := by
  let sf : DL.Slot := .obo true "Book" [] []
  have key := forL_ind (sl := ([4] ++ (([5] ++ ([6] ++ [])) ++ []))) (g := (gT 2 (gC g1 (gC (gT 2 (gC g1 (gC g1 gN))) gN)))) (fb := b_Book_init_1) (fun i ρ => ∃ (s4 s5 s6 : DL.Slot), ρ = [sf, .d (.int (m : Int)), .d (.lst (rs.map ruleD)), .own false ((rs.take i).map ruleD), s4, s5, s6])
    (enumD 0 (rs.map ruleD)) 0 [sf, .d (.int (m : Int)), .d (.lst (rs.map ruleD)), .own false [], .un, .un, .un] ⟨.un, .un, .un, by simp⟩ fun i d ρ hd ⟨s4, s5, s6, e⟩ => by
      subst e
      rw [enumD_get, List.getElem?_map] at hd
      cases hx : rs[i]? with
      | none => rw [hx] at hd; cases hd
      | some r =>
        rw [hx] at hd
        cases hd
        have hmem : r ∈ rs := List.mem_of_getElem? hx
        obtain ⟨h1, h2⟩ := hr r hmem
        have hi : i < rs.length := (List.getElem?_eq_some_iff.mp hx).1
        have ht : (rs.take (0 + i)).map ruleD = (rs.take i).map ruleD := by rw [Nat.zero_add]
        have e1 := book_turn m hm sf s4 s5 s6 rs (rs.take i) r (0 + i) h1 h2 (lim_lt (by rw [List.length_take]; omega))
        refine ⟨[.int ((0 + i : Nat) : Int), .int (r.1 : Int), .int (r.2 : Int)], _, rfl, .inl ((congrArg b_Book_init_1 ?_).trans e1), .d (.int ((0 + i : Nat) : Int)), .d (.int (r.1 : Int)), .d (.int (r.2 : Int)), ?_⟩
        · rw [ht]; rfl
        · rw [Nat.zero_add, List.take_add_one, hx]; rfl
  obtain ⟨ρ, q, s4, s5, s6, rfl⟩ := key
  rw [Nat.zero_add, enumD_length, List.length_map, List.take_length] at q
  have c1 : (1 : Int) ≤ m := by omega
  have c2 : (m : Int) ≤ 4 := by omega
  have c3 : ¬ (16 : Int) < rs.length := by omega
  have hb : bEnum [.lst (rs.map ruleD)] = .ok (enumD 0 (rs.map ruleD)) := rfl
  unfold m_Book_init mI g_Book_init
  have q : forL [4, 5, 6] (gT 2 (gC g1 (gC (gT 2 (gC g1 (gC g1 gN))) gN))) b_Book_init_1 (enumD 0 (rs.map ruleD)) [Slot.obo true "Book" [] [], .d (.int (m : Int)), .d (.lst (rs.map ruleD)), .own false [], .un, .un, .un] = .nx [Slot.obo true "Book" [] [], .d (.int (m : Int)), .d (.lst (rs.map ruleD)), .own false (rs.map ruleD), s4, s5, s6] := q
  have p1 : putN "n" [] = [Str.ofString "n"] := rfl
  have p2 : putN "rules" [Str.ofString "n"] = [Str.ofString "n", Str.ofString "rules"] := rfl
  have p3 : ∀ x, putD "n" x [] [] = [x] := fun _ => rfl
  have p4 : ∀ x y, putD "rules" x ["n"] [y] = [y, x] := fun _ _ => rfl
  have p5 : List.contains [Str.ofString "Book"] (Str.ofString "Book") = true := rfl
  simp [c1, c2, c3, hb, q, p1, p2, p3, p4, nlxs_rules]
theorem heads_in (a s0 s2 : DL.Slot) (k : Nat) : ∀ (rs : List Rule) (acc : Nat) (s3 s4 : DL.Slot), ∃ s3' s4', forL [3, 4] (gT 2 (gC g1 (gC g1 gN))) b_meet_heads_1 (rs.map ruleD) [a, .d (.int (k : Int)), .d (.int (acc : Int)), s3, s4] =
    .nx [a, .d (.int (k : Int)), .d (.int ((rs.foldl (mStep k) acc : Nat) : Int)), s3', s4']
  | [], acc, s3, s4 => ⟨s3, s4, rfl⟩
  | r :: rs, acc, s3, s4 => by
    obtain ⟨s3', s4', q⟩ := heads_in a s0 s2 k rs (mStep k acc r) (.d (.int (r.1 : Int))) (.d (.int (r.2 : Int)))
    refine ⟨s3', s4', ?_⟩
    have e : b_meet_heads_1 [a, .d (.int (k : Int)), .d (.int (acc : Int)), .d (.int (r.1 : Int)), .d (.int (r.2 : Int))] = .nx [a, .d (.int (k : Int)), .d (.int ((mStep k acc r : Nat) : Int)), .d (.int (r.1 : Int)), .d (.int (r.2 : Int))] := by
      unfold b_meet_heads_1 mStep
      by_cases h : k &&& r.1 = k
      · simp [dAnd_nn, dEq_nn, h]
      · simp [dAnd_nn, dEq_nn, h]
    exact (forL_nx (sl := [3, 4]) (g := gT 2 (gC g1 (gC g1 gN))) (fb := b_meet_heads_1) (ρ := [a, .d (.int (k : Int)), .d (.int (acc : Int)), s3, s4]) (vs := [.int (r.1 : Int), .int (r.2 : Int)]) rfl e).trans q
theorem m_heads (m : Nat) (hm : m ≤ 4) (rs : List Rule) (k : Nat) : m_meet_heads [bookD m rs, .int (k : Int)] = .ok (.int ((Mh (2 ^ 2 ^ m) rs k : Nat) : Int)) := by
  obtain ⟨s3, s4, q⟩ := heads_in (.d (bookD m rs)) .un .un k rs (2 ^ 2 ^ m - 1) .un .un
  have e := m_every m hm
  unfold Mh
  obtain ⟨X, hX⟩ : ∃ X, X = 2 ^ 2 ^ m - 1 := ⟨_, rfl⟩
  rw [← hX] at e q ⊢
  unfold m_meet_heads mOf g_meet_heads
  simp [fld_n, it_book, e, q]
/-! ### the manners -/
structure Man (z : Str) (c s p : Bool) : Prop where
  sw : m_switches [.str z] = .ok (.tup [.bl c, .bl s, .bl p])
  c5 : ((dSl (.str z) none (some 5)).bind fun x => dIn x (.tup [.str "cases", .str "both", .str "both+"])) = .ok (.bl c)
  s5 : ((dSl (.str z) none (some 5)).bind fun x => dIn x (.tup [.str "steps", .str "both", .str "both+"])) = .ok (.bl s)
  pl : ((dIx (.str z) (.int (-1))).bind fun x => dEq x (.str "+")) = .ok (.bl p)
theorem man1 : Man "once" false false false := ⟨by kernel_rfl, by kernel_rfl, by kernel_rfl, by kernel_rfl⟩
theorem man2 : Man "cases" true false false := ⟨by kernel_rfl, by kernel_rfl, by kernel_rfl, by kernel_rfl⟩
theorem man3 : Man "steps" false true false := ⟨by kernel_rfl, by kernel_rfl, by kernel_rfl, by kernel_rfl⟩
theorem man4 : Man "both" true true false := ⟨by kernel_rfl, by kernel_rfl, by kernel_rfl, by kernel_rfl⟩
theorem man5 : Man "once+" false false true := ⟨by kernel_rfl, by kernel_rfl, by kernel_rfl, by kernel_rfl⟩
theorem man6 : Man "cases+" true false true := ⟨by kernel_rfl, by kernel_rfl, by kernel_rfl, by kernel_rfl⟩
theorem man7 : Man "steps+" false true true := ⟨by kernel_rfl, by kernel_rfl, by kernel_rfl, by kernel_rfl⟩
theorem man8 : Man "both+" true true true := ⟨by kernel_rfl, by kernel_rfl, by kernel_rfl, by kernel_rfl⟩
section
variable {z : Str} {c s p : Bool} {m : Nat} {rs : List Rule}
theorem m_out (M : Man z c s p) (hm : m ≤ 4) (k : Nat) : m_output [bookD m rs, .int (k : Int), .str z] = .ok (.int ((Oh p (2 ^ 2 ^ m) rs k : Nat) : Int)) := by
  have e := m_heads m hm rs k
  unfold m_output mOf g_output Oh
  cases p with
  | false => simp [e, M.sw]
  | true => simp [e, M.sw, dAnd_nn]
theorem m_with (a b : Nat) : m_within [.int (a : Int), .int (b : Int)] = .ok (.bl (decide (a &&& b = a))) := by
  unfold m_within mOf g_within
  simp [dAnd_nn, dEq_nn]
theorem m_stable (hm : m ≤ 4) (k : Nat) : m_is_stable [bookD m rs, .int (k : Int)] = .ok (.bl (decide (Sub k (Mh (2 ^ 2 ^ m) rs k)))) := by
  have e := m_heads m hm rs k
  unfold m_is_stable mOf g_is_stable
  simp [e, m_with, Sub]
end
/-! ### steps -/
theorem and_lt_of {a b : Nat} (h : a &&& b ≠ a) : a &&& b < a := Nat.lt_of_le_of_ne Nat.and_le_left h
theorem steps_loop (m : Nat) (hm : m ≤ 4) (rs : List Rule) (s1 : DL.Slot) : ∀ (n p : Nat), p < n → ∃ (ys : List Nat) (P : Nat) (s2 s3 : DL.Slot), gWh c_steps_1 b_steps_1 n [.d (bookD m rs), s1, .d (.int (p : Int)), .d (.int ((p &&& Mh (2 ^ 2 ^ m) rs p : Nat) : Int))] =
      (ys.map nD, .nx [.d (bookD m rs), s1, s2, s3]) ∧ Sub P p ∧ Sub P (Mh (2 ^ 2 ^ m) rs P) ∧ (∀ k, Sub k p → Sub k (Mh (2 ^ 2 ^ m) rs k) → Sub k P) ∧ ys.length ≤ p ∧ ∃ zs, p :: ys = zs ++ [P]
  | 0, p, h => absurd h (Nat.not_lt_zero _)
  | n + 1, p, h => by
    let q : Nat := p &&& Mh (2 ^ 2 ^ m) rs p
    have cond : c_steps_1 [.d (bookD m rs), s1, .d (.int (p : Int)), .d (.int ((p &&& Mh (2 ^ 2 ^ m) rs p : Nat) : Int))] = .ok (!decide (p &&& Mh (2 ^ 2 ^ m) rs p = p)) := by
      unfold c_steps_1
      simp [dNe_nn]
    by_cases e : p &&& Mh (2 ^ 2 ^ m) rs p = p
    · refine ⟨[], p, .d (.int (p : Int)), .d (.int ((p &&& Mh (2 ^ 2 ^ m) rs p : Nat) : Int)), ?_, Sub.refl p, e, fun k h1 _ => h1, Nat.zero_le _, [], rfl⟩
      rw [decide_eq_true e] at cond
      exact gWh_f cond
    · have lt : q < p := and_lt_of e
      obtain ⟨ys, P, s2, s3, h1, h2, h3, h4, h5, zs, h6⟩ := steps_loop m hm rs s1 n q (by omega)
      have hq : Sub q p := (sub_and.mp (Sub.refl q)).1
      refine ⟨q :: ys, P, s2, s3, ?_, h2.trans hq, h3, fun k k1 k2 => h4 k (sub_and.mpr ⟨k1, k2.trans (Mh_mono k1)⟩) k2, by rw [List.length_cons]; omega, p :: zs, by rw [h6]; rfl⟩
      rw [decide_eq_false e] at cond
      have hb : b_steps_1 [.d (bookD m rs), s1, .d (.int (p : Int)), .d (.int ((q : Nat) : Int))] = ([nD q], .nx [.d (bookD m rs), s1, .d (.int (q : Int)), .d (.int ((q &&& Mh (2 ^ 2 ^ m) rs q : Nat) : Int))]) := by
        have eh := m_heads m hm rs q
        unfold b_steps_1
        generalize q = q at eh ⊢
        simp [eh, dAnd_nn, nD]
      rw [gWh_t cond hb, h1]
      rfl
theorem m_settled (m : Nat) (hm : m ≤ 4) (rs : List Rule) (f : Nat) (hf : f < 1000) : ∃ P : Nat, m_settle [bookD m rs, .int (f : Int)] = .ok (.int (P : Int)) ∧ Sub P f ∧ Sub P (Mh (2 ^ 2 ^ m) rs P) ∧ ∀ k, Sub k f → Sub k (Mh (2 ^ 2 ^ m) rs k) → Sub k P := by
  obtain ⟨ys, P, s2, s3, h1, h2, h3, h4, h5, zs, h6⟩ := steps_loop m hm rs (.d (.int (f : Int))) 1000 f hf
  refine ⟨P, ?_, h2, h3, h4⟩
  have eh := m_heads m hm rs f
  have e1 : m_steps [bookD m rs, .int (f : Int)] = .ok ((f :: ys).map nD) := by
    have ln : ((f :: ys).map nD).length ≤ lim := by rw [List.length_map, List.length_cons]; exact Nat.le_of_lt (lim_lt (by omega))
    rw [List.length_map, List.length_cons] at ln
    unfold m_steps mG g_steps
    simp [eh, dAnd_nn, h1, nD, ln]
  have e2 : L2.atI ((f :: ys).map nD) (-1) = some (nD P) := by
    rw [h6, List.map_append]
    exact atI_last _ _
  unfold m_settle mOf g_settle
  simp only [List.map_cons] at e1 e2
  simp [e1, e2]
  rfl
/-! ### worlds -/
theorem bit0 (p : Nat) : p &&& 1 = 1 ↔ p.testBit 0 = true := by
  rw [Nat.and_one_is_mod, Nat.testBit_zero, decide_eq_true_eq]
theorem shr1 (p : Nat) : dShr (.int (p : Int)) (.int 1) = .ok (.int ((p / 2 : Nat) : Int)) := rfl
theorem worlds_loop : ∀ (n p w : Nat) (acc : List Nat), p < n → acc.length + p ≤ 9000 → ∃ (ws : List Nat) (s0 s2 : DL.Slot), whL c_worlds_of_1 b_worlds_of_1 n [.d (.int (p : Int)), .own false (acc.map nD), .d (.int (w : Int))] =
      .nx [s0, .own false ((acc ++ ws).map nD), s2] ∧ ∀ x, x ∈ ws ↔ ∃ j, x = w + j ∧ p.testBit j = true
  | 0, p, _, _, h, _ => absurd h (Nat.not_lt_zero _)
  | n + 1, p, w, acc, h, hl => by
    have cond : c_worlds_of_1 [.d (.int (p : Int)), .own false (acc.map nD), .d (.int (w : Int))] = .ok (decide (0 < p)) := by
      unfold c_worlds_of_1
      simp
    by_cases e : 0 < p
    · rw [decide_eq_true e] at cond
      have a1 : dAnd (.int (p : Int)) (.int 1) = .ok (.int ((p &&& 1 : Nat) : Int)) := dAnd_nn p 1
      have a2 : dEq (.int ((p &&& 1 : Nat) : Int)) (.int 1) = .ok (.bl (decide (p &&& 1 = 1))) := dEq_nn (p &&& 1) 1
      have ll : acc.length < lim := lim_lt (by omega)
      have lt : p / 2 < n := by omega
      have s1 := shr1 p
      obtain ⟨A, hA⟩ : ∃ A, A = p &&& 1 := ⟨_, rfl⟩
      rw [← hA] at a1 a2
      obtain ⟨Z, hZ⟩ : ∃ Z, Z = p / 2 := ⟨_, rfl⟩
      by_cases o : p &&& 1 = 1
      · obtain ⟨ws, s0, s2, h1, h2⟩ := worlds_loop n (p / 2) (w + 1) (acc ++ [w]) lt (by rw [List.length_append, List.length_singleton]; omega)
        have hb : b_worlds_of_1 [.d (.int (p : Int)), .own false (acc.map nD), .d (.int (w : Int))] = .nx [.d (.int ((p / 2 : Nat) : Int)), .own false ((acc ++ [w]).map nD), .d (.int ((w + 1 : Nat) : Int))] := by
          rw [← hZ] at s1 ⊢
          rw [decide_eq_true (hA.trans o)] at a2
          unfold b_worlds_of_1
          simp [a1, a2, ll, s1, nD]
        refine ⟨w :: ws, s0, s2, ?_, fun x => ?_⟩
        · rw [whL_t cond hb, h1, List.append_assoc]; rfl
        · rw [List.mem_cons, h2]
          constructor
          · rintro (rfl | ⟨j, rfl, q⟩)
            · exact ⟨0, rfl, (bit0 p).mp o⟩
            · exact ⟨j + 1, by omega, by rw [Nat.testBit_succ]; exact q⟩
          · rintro ⟨j, rfl, q⟩
            cases j with
            | zero => exact .inl rfl
            | succ j => exact .inr ⟨j, by omega, by rw [Nat.testBit_succ] at q; exact q⟩
      · obtain ⟨ws, s0, s2, h1, h2⟩ := worlds_loop n (p / 2) (w + 1) acc lt (by omega)
        have hb : b_worlds_of_1 [.d (.int (p : Int)), .own false (acc.map nD), .d (.int (w : Int))] = .nx [.d (.int ((p / 2 : Nat) : Int)), .own false (acc.map nD), .d (.int ((w + 1 : Nat) : Int))] := by
          rw [← hZ] at s1 ⊢
          rw [decide_eq_false (fun q => o (hA.symm.trans q))] at a2
          unfold b_worlds_of_1
          simp [a1, a2, ll, s1, nD]
        refine ⟨ws, s0, s2, ?_, fun x => ?_⟩
        · rw [whL_t cond hb, h1]
        · rw [h2]
          constructor
          · rintro ⟨j, rfl, q⟩
            exact ⟨j + 1, by omega, by rw [Nat.testBit_succ]; exact q⟩
          · rintro ⟨j, rfl, q⟩
            cases j with
            | zero => exact absurd ((bit0 p).mpr q) o
            | succ j => exact ⟨j, by omega, by rw [Nat.testBit_succ] at q; exact q⟩
    · rw [decide_eq_false e] at cond
      have e0 : p = 0 := by omega
      refine ⟨[], _, _, by rw [whL_f cond, List.append_nil], fun x => ?_⟩
      constructor
      · intro z; cases z
      · rintro ⟨j, _, q⟩
        rw [e0, Nat.zero_testBit] at q
        cases q
theorem m_worlds (f : Nat) (hf : f < 1000) : ∃ ws : List Nat, m_worlds_of [.int (f : Int)] = .ok (.lst (ws.map nD)) ∧ ∀ x, x ∈ ws ↔ f.testBit x = true := by
  obtain ⟨ws, s0, s2, h1, h2⟩ := worlds_loop 1000 f 0 [] hf (by simp; omega)
  refine ⟨ws, ?_, fun x => ?_⟩
  · have h1 : whL c_worlds_of_1 b_worlds_of_1 1000 [.d (.int (f : Int)), .own false [], .d (.int 0)] = .nx [s0, .own false (ws.map nD), s2] := h1
    unfold m_worlds_of mOf g_worlds_of
    simp [h1]
  · rw [h2]
    constructor
    · rintro ⟨j, e, q⟩
      rw [e, Nat.zero_add]; exact q
    · intro q
      exact ⟨x, (Nat.zero_add x).symm, q⟩
/-! ### due -/
theorem shl_w (w : Nat) (h : w ≤ 1000) : dShl (.int 1) (.int (w : Int)) = .ok (.int ((2 ^ w : Nat) : Int)) := by
  show (if cPow 1 (w : Int) = true then Res.ok (D.int (1 * 2 ^ (w : Int).toNat)) else .st) = _
  rw [if_pos (cPow_of (by omega) (by omega) (by decide) (by decide)), Int.one_mul, Int.toNat_natCast]
  congr 2
section
variable {z : Str} {c s p : Bool} {m : Nat} {rs : List Rule}
theorem due_loop (M : Man z c s p) (hm : m ≤ 4) (s1 s5 s7 : DL.Slot) : ∀ (ws : List Nat) (j : Nat) (s4 s8 : DL.Slot), (∀ w ∈ ws, w ≤ 1000) → ∃ s4' s8', forL [4] g1 b_due_1 (ws.map nD) [.d (bookD m rs), s1, .d (.str z), .d (.int (j : Int)), s4, s5, .d (.bl s), s7, s8] =
    .nx [.d (bookD m rs), s1, .d (.str z), .d (.int ((ws.foldl (fun j w => if (s = true → Sub (2 ^ w) (Mh (2 ^ 2 ^ m) rs (2 ^ w))) then j ||| Oh p (2 ^ 2 ^ m) rs (2 ^ w) else j) j : Nat) : Int)), s4', s5, .d (.bl s), s7, s8']
  | [], j, s4, s8, _ => ⟨s4, s8, rfl⟩
  | w :: ws, j, s4, s8, hw => by
    have sh := shl_w w (hw w List.mem_cons_self)
    obtain ⟨K, hK⟩ : ∃ K, K = 2 ^ w := ⟨_, rfl⟩
    rw [← hK] at sh
    let j' : Nat := if (s = true → Sub K (Mh (2 ^ 2 ^ m) rs K)) then j ||| Oh p (2 ^ 2 ^ m) rs K else j
    obtain ⟨s4', s8', q⟩ := due_loop M hm s1 s5 s7 ws j' (.d (.int (w : Int))) (.d (.int (K : Int))) fun x hx => hw x (List.mem_cons_of_mem _ hx)
    refine ⟨s4', s8', ?_⟩
    have e1 := m_stable (m := m) (rs := rs) hm K
    have e2 := m_out (rs := rs) M hm K
    have e : b_due_1 [.d (bookD m rs), s1, .d (.str z), .d (.int (j : Int)), .d (.int (w : Int)), s5, .d (.bl s), s7, s8] = .nx [.d (bookD m rs), s1, .d (.str z), .d (.int (j' : Int)), .d (.int (w : Int)), s5, .d (.bl s), s7, .d (.int (K : Int))] := by
      show _ = SRes.nx [.d (bookD m rs), s1, .d (.str z), .d (.int (((if (s = true → Sub K (Mh (2 ^ 2 ^ m) rs K)) then j ||| Oh p (2 ^ 2 ^ m) rs K else j) : Nat) : Int)), .d (.int (w : Int)), s5, .d (.bl s), s7, .d (.int (K : Int))]
      unfold b_due_1
      by_cases st : s = true → Sub K (Mh (2 ^ 2 ^ m) rs K)
      · rw [if_pos st]
        cases s with
        | false => simp [sh, e2, dOr_nn]
        | true =>
          rw [decide_eq_true (st rfl)] at e1
          simp [sh, e1, e2, dOr_nn]
      · rw [if_neg st]
        cases s with
        | false => exact absurd (fun z => (nomatch z)) st
        | true =>
          rw [decide_eq_false (fun q => st fun _ => q)] at e1
          simp [sh, e1]
    rw [List.foldl_cons]
    subst hK
    exact (forL_nx (sl := [4]) (g := g1) (fb := b_due_1) (ρ := [.d (bookD m rs), s1, .d (.str z), .d (.int (j : Int)), s4, s5, .d (.bl s), s7, s8]) (vs := [.int (w : Int)]) rfl e).trans q
theorem m_dued (M : Man z c s p) (hm : m ≤ 3) (f : Nat) (hf : f < 2 ^ 2 ^ m) : m_due [bookD m rs, .int (f : Int), .str z] = .ok (.int ((Due c s p (2 ^ 2 ^ m) rs f : Nat) : Int)) := by
  have T2 := tp_le m hm
  unfold m_due mOf g_due
  cases c with
  | false =>
    cases s with
    | false =>
      have e := m_out (m := m) (rs := rs) M (by omega) f
      have hz : Due false false p (2 ^ 2 ^ m) rs f = Oh p (2 ^ 2 ^ m) rs f := Due_top hf ⟨Sub.refl f, fun z => (nomatch z), fun z => (nomatch z)⟩ fun k _ a => a.1
      rw [hz]
      generalize Oh p (2 ^ 2 ^ m) rs f = O at e ⊢
      simp [M.sw, e]
    | true =>
      obtain ⟨P, q1, q2, q3, q4⟩ := m_settled m (by omega) rs f (by omega)
      have e := m_out (m := m) (rs := rs) M (by omega) P
      have hP : P < 2 ^ 2 ^ m := Nat.lt_of_le_of_lt (by have := (show P &&& f = P from q2); rw [← this]; exact Nat.and_le_right) hf
      have hz : Due false true p (2 ^ 2 ^ m) rs f = Oh p (2 ^ 2 ^ m) rs P := Due_top hP ⟨q2, fun z => (nomatch z), fun _ => q3⟩ fun k _ a => q4 k a.1 (a.2.2 rfl)
      rw [hz]
      generalize Oh p (2 ^ 2 ^ m) rs P = O at e ⊢
      simp [M.sw, e, q1]
  | true =>
    obtain ⟨ws, w1, w2⟩ := m_worlds f (by omega)
    have e0 := m_out (m := m) (rs := rs) M (by omega) 0
    have hw : ∀ w ∈ ws, w ≤ 1000 := fun w hw => by
      have h1 : 2 ^ w ≤ f := Nat.ge_two_pow_of_testBit ((w2 w).mp hw)
      have h2 : w < 2 ^ w := Nat.lt_two_pow_self
      omega
    obtain ⟨s4', s8', q⟩ := due_loop M (m := m) (rs := rs) (by omega) (.d (.int (f : Int))) (.d (.bl true)) (.d (.bl p)) ws (Oh p (2 ^ 2 ^ m) rs 0) .un .un hw
    have hz : Duw s p (2 ^ 2 ^ m) rs ws = Due true s p (2 ^ 2 ^ m) rs f := Duw_eq hf T2 w2
    rw [← hz]
    unfold Duw
    have e0 : m_output [bookD m rs, .int 0, .str z] = .ok (.int ((Oh p (2 ^ 2 ^ m) rs 0 : Nat) : Int)) := e0
    obtain ⟨O0, hO0⟩ : ∃ O0, O0 = Oh p (2 ^ 2 ^ m) rs 0 := ⟨_, rfl⟩
    rw [← hO0] at e0 q ⊢
    generalize List.foldl _ O0 ws = W at q ⊢
    simp [M.sw, e0, w1, q]
theorem m_isdue (M : Man z c s p) (hm : m ≤ 3) (f q : Nat) (hf : f < 2 ^ 2 ^ m) : m_is_due [bookD m rs, .int (f : Int), .int (q : Int), .str z] = .ok (.bl (decide (Due c s p (2 ^ 2 ^ m) rs f &&& q = Due c s p (2 ^ 2 ^ m) rs f))) := by
  have e := m_dued (rs := rs) M hm f hf
  obtain ⟨E, hE⟩ : ∃ E, E = Due c s p (2 ^ 2 ^ m) rs f := ⟨_, rfl⟩
  rw [← hE] at e ⊢
  unfold m_is_due mOf g_is_due
  simp [e, m_with]
theorem and_pred (i : Nat) : dAnd (.int (i : Int)) (.int ((i : Int) - 1)) = .ok (.int ((i &&& (i - 1) : Nat) : Int)) := by
  cases i with
  | zero => rfl
  | succ i =>
    have e : (((i + 1 : Nat) : Int) - 1) = (i : Int) := by omega
    rw [e]
    exact dAnd_nn (i + 1) i
/-- the law's own test of a case -/
def alB (c s : Bool) (f Mi i : Nat) : Bool := decide (i &&& f = i) && (!c || decide (i &&& (i - 1) = 0)) && (!s || decide (i &&& Mi = i))
theorem law_due_turn (M : Man z c s p) (f i j Mi : Nat) (ms : List D) (s5 : DL.Slot) (hM : L2.atI ms (i : Int) = some (.int (Mi : Int))) :
    b__law_due_1 [.d (.lst ms), .d (.int (f : Int)), .d (.str z), .d (.int (j : Int)), .d (.int (i : Int)), s5] =
      .nx [.d (.lst ms), .d (.int (f : Int)), .d (.str z), .d (.int (((if alB c s f Mi i = true then j ||| (if p then Mi &&& i else Mi) else j) : Nat) : Int)), .d (.int (i : Int)), .d (.bl (alB c s f Mi i))] := by
  have n0 : dNe (.int ((i &&& (i - 1) : Nat) : Int)) (.int 0) = .ok (.bl (!decide (i &&& (i - 1) = 0))) := dNe_nn (i &&& (i - 1)) 0
  have n1 := dEq_nn (i &&& f) i
  have n2 := dNe_nn (i &&& Mi) i
  have ap := and_pred i
  have c5 := M.c5
  have s5' := M.s5
  have pl := M.pl
  have a1 := dAnd_nn i f
  have a2 := dAnd_nn i Mi
  have a3 := dAnd_nn Mi i
  unfold alB
  generalize decide (i &&& f = i) = B1 at *
  generalize decide (i &&& (i - 1) = 0) = B2 at *
  generalize decide (i &&& Mi = i) = B3 at *
  obtain ⟨X, hX⟩ : ∃ X, X = i &&& (i - 1) := ⟨_, rfl⟩
  obtain ⟨Y, hY⟩ : ∃ Y, Y = i &&& Mi := ⟨_, rfl⟩
  obtain ⟨Z, hZ⟩ : ∃ Z, Z = i &&& f := ⟨_, rfl⟩
  obtain ⟨V, hV⟩ : ∃ V, V = Mi &&& i := ⟨_, rfl⟩
  rw [← hX] at ap n0
  rw [← hZ] at a1 n1
  rw [← hY] at a2 n2
  rw [← hV] at a3 ⊢
  unfold b__law_due_1
  cases B1 <;> cases B2 <;> cases B3 <;> cases c <;> cases s <;> cases p <;>
    simp [hM, n0, n1, n2, ap, a1, a2, a3, c5, s5', pl, dOr_nn]
end
end K86
set_option Elab.async false
set_option linter.all false
set_option maxRecDepth 100000
set_option maxHeartbeats 400000
namespace K86
open PySem PySem.Spec PyProof.Rows L2 DL
section
variable {z : Str} {c s p : Bool} {m : Nat} {rs : List Rule}
theorem m_lawdue (M : Man z c s p) (T f : Nat) (hT : T ≤ 256) : m__law_due [.lst ((List.range T).map fun c => nD (Mh T rs c)), .int (f : Int), .str z] = .ok (.int ((Due c s p T rs f : Nat) : Int)) := by
  let st : Nat → Nat → Nat := fun j k => if Al c s T rs f k then j ||| Oh p T rs k else j
  obtain ⟨ms, hms⟩ : ∃ ms, ms = (List.range T).map fun c => nD (Mh T rs c) := ⟨_, rfl⟩
  have hlen : ms.length = T := by rw [hms, List.length_map, List.length_range]
  rw [← hms]
  have key := forL_ind (sl := [4]) (g := g1) (fb := b__law_due_1) (fun i ρ => i ≤ T ∧ ∃ s4 s5, ρ = [.d (.lst ms), .d (.int (f : Int)), .d (.str z), .d (.int (((List.range i).foldl st 0 : Nat) : Int)), s4, s5])
    (rangeD 0 T) 0 [.d (.lst ms), .d (.int (f : Int)), .d (.str z), .d (.int 0), .un, .un] ⟨Nat.zero_le _, .un, .un, rfl⟩ fun i d ρ hd ⟨_, s4, s5, e⟩ => by
      subst e
      obtain ⟨hi, rfl⟩ := rangeD_get hd
      have hM : L2.atI ms (i : Int) = some (.int ((Mh T rs i : Nat) : Int)) := atI_at (by rw [hms, List.getElem?_map, List.getElem?_range hi]; rfl)
      have e := law_due_turn M f i ((List.range (0 + i)).foldl st 0) (Mh T rs i) ms s5 hM
      refine ⟨_, _, rfl, .inl ((congrArg b__law_due_1 ?_).trans e), by omega, .d (.int (i : Int)), .d (.bl (alB c s f (Mh T rs i) i)), ?_⟩
      · show [Slot.d (.lst ms), .d (.int (f : Int)), .d (.str z), .d (.int (((List.range (0 + i)).foldl st 0 : Nat) : Int)), .d (.int (0 + (i : Int))), s5] = _
        rw [Int.zero_add]
      · rw [show 0 + i + 1 = (0 + i) + 1 from rfl, List.range_succ, List.foldl_append, Nat.zero_add]
        have ea : (alB c s f (Mh T rs i) i = true) = Al c s T rs f i := by
          unfold alB Al Sub
          rw [Bool.and_eq_true, Bool.and_eq_true, Bool.or_eq_true, Bool.or_eq_true, decide_eq_true_eq, decide_eq_true_eq, decide_eq_true_eq, and_assoc]
          cases c <;> cases s <;> simp
        show _ = [Slot.d (.lst ms), .d (.int (f : Int)), .d (.str z), .d (.int (((if Al c s T rs f i then (List.range i).foldl st 0 ||| Oh p T rs i else (List.range i).foldl st 0) : Nat) : Int)), _, _]
        by_cases h : Al c s T rs f i
        · rw [if_pos h, if_pos (by rw [ea]; exact h)]; rfl
        · rw [if_neg h, if_neg (by rw [ea]; exact h)]
  obtain ⟨ρ, q, _, s4, s5, rfl⟩ := key
  rw [Nat.zero_add, rangeD_len] at q
  have er : rng1 [.int (ms.length : Int)] = .ok (rangeD 0 T) := by rw [hlen]; exact rng1_n T (by omega)
  show _ = Res.ok (D.int (((List.range T).foldl st 0 : Nat) : Int))
  generalize List.foldl st 0 (List.range T) = W at q ⊢
  unfold m__law_due mOf g__law_due
  simp [er, q]
end
/-! ### the law -/
theorem isi_of {T : String} {d : D} {b : Bool} (h : isT T d.ty = some b) : dIsi T d = .ok (.bl b) := by
  unfold dIsi
  rw [h]
theorem isi_ii (j : Int) : dIsi "int" (.int j) = .ok (.bl true) := isi_of (show isT "int" "int" = some true by decide +kernel)
theorem isi_bi (j : Int) : dIsi "bool" (.int j) = .ok (.bl false) := isi_of (show isT "bool" "int" = some false by decide +kernel)
theorem isi_bool (b : Bool) : dIsi "bool" (.bl b) = .ok (.bl true) := isi_of (show isT "bool" "bool" = some true by decide +kernel)
theorem m_isint (j : Int) : m__law_is_integer [.int j] = .ok (.bl true) := by
  unfold m__law_is_integer mOf g__law_is_integer
  simp [isi_ii, isi_bi]
theorem eqvs_refl : ∀ rs : List Rule, eqvs (rs.map ruleD) (rs.map ruleD) = true
  | [] => rfl
  | r :: rs => by
    show ((ruleD r).eqv (ruleD r) && eqvs (rs.map ruleD) (rs.map ruleD)) = true
    rw [eqvs_refl rs, Bool.and_true]
    show (((r.1 : Int) == (r.1 : Int)) && (((r.2 : Int) == (r.2 : Int)) && true)) = true
    simp
theorem oks_rules (n : Nat) : ∀ rs : List Rule, dOks (n + 1) (rs.map ruleD) = true
  | [] => rfl
  | r :: rs => by
    show (dOk (n + 1) (ruleD r) && dOks (n + 1) (rs.map ruleD)) = true
    rw [oks_rules n rs]
    cases n <;> rfl
theorem rules_eq (rs : List Rule) : dEq (.tup (rs.map ruleD)) (.tup (rs.map ruleD)) = .ok (.bl true) := by
  unfold dEq
  have h : dOk 16 (.tup (rs.map ruleD)) = true := oks_rules 14 rs
  rw [if_pos ⟨h, h⟩]
  exact congrArg (fun b => Res.ok (D.bl b)) (eqvs_refl rs)
theorem dNe_bb (a b : Bool) : dNe (.bl a) (.bl b) = .ok (.bl (!(a == b))) := rfl
section
variable {z : Str} {c s p : Bool} {m : Nat} {rs : List Rule}
theorem claim_turn (M : Man z c s p) (hm : m ≤ 3) (f q : Nat) (hf : f < 2 ^ 2 ^ m) (a0 a1 a2 a3 a4 a5 a6 a8 a12 a14 : DL.Slot) :
    ∃ a14', b_law_1 [a0, a1, a2, a3, a4, a5, a6, .d (.int (f : Int)), a8, .d (bookD m rs), .d (.str z), .d (.int ((Due c s p (2 ^ 2 ^ m) rs f : Nat) : Int)), a12, .d (.int (q : Int)), a14] =
      .nx [a0, a1, a2, a3, a4, a5, a6, .d (.int (f : Int)), a8, .d (bookD m rs), .d (.str z), .d (.int ((Due c s p (2 ^ 2 ^ m) rs f : Nat) : Int)), a12, .d (.int (q : Int)), a14'] := by
  have e := m_isdue (rs := rs) M hm f q hf
  obtain ⟨E, hE⟩ : ∃ E, E = Due c s p (2 ^ 2 ^ m) rs f := ⟨_, rfl⟩
  rw [← hE] at e ⊢
  have n1 := dEq_nn (E &&& q) E
  have a1 := dAnd_nn E q
  generalize decide (E &&& q = E) = B at *
  obtain ⟨X, hX⟩ : ∃ X, X = E &&& q := ⟨_, rfl⟩
  rw [← hX] at n1 a1
  refine ⟨.d (.bl B), ?_⟩
  unfold b_law_1
  simp [e, isi_bool, n1, a1, dNe_bb]
theorem manner_turn (M : Man z c s p) (hm : m ≤ 3) (f d0 d1 d2 : Nat) (hf : f < 2 ^ 2 ^ m) (a0 a1 a2 a3 a4 a5 a11 a12 a13 a14 : DL.Slot) :
    ∃ a11' a12' a13' a14', b_law_2 [a0, a1, a2, a3, a4, a5, .d (.lst [nD d0, nD d1, nD d2]), .d (.int (f : Int)), .d (.lst ((List.range (2 ^ 2 ^ m)).map fun c => nD (Mh (2 ^ 2 ^ m) rs c))), .d (bookD m rs), .d (.str z), a11, a12, a13, a14] =
      .nx [a0, a1, a2, a3, a4, a5, .d (.lst [nD d0, nD d1, nD d2]), .d (.int (f : Int)), .d (.lst ((List.range (2 ^ 2 ^ m)).map fun c => nD (Mh (2 ^ 2 ^ m) rs c))), .d (bookD m rs), .d (.str z), a11', a12', a13', a14'] := by
  have e1 := m_lawdue (rs := rs) M (2 ^ 2 ^ m) f (tp_le m hm)
  have e2 := m_dued (rs := rs) M hm f hf
  obtain ⟨ms, hms⟩ : ∃ ms, ms = (List.range (2 ^ 2 ^ m)).map fun c => nD (Mh (2 ^ 2 ^ m) rs c) := ⟨_, rfl⟩
  rw [← hms] at e1 ⊢
  have loop : ∀ (qs : List Nat) (a13 a14 : DL.Slot), ∃ a13' a14', forL [13] g1 b_law_1 (qs.map nD) [a0, a1, a2, a3, a4, a5, .d (.lst [nD d0, nD d1, nD d2]), .d (.int (f : Int)), .d (.lst ms), .d (bookD m rs), .d (.str z), .d (.int ((Due c s p (2 ^ 2 ^ m) rs f : Nat) : Int)), .d (.int ((Due c s p (2 ^ 2 ^ m) rs f : Nat) : Int)), a13, a14] =
      .nx [a0, a1, a2, a3, a4, a5, .d (.lst [nD d0, nD d1, nD d2]), .d (.int (f : Int)), .d (.lst ms), .d (bookD m rs), .d (.str z), .d (.int ((Due c s p (2 ^ 2 ^ m) rs f : Nat) : Int)), .d (.int ((Due c s p (2 ^ 2 ^ m) rs f : Nat) : Int)), a13', a14'] := by
    intro qs
    induction qs with
    | nil => exact fun a13 a14 => ⟨a13, a14, rfl⟩
    | cons q qs ih =>
      intro a13 a14
      obtain ⟨b14, e⟩ := claim_turn (rs := rs) M hm f q hf a0 a1 a2 a3 a4 a5 (.d (.lst [nD d0, nD d1, nD d2])) (.d (.lst ms)) (.d (.int ((Due c s p (2 ^ 2 ^ m) rs f : Nat) : Int))) a14
      obtain ⟨a13', a14', r⟩ := ih (.d (.int (q : Int))) b14
      exact ⟨a13', a14', (forL_nx (sl := [13]) (g := g1) (fb := b_law_1) (ρ := [a0, a1, a2, a3, a4, a5, .d (.lst [nD d0, nD d1, nD d2]), .d (.int (f : Int)), .d (.lst ms), .d (bookD m rs), .d (.str z), .d (.int ((Due c s p (2 ^ 2 ^ m) rs f : Nat) : Int)), .d (.int ((Due c s p (2 ^ 2 ^ m) rs f : Nat) : Int)), a13, a14]) (vs := [.int (q : Int)]) rfl e).trans r⟩
  obtain ⟨E, hE⟩ : ∃ E, E = Due c s p (2 ^ 2 ^ m) rs f := ⟨_, rfl⟩
  rw [← hE] at e1 e2 loop
  obtain ⟨a13', a14', q⟩ := loop [d2, E, E &&& (E - 1), E ||| d2] a13 a14
  refine ⟨.d (.int (E : Int)), .d (.int (E : Int)), a13', a14', ?_⟩
  have ap := and_pred E
  have n1 := dNe_nn E E
  have o1 : dOr (.int (E : Int)) (nD d2) = .ok (.int ((E ||| d2 : Nat) : Int)) := dOr_nn E d2
  obtain ⟨X, hX⟩ : ∃ X, X = E &&& (E - 1) := ⟨_, rfl⟩
  obtain ⟨Y, hY⟩ : ∃ Y, Y = E ||| d2 := ⟨_, rfl⟩
  rw [← hX] at ap q
  rw [← hY] at o1 q
  rw [decide_eq_true rfl] at n1
  simp only [List.map_cons, List.map_nil] at q
  have q : forL [13] g1 b_law_1 [nD d2, .int (E : Int), .int (X : Int), .int (Y : Int)] [a0, a1, a2, a3, a4, a5, .d (.lst [nD d0, nD d1, nD d2]), .d (.int (f : Int)), .d (.lst ms), .d (bookD m rs), .d (.str z), .d (.int (E : Int)), .d (.int (E : Int)), a13, a14] =
    .nx [a0, a1, a2, a3, a4, a5, .d (.lst [nD d0, nD d1, nD d2]), .d (.int (f : Int)), .d (.lst ms), .d (bookD m rs), .d (.str z), .d (.int (E : Int)), .d (.int (E : Int)), a13', a14'] := q
  unfold b_law_2
  simp [e1, e2, m_isint, n1, ap, o1, q]
end
theorem letters_at (k : Int) (h : 0 ≤ k) : ∃ m : Nat, 1 ≤ m ∧ m ≤ 3 ∧ dIx (.lst [.int 2, .int 1, .int 3, .int 2]) (.int (k % 4)) = .ok (.int (m : Int)) := by
  have h1 : 0 ≤ k % 4 := Int.emod_nonneg _ (by omega)
  have h2 : k % 4 < 4 := Int.emod_lt_of_pos _ (by omega)
  have h3 : k % 4 = 0 ∨ k % 4 = 1 ∨ k % 4 = 2 ∨ k % 4 = 3 := by omega
  rcases h3 with e | e | e | e
  · exact ⟨2, by omega, by omega, by rw [e]; rfl⟩
  · exact ⟨1, by omega, by omega, by rw [e]; rfl⟩
  · exact ⟨3, by omega, by omega, by rw [e]; rfl⟩
  · exact ⟨2, by omega, by omega, by rw [e]; rfl⟩
theorem m_book' (m : Nat) (m0 : 1 ≤ m) (hm : m ≤ 4) (rs : List Rule) (hl : rs.length ≤ 16) (hr : ∀ r ∈ rs, r.1 < 2 ^ 2 ^ m ∧ r.2 < 2 ^ 2 ^ m) : mkD "Book" 3 m_Book_init [.int (m : Int), .lst (rs.map ruleD)] = .ok (bookD m rs) := by
  show (m_Book_init [.int (m : Int), .lst (rs.map ruleD)]).bind _ = _
  rw [m_book m m0 hm rs hl hr]
  rfl
theorem all_manners {m : Nat} {rs : List Rule} (hm : m ≤ 3) (f d0 d1 d2 : Nat) (hf : f < 2 ^ 2 ^ m) (a0 a1 a2 a3 a4 a5 : DL.Slot) : ∀ (zs : List Str) (a10 a11 a12 a13 a14 : DL.Slot), (∀ z ∈ zs, ∃ c s p, Man z c s p) →
    ∃ a10' a11' a12' a13' a14', forL [10] g1 b_law_2 (zs.map D.str) [a0, a1, a2, a3, a4, a5, .d (.lst [nD d0, nD d1, nD d2]), .d (.int (f : Int)), .d (.lst ((List.range (2 ^ 2 ^ m)).map fun c => nD (Mh (2 ^ 2 ^ m) rs c))), .d (bookD m rs), a10, a11, a12, a13, a14] =
      .nx [a0, a1, a2, a3, a4, a5, .d (.lst [nD d0, nD d1, nD d2]), .d (.int (f : Int)), .d (.lst ((List.range (2 ^ 2 ^ m)).map fun c => nD (Mh (2 ^ 2 ^ m) rs c))), .d (bookD m rs), a10', a11', a12', a13', a14']
  | [], a10, a11, a12, a13, a14, _ => ⟨a10, a11, a12, a13, a14, rfl⟩
  | z :: zs, a10, a11, a12, a13, a14, hz => by
    obtain ⟨c, s, p, M⟩ := hz z List.mem_cons_self
    obtain ⟨b11, b12, b13, b14, e⟩ := manner_turn (rs := rs) M hm f d0 d1 d2 hf a0 a1 a2 a3 a4 a5 a11 a12 a13 a14
    obtain ⟨c10, c11, c12, c13, c14, q⟩ := all_manners (rs := rs) hm f d0 d1 d2 hf a0 a1 a2 a3 a4 a5 zs (.d (.str z)) b11 b12 b13 b14 fun y hy => hz y (List.mem_cons_of_mem _ hy)
    exact ⟨c10, c11, c12, c13, c14, (forL_nx (sl := [10]) (g := g1) (fb := b_law_2) (ρ := [a0, a1, a2, a3, a4, a5, .d (.lst [nD d0, nD d1, nD d2]), .d (.int (f : Int)), .d (.lst ((List.range (2 ^ 2 ^ m)).map fun c => nD (Mh (2 ^ 2 ^ m) rs c))), .d (bookD m rs), a10, a11, a12, a13, a14]) (vs := [.str z]) rfl e).trans q⟩
def manners : List Str := ["once", "cases", "steps", "both", "once+", "cases+", "steps+", "both+"]
theorem manners_man : ∀ z ∈ manners, ∃ c s p, Man z c s p := by
  intro z hz
  unfold manners at hz
  simp only [List.mem_cons, List.not_mem_nil, or_false] at hz
  rcases hz with e | e | e | e | e | e | e | e <;> subst e
  · exact ⟨_, _, _, man1⟩
  · exact ⟨_, _, _, man2⟩
  · exact ⟨_, _, _, man3⟩
  · exact ⟨_, _, _, man4⟩
  · exact ⟨_, _, _, man5⟩
  · exact ⟨_, _, _, man6⟩
  · exact ⟨_, _, _, man7⟩
  · exact ⟨_, _, _, man8⟩
theorem three {zs : List Nat} (h : zs.length = 3) : ∃ a b c, zs = [a, b, c] := by
  match zs, h with
  | [a, b, c], _ => exact ⟨a, b, c, rfl⟩
theorem law_true (ns : List Int) (hl : ns.length ≤ 63) (hb : ∀ z ∈ ns, Builtin.Int.intBits z ≤ 1048576) : m_law [.lst (ns.map .int)] = .ok (.bl true) := by
  have n0 := cell_nn ns 0
  have n1 := cell_nn ns 1
  have k0 : m__law_cell [.lst (ns.map .int), .int 0] = .ok (.int (cell ns 0)) := m_cell ns 0
  have k1 : m__law_cell [.lst (ns.map .int), .int 1] = .ok (.int (cell ns 1)) := m_cell ns 1
  obtain ⟨C0, hC0⟩ : ∃ C, C = cell ns 0 := ⟨_, rfl⟩
  obtain ⟨C1, hC1⟩ : ∃ C, C = cell ns 1 := ⟨_, rfl⟩
  rw [← hC0] at n0 k0
  rw [← hC1] at n1 k1
  obtain ⟨m, m1, m3, hlet⟩ := letters_at C0 n0
  obtain ⟨q1, hq1⟩ : ∃ b, dEq (.int (C1 / 6 % 8)) (.int 1) = .ok (.bl b) := ⟨_, rfl⟩
  obtain ⟨q2, hq2⟩ : ∃ b, dEq (.int (C0 / 4 % 3)) (.int 1) = .ok (.bl b) := ⟨_, rfl⟩
  -- the count
  obtain ⟨cnt, hcnt, hc16⟩ : ∃ cnt : Nat, (if q1 = true then 6 + C1 / 48 % 11 else (3 + C1) % 6) = (cnt : Int) ∧ cnt ≤ 16 := by
    have h1 : 0 ≤ C1 / 48 % 11 := Int.emod_nonneg _ (by omega)
    have h2 : C1 / 48 % 11 < 11 := Int.emod_lt_of_pos _ (by omega)
    have h3 : 0 ≤ (3 + C1) % 6 := Int.emod_nonneg _ (by omega)
    have h4 : (3 + C1) % 6 < 6 := Int.emod_lt_of_pos _ (by omega)
    cases q1 with
    | true =>
      rw [if_pos rfl]
      exact ⟨(6 + C1 / 48 % 11).toNat, by omega, by omega⟩
    | false =>
      rw [if_neg Bool.false_ne_true]
      exact ⟨((3 + C1) % 6).toNat, by omega, by omega⟩
  obtain ⟨rs, r1, r2, r3⟩ := m_rules ns m cnt (by omega) (by omega)
  obtain ⟨p, T, t1, t2, hT, T0, T1⟩ := tops m (by omega)
  obtain ⟨zs, z1, z2, z3⟩ := m_nums ns 6 3 T (by omega) (by omega) T0 (by omega)
  obtain ⟨d0, d1, d2, rfl⟩ := three z2
  have hd0 : d0 < T := z3 d0 (by simp)
  have mm := m_meets m m3 rs
  have bk := m_book' m m1 (by omega) rs (by omega) r3
  have re := rules_eq rs
  have z1 : m__law_numbers [.lst (ns.map .int), .int 6, .int 3, .int (T : Int)] = .ok (.lst [nD d0, nD d1, nD d2]) := z1
  have me := dEq_nn m m
  rw [decide_eq_true rfl] at me
  let f : Nat := if q2 = true then d0 &&& d1 else d0
  have hf : f < 2 ^ 2 ^ m := by
    rw [← hT]
    show (if q2 = true then d0 &&& d1 else d0) < T
    split
    · exact Nat.lt_of_le_of_lt Nat.and_le_left hd0
    · exact hd0
  obtain ⟨a10, a11, a12, a13, a14, q⟩ := all_manners (rs := rs) m3 f d0 d1 d2 hf (.d (.lst (ns.map .int))) (.d (.lst [.int 2, .int 1, .int 3, .int 2])) (.d (.int (m : Int))) (.d (.int (cnt : Int))) (.d (.lst (rs.map ruleD))) (.d (.int (T : Int))) manners .un .un .un .un .un manners_man
  obtain ⟨ms, hms⟩ : ∃ ms, ms = (List.range (2 ^ 2 ^ m)).map fun c => nD (Mh (2 ^ 2 ^ m) rs c) := ⟨_, rfl⟩
  rw [← hms] at mm q
  have c4 : ∀ a : Int, cMod a 4 = true := fun a => cMod_ok (by omega)
  have c6 : ∀ a : Int, cMod a 6 = true := fun a => cMod_ok (by omega)
  have c8 : ∀ a : Int, cMod a 8 = true := fun a => cMod_ok (by omega)
  have c11 : ∀ a : Int, cMod a 11 = true := fun a => cMod_ok (by omega)
  have c3 : ∀ a : Int, cMod a 3 = true := fun a => cMod_ok (by omega)
  have e6 : ∀ a : Int, cDiv a 6 = true := fun a => cDiv_ok (by omega) (by omega)
  have e48 : ∀ a : Int, cDiv a 48 = true := fun a => cDiv_ok (by omega) (by omega)
  have e4 : ∀ a : Int, cDiv a 4 = true := fun a => cDiv_ok (by omega) (by omega)
  have d01 : dAnd (nD d0) (nD d1) = .ok (.int ((d0 &&& d1 : Nat) : Int)) := dAnd_nn d0 d1
  have w : ∀ g : Nat, f = g → forL [10] g1 b_law_2 [.str "once", .str "cases", .str "steps", .str "both", .str "once+", .str "cases+", .str "steps+", .str "both+"] [.d (.lst (ns.map .int)), .d (.lst [.int 2, .int 1, .int 3, .int 2]), .d (.int (m : Int)), .d (.int (cnt : Int)), .d (.lst (rs.map ruleD)), .d (.int (T : Int)), .d (.lst [nD d0, nD d1, nD d2]), .d (.int (g : Int)), .d (.lst ms), .d (bookD m rs), .un, .un, .un, .un, .un] =
      .nx [.d (.lst (ns.map .int)), .d (.lst [.int 2, .int 1, .int 3, .int 2]), .d (.int (m : Int)), .d (.int (cnt : Int)), .d (.lst (rs.map ruleD)), .d (.int (T : Int)), .d (.lst [nD d0, nD d1, nD d2]), .d (.int (g : Int)), .d (.lst ms), .d (bookD m rs), a10, a11, a12, a13, a14] := fun g e => by rw [← e]; exact q
  have i0 : dIx (.lst [nD d0, nD d1, nD d2]) (.int 0) = .ok (.int (d0 : Int)) := rfl
  have i1 : dIx (.lst [nD d0, nD d1, nD d2]) (.int 1) = .ok (.int (d1 : Int)) := rfl
  have d01 : dAnd (.int (d0 : Int)) (.int (d1 : Int)) = .ok (.int ((d0 &&& d1 : Nat) : Int)) := dAnd_nn d0 d1
  clear q
  unfold m_law mOf g_law
  cases q1 with
  | true =>
    have hcnt : 6 + C1 / 48 % 11 = (cnt : Int) := hcnt
    cases q2 with
    | true =>
      have w := w (d0 &&& d1) rfl
      obtain ⟨g, hg⟩ : ∃ g, g = d0 &&& d1 := ⟨_, rfl⟩
      rw [← hg] at w d01
      simp [-dIx_lst, -mkD2, k0, k1, hlet, hq1, hq2, c3, c4, c6, c8, c11, e4, e6, e48, hcnt, r1, t1, t2, z1, mm, bk, re, me, w, d01, fld_n, fld_rules, i0, i1]
    | false =>
      have w := w d0 rfl
      simp [-dIx_lst, -mkD2, k0, k1, hlet, hq1, hq2, c3, c4, c6, c8, c11, e4, e6, e48, hcnt, r1, t1, t2, z1, mm, bk, re, me, w, d01, fld_n, fld_rules, i0, i1]
  | false =>
    have hcnt : (3 + C1) % 6 = (cnt : Int) := hcnt
    cases q2 with
    | true =>
      have w := w (d0 &&& d1) rfl
      obtain ⟨g, hg⟩ : ∃ g, g = d0 &&& d1 := ⟨_, rfl⟩
      rw [← hg] at w d01
      simp [-dIx_lst, -mkD2, k0, k1, hlet, hq1, hq2, c3, c4, c6, c8, c11, e4, e6, e48, hcnt, r1, t1, t2, z1, mm, bk, re, me, w, d01, fld_n, fld_rules, i0, i1]
    | false =>
      have w := w d0 rfl
      simp [-dIx_lst, -mkD2, k0, k1, hlet, hq1, hq2, c3, c4, c6, c8, c11, e4, e6, e48, hcnt, r1, t1, t2, z1, mm, bk, re, me, w, d01, fld_n, fld_rules, i0, i1]
end K86
open PySem PySem.W PyProof.Rows in
set_option maxRecDepth 100000 in
set_option maxHeartbeats 0 in
theorem PySem.Challenge.cw_whatisdue_k86_whole_due_by_all_cases_holds : PySem.Challenge.rw_whatisdue_k86_whole_due_by_all_cases.Holds := by
  w_on; o_law; k_head; (case hw => w_witness2)
  k_fill
  refine L2.walk_ofB (l := PySem.Challenge.rw_whatisdue_k86_whole_due_by_all_cases) (n := 63) (k := 10) (x := "script") (CX := fun w => L2.CX PySem.Challenge.rw_whatisdue_k86_whole_due_by_all_cases.prog w) (sp := fun w => DL.spLaw _) rfl (by decide) rfl ⟨rfl, by decide, by decide⟩ (fun w h Y => PySem.W.kIn_of Y) ?F (fun _ _ a ns hl hb _ hS => ⟨a, ns, rfl, hS, hl, hb, fun _ => rfl⟩) (fun _ _ _ _ _ h => DL.cx_none h)
  case F =>
    intro w mg fa h KX G hmg
    refine' K86.all_mk KX G hmg ?aC_Book ?a1 ?l1 ?c1 ?k1 ?a2 ?l2 ?c2 ?k2 ?a3 ?l3 ?c3 ?k3 ?a4 ?l4 ?c4 ?k4 ?a5 ?l5 ?c5 ?k5 ?a6 ?l6 ?c6 ?k6 ?a7 ?l7 ?c7 ?k7 ?i7 ?mk_Book ?kc_Book ?a8 ?l8 ?c8 ?k8 ?a9 ?l9 ?c9 ?k9 ?a10 ?l10 ?c10 ?k10 ?i10 ?a11 ?l11 ?c11 ?k11 ?a12 ?l12 ?c12 ?k12 ?a13 ?l13 ?c13 ?k13 ?a14 ?l14 ?c14 ?k14 ?a15 ?l15 ?c15 ?k15 ?a16 ?l16 ?c16 ?k16 ?a17 ?l17 ?c17 ?k17 ?a18 ?l18 ?c18 ?k18 ?a19 ?l19 ?c19 ?k19 ?a20 ?l20 ?c20 ?k20 ?a21 ?l21 ?c21 ?k21 ?pg_Book ?hd_Book ?po_Book ?sa_Book ?n_Book_rules ?n_Book_n ?rd_Book ?ga_Book ?cv_Book_MOST_LETTERS ?cv_Book_MOST_RULES ?qa_MANNERS ?ql_MANNERS ?qt_MANNERS ?qz_MANNERS ?z_len ?z_int ?z_abs ?z_range ?z_enumerate ?z_tuple ?z_list ?z_iter ?z_isinstance ?z_bool K86.law_true
    (case aC_Book => k_is)
    (case a1 => k_is)
    (case l1 => k_is)
    (case c1 => k_is)
    (case k1 => k_is)
    (case a2 => k_is)
    (case l2 => k_is)
    (case c2 => k_is)
    (case k2 => k_is)
    (case a3 => k_is)
    (case l3 => k_is)
    (case c3 => k_is)
    (case k3 => k_is)
    (case a4 => k_is)
    (case l4 => k_is)
    (case c4 => k_is)
    (case k4 => k_is)
    (case a5 => k_is)
    (case l5 => k_is)
    (case c5 => k_is)
    (case k5 => k_is)
    (case a6 => k_is)
    (case l6 => k_is)
    (case c6 => k_is)
    (case k6 => k_is)
    (case a7 => k_is)
    (case l7 => k_is)
    (case c7 => k_is)
    (case k7 => k_is)
    (case i7 => k_is)
    (case mk_Book => k_is)
    (case kc_Book => k_is)
    (case a8 => k_is)
    (case l8 => k_is)
    (case c8 => k_is)
    (case k8 => k_is)
    (case a9 => k_is)
    (case l9 => k_is)
    (case c9 => k_is)
    (case k9 => k_is)
    (case a10 => k_is)
    (case l10 => k_is)
    (case c10 => k_is)
    (case k10 => k_is)
    (case i10 => k_is)
    (case a11 => k_is)
    (case l11 => k_is)
    (case c11 => k_is)
    (case k11 => k_is)
    (case a12 => k_is)
    (case l12 => k_is)
    (case c12 => k_is)
    (case k12 => k_is)
    (case a13 => k_is)
    (case l13 => k_is)
    (case c13 => k_is)
    (case k13 => k_is)
    (case a14 => k_is)
    (case l14 => k_is)
    (case c14 => k_is)
    (case k14 => k_is)
    (case a15 => k_is)
    (case l15 => k_is)
    (case c15 => k_is)
    (case k15 => k_is)
    (case a16 => k_is)
    (case l16 => k_is)
    (case c16 => k_is)
    (case k16 => k_is)
    (case a17 => k_is)
    (case l17 => k_is)
    (case c17 => k_is)
    (case k17 => k_is)
    (case a18 => k_is)
    (case l18 => k_is)
    (case c18 => k_is)
    (case k18 => k_is)
    (case a19 => k_is)
    (case l19 => k_is)
    (case c19 => k_is)
    (case k19 => k_is)
    (case a20 => k_is)
    (case l20 => k_is)
    (case c20 => k_is)
    (case k20 => k_is)
    (case a21 => k_is)
    (case l21 => k_is)
    (case c21 => k_is)
    (case k21 => k_is)
    (case pg_Book => k_is)
    (case hd_Book => k_is)
    (case po_Book => k_is)
    (case sa_Book => k_is)
    (case n_Book_rules => k_is)
    (case n_Book_n => k_is)
    (case rd_Book => k_is)
    (case ga_Book => k_is)
    (case cv_Book_MOST_LETTERS => k_is)
    (case cv_Book_MOST_RULES => k_is)
    (case qa_MANNERS => k_is)
    (case ql_MANNERS => k_is)
    (case qt_MANNERS => rfl)
    (case qz_MANNERS => decide)
    (case z_len => k_is)
    (case z_int => k_is)
    (case z_abs => k_is)
    (case z_range => k_is)
    (case z_enumerate => k_is)
    (case z_tuple => k_is)
    (case z_list => k_is)
    (case z_iter => k_is)
    (case z_isinstance => k_is)
    (case z_bool => k_is)
