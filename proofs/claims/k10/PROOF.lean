import PyProof.Rows.All
import Wide.All
import OpenK.AllK
import Wide.FinOn
import HandS.ForMost
import HandS.ForExc
import HandS.HeadHook1
import HandS.HeadHook2
import HandS.Wide
import HandS.IsInst
import HandS.RaiseMore
import HandS.Walk
import HandS.Style
import HandS.TryOnly
import HandS.TupAny
import HandS.Property
import KE.KStateDown
import HandS.Ends
import HandS.HeadEnd
import HandS.Head2
import HandS.HeadNt
import HandS.WideBits
import HandS.Flt
import KE.GoesEnum
import KE.GoesMore
import KE.GoesZip
import HandS.Star
import HandS.Defaults
import HandS.SetFor
import HandS.Strs
import HandS.SortInts
import HandS.Conv
import PySem.Challenge.RW_discwarden_k10_whole_free_stays
set_option Elab.async false
set_option linter.all false
set_option maxRecDepth 100000
/-! Pu, part A: trees of values, environments of slots, what stands for what in the abstract heap, judgements. -/
namespace Pu
open PySem PySem.Spec PyProof.Rows L2
abbrev Sig := L2.St
/-- a value as a tree: what is behind it never changes -/
inductive Val where
  | non | bl (b : Bool) | int (i : Int) | str (x : Str) | ty (n : String) | glo (x : Str)
  | tup (xs : List Val) | lst (xs : List Val) | obj (C : Str) (fs : List Str) (vs : List Val)
mutual
inductive VR (K : PySem.W.Frag) (F : Hp) : Val → V → Prop
  | non : VR K F .non .non
  | bl (b : Bool) : VR K F (.bl b) (.bl b)
  | int (i : Int) : VR K F (.int i) (.int i)
  | str (x : Str) : VR K F (.str x) (.str x)
  | ty (n : String) : VR K F (.ty n) (.ty n)
  | glo (x : Str) : VR K F (.glo x) (.ref (He.ga K x))
  | tup {a : Addr} {us : List V} {xs : List Val} : SqT K F a us → VRs K F xs us → VR K F (.tup xs) (.ref a)
  | lst {a : Addr} {us : List V} {xs : List Val} : Rd F a (.lst us) → VRs K F xs us → VR K F (.lst xs) (.ref a)
  | obj {a dx : Addr} {C : Str} {fs : List Str} {us : List V} {vs : List Val} : F a = some (.ins (He.ga K C) dx (fs.zip us)) → fs.length = us.length → VRs K F vs us → VR K F (.obj C fs vs) (.ref a)
inductive VRs (K : PySem.W.Frag) (F : Hp) : List Val → List V → Prop
  | nil : VRs K F [] []
  | cons {v : Val} {u : V} {vs : List Val} {us : List V} : VR K F v u → VRs K F vs us → VRs K F (v :: vs) (u :: us)
end
section
variable {K : PySem.W.Frag} {F F' H H' : Hp}
theorem sqT_mono {a : Addr} {us : List V} (e : Same F F') (h : SqT K F a us) : SqT K F' a us := by
  rcases h with (h | ⟨o, h⟩) | h
  · exact .inl (.inl (e _ _ h))
  · exact .inl (.inr ⟨o, e _ _ h⟩)
  · exact .inr h
theorem rd_mono {a : Addr} {o : HO} (e : Same F F') (h : Rd F a o) : Rd F' a o := by
  rcases h with h | ⟨o, h⟩
  · exact .inl (e _ _ h)
  · exact .inr ⟨o, e _ _ h⟩
theorem VR.mono {v : Val} {u : V} (e : Same F F') (h : VR K F v u) : VR K F' v u :=
  VR.rec (motive_1 := fun v u _ => VR K F' v u) (motive_2 := fun vs us _ => VRs K F' vs us)
    .non (fun b => .bl b) (fun i => .int i) (fun x => .str x) (fun n => .ty n) (fun x => .glo x)
    (fun s _ ih => .tup (sqT_mono e s) ih) (fun s _ ih => .lst (rd_mono e s) ih) (fun s l _ ih => .obj (e _ _ s) l ih) .nil (fun _ _ i1 i2 => .cons i1 i2) h
theorem VRs.mono {vs : List Val} {us : List V} (e : Same F F') (h : VRs K F vs us) : VRs K F' vs us :=
  VRs.rec (motive_1 := fun v u _ => VR K F' v u) (motive_2 := fun vs us _ => VRs K F' vs us)
    .non (fun b => .bl b) (fun i => .int i) (fun x => .str x) (fun n => .ty n) (fun x => .glo x)
    (fun s _ ih => .tup (sqT_mono e s) ih) (fun s _ ih => .lst (rd_mono e s) ih) (fun s l _ ih => .obj (e _ _ s) l ih) .nil (fun _ _ i1 i2 => .cons i1 i2) h
theorem VRs.length {vs : List Val} {us : List V} : VRs K F vs us → vs.length = us.length
  | .nil => rfl
  | .cons _ t => congrArg Nat.succ t.length
theorem VRs.get {vs : List Val} {us : List V} : VRs K F vs us → ∀ {i : Nat} {v : Val}, vs[i]? = some v → ∃ u, us[i]? = some u ∧ VR K F v u
  | .nil, i, v, h => by simp at h
  | .cons r t, 0, v, h => by simp at h; subst h; exact ⟨_, rfl, r⟩
  | .cons r t, i + 1, v, h => by
    obtain ⟨u, h1, h2⟩ := t.get (i := i) (v := v) (by simpa using h)
    exact ⟨u, by simpa using h1, h2⟩
theorem VRs.get' {vs : List Val} {us : List V} : VRs K F vs us → ∀ {i : Nat} {u : V}, us[i]? = some u → ∃ v, vs[i]? = some v ∧ VR K F v u
  | .nil, i, v, h => by simp at h
  | .cons r t, 0, v, h => by simp at h; subst h; exact ⟨_, rfl, r⟩
  | .cons r t, i + 1, v, h => by
    obtain ⟨u, h1, h2⟩ := t.get' (i := i) (u := v) (by simpa using h)
    exact ⟨u, by simpa using h1, h2⟩
theorem VRs.set {vs : List Val} {us : List V} {v : Val} {u : V} (q : VR K F v u) : VRs K F vs us → ∀ (i : Nat), VRs K F (vs.set i v) (us.set i u)
  | .nil, _ => .nil
  | .cons r t, 0 => .cons q t
  | .cons r t, i + 1 => .cons r (VRs.set q t i)
theorem VRs.append {vs ws : List Val} {us xs : List V} : VRs K F vs us → VRs K F ws xs → VRs K F (vs ++ ws) (us ++ xs)
  | .nil, h => h
  | .cons r t, h => .cons r (VRs.append t h)
theorem VRs.take {vs : List Val} {us : List V} (h : VRs K F vs us) : ∀ (n : Nat), VRs K F (vs.take n) (us.take n) := by
  intro n
  induction n generalizing vs us with
  | zero => exact .nil
  | succ n ih => cases h with
    | nil => exact .nil
    | cons r t => exact .cons r (ih t)
theorem VRs.drop {vs : List Val} {us : List V} (h : VRs K F vs us) : ∀ (n : Nat), VRs K F (vs.drop n) (us.drop n) := by
  intro n
  induction n generalizing vs us with
  | zero => exact h
  | succ n ih => cases h with
    | nil => exact .nil
    | cons r t => exact ih t
end
/-- what a name of the def holds: nothing that is known; a tree; an object of the def's own, by its contents -/
inductive Slot where
  | un | dat (v : Val) | own (v : Val)
abbrev Ev := List Slot
/-- what an expression gives: a tree, a new object that nobody else knows, the object that the i-th name owns -/
inductive RV where
  | dat (v : Val) | tmp (v : Val) | bor (i : Nat)
inductive Res (α : Type) where
  | ok (a : α) (e : Ev) | rs (x : Val) (e : Ev) | bad
abbrev M (α : Type) := Ev → Res α
def M.bind {α β : Type} (m : M α) (f : α → M β) : M β := fun e => match m e with
  | .ok a e' => f a e'
  | .rs x e' => .rs x e'
  | .bad => .bad
def M.ret {α : Type} (a : α) : M α := fun e => .ok a e
def M.bad {α : Type} : M α := fun _ => .bad
/-- at a: an object with these contents -/
def CellR (K : PySem.W.Frag) (F H : Hp) : Val → Addr → Prop
  | .lst xs, a => ∃ us, H a = some (.lst us) ∧ VRs K F xs us
  | .obj C fs vs, a => ∃ dx us, H a = some (.ins (He.ga K C) dx (fs.zip us)) ∧ fs.length = us.length ∧ VRs K F vs us
  | _, _ => False
def SlotR (K : PySem.W.Frag) (F H : Hp) : Slot → Option V → Prop
  | .un, _ => True
  | .dat v, o => ∃ u, o = some u ∧ VR K F v u
  | .own v, o => ∃ a, o = some (.ref a) ∧ F a = none ∧ CellR K F H v a
def Own (e : Ev) (σ : Sig) (a : Addr) : Prop := ∃ (i : Nat) (v : Val), e[i]? = some (.own v) ∧ σ[i]? = some (some (.ref a))
structure Rel (K : PySem.W.Frag) (F H : Hp) (e : Ev) (σ : Sig) : Prop where
  sub : Same F H
  len : e.length = σ.length
  slot : ∀ (i : Nat) (s : Slot) (o : Option V), e[i]? = some s → σ[i]? = some o → SlotR K F H s o
  inj : ∀ (i j : Nat) (v w : Val) (a : Addr), e[i]? = some (.own v) → e[j]? = some (.own w) → σ[i]? = some (some (.ref a)) → σ[j]? = some (some (.ref a)) → i = j
/-- a beginning: what is owned then, what is known for ever, the heap -/
structure Bg where
  O : Addr → Prop
  F : Hp
  H : Hp
  /-- so many of the first names are the parameters; what they were, and stood for -/
  np : Nat
  ev : Ev
  sg : Sig
def Bg.mine (B : Bg) (a : Addr) : Prop := B.O a ∨ B.H a = none
/-- since the beginning -/
structure Post (B : Bg) (F H : Hp) : Prop where
  sub : Same B.F F
  fr : ∀ a o, B.H a = some o → ¬ B.O a → H a = some o
  nw : ∀ a, F a ≠ none → B.F a ≠ none ∨ B.mine a
  kp : ∀ a, H a = none → B.H a = none
structure Cur (K : PySem.W.Frag) (B : Bg) (F H : Hp) (e : Ev) (σ : Sig) : Prop where
  post : Post B F H
  rel : Rel K F H e σ
  own : ∀ a, Own e σ a → B.mine a
  ln : e.length = B.ev.length
  par : ∀ (i : Nat) (v : Val), i < B.np → e[i]? = some (.own v) → σ[i]? = B.sg[i]? ∧ ∃ w, B.ev[i]? = some (.own w)
def bg (np : Nat) (F H : Hp) (e : Ev) (σ : Sig) : Bg := ⟨Own e σ, F, H, np, e, σ⟩
section
variable {K : PySem.W.Frag} {B : Bg} {F F' H H' : Hp} {e e' : Ev} {σ σ' : Sig}
theorem Post.refl {np : Nat} : Post (bg np F H e σ) F H := ⟨Same.refl _, fun _ _ h _ => h, fun _ h => .inl h, fun _ h => h⟩
theorem Cur.refl {np : Nat} (R : Rel K F H e σ) : Cur K (bg np F H e σ) F H e σ := ⟨Post.refl, R, fun _ h => .inl h, rfl, fun _ v _ h => ⟨rfl, v, h⟩⟩
/-- an inner stretch -/
theorem Cur.post_trans (C : Cur K B F H e σ) (p : Post (bg B.np F H e σ) F' H') : Post B F' H' where
  sub := C.post.sub.trans p.sub
  fr := fun a o h n => p.fr a o (C.post.fr a o h n) fun q => by
    rcases C.own a q with z | z
    · exact n z
    · rw [z] at h; cases h
  nw := fun a h => by
    rcases p.nw a h with z | z
    · exact C.post.nw a z
    · rcases z with z | z
      · exact .inr (C.own a z)
      · exact .inr (.inr (C.post.kp a z))
  kp := fun a h => C.post.kp a (p.kp a h)
theorem Cur.mine_of (C : Cur K B F H e σ) {a : Addr} {np : Nat} (h : (bg np F H e σ).mine a) : B.mine a := by
  rcases h with z | z
  · exact C.own a z
  · exact .inr (C.post.kp a z)
theorem Cur.trans (C : Cur K B F H e σ) (p : Cur K (bg B.np F H e σ) F' H' e' σ') : Cur K B F' H' e' σ' := ⟨C.post_trans p.post, p.rel, fun a h => C.mine_of (p.own a h), p.ln.trans C.ln, fun i v hi h => by
  obtain ⟨h1, w, h2⟩ := p.par i v hi h
  obtain ⟨h3, h4⟩ := C.par i w hi h2
  exact ⟨h1.trans h3, h4⟩⟩
end
/-- the result of an expression -/
def RR (K : PySem.W.Frag) (B : Bg) (F H : Hp) (e : Ev) (σ : Sig) : RV → V → Prop
  | .dat v, u => VR K F v u
  | .tmp v, u => ∃ t, u = .ref t ∧ F t = none ∧ CellR K F H v t ∧ ¬ Own e σ t ∧ B.mine t
  | .bor i, u => σ[i]? = some (some u)
/-- several: the new ones are different objects -/
inductive RRs (K : PySem.W.Frag) (B : Bg) (F H : Hp) (e : Ev) (σ : Sig) : List RV → List V → Prop
  | nil : RRs K B F H e σ [] []
  | cons {r : RV} {u : V} {rs : List RV} {us : List V} : RR K B F H e σ r u → (∀ v, r = .tmp v → ∀ (j : Nat) w, rs[j]? = some (.tmp w) → us[j]? ≠ some u) → RRs K B F H e σ rs us → RRs K B F H e σ (r :: rs) (u :: us)
/-- an exception as a value: its class, its attributes -/
def XR (K : PySem.W.Frag) (F H : Hp) : Val → Value → Option Addr → Prop
  | .obj C fs vs, cls, d => cls = .ref (He.ga K C) ∧ ((fs = [] ∧ vs = [] ∧ d = none) ∨ ∃ dx us, d = some dx ∧ H dx = some (.xd (fs.zip us)) ∧ fs.length = us.length ∧ VRs K F vs us)
  | _, _, _ => False
/-- m, from (F, e) on, since B -/
def At {α β : Type} (K : PySem.W.Frag) (W : WX) (R : Bg → Hp → Hp → Ev → Sig → α → β → Prop) (B : Bg) (m : M α) (F : Hp) (e : Ev) (σ : Sig) (H : Hp) (Q : β → Hp → Prop) : Prop :=
  match m e with
  | .ok r e' => ∀ F' H' u, Cur K B F' H' e' σ → R B F' H' e' σ r u → Q u H'
  | .rs x e' => ∀ F' H' cls d, Cur K B F' H' e' σ → XR K F' H' x cls d → W cls d σ H'
  | .bad => False
def tM {α β : Type} (K : PySem.W.Frag) (W : WX) (R : Bg → Hp → Hp → Ev → Sig → α → β → Prop) (m : M α) : Sig → Hp → (β → Hp → Prop) → Prop := fun σ H Q =>
  ∃ np F e, Rel K F H e σ ∧ At K W R (bg np F H e σ) m F e σ H Q
abbrev tE (K : PySem.W.Frag) (W : WX) (m : M RV) : TE := tM K W (RR K) m
abbrev tT (K : PySem.W.Frag) (W : WX) (m : M Bool) : TT := tM K W (fun _ _ _ _ _ (b c : Bool) => b = c) m
abbrev tA (K : PySem.W.Frag) (W : WX) (m : M (List RV)) : TA := tM K W (RRs K) m
/-- what is carried on from a part's beginning to the whole's -/
class Carry {α β : Type} (K : PySem.W.Frag) (R : Bg → Hp → Hp → Ev → Sig → α → β → Prop) : Prop where
  out : ∀ {B : Bg} {F0 H0 F H : Hp} {e0 e : Ev} {σ : Sig} {a : α} {b : β}, Cur K B F0 H0 e0 σ → R (bg B.np F0 H0 e0 σ) F H e σ a b → R B F H e σ a b
theorem RR.out {K : PySem.W.Frag} {B : Bg} {F0 H0 F H : Hp} {e0 e : Ev} {σ0 σ : Sig} {r : RV} {u : V} {np : Nat} (C : Cur K B F0 H0 e0 σ0) (h : RR K (bg np F0 H0 e0 σ0) F H e σ r u) : RR K B F H e σ r u := by
  cases r with
  | dat v => exact h
  | bor i => exact h
  | tmp v =>
    obtain ⟨t, h1, h2, h3, h4, h5⟩ := h
    exact ⟨t, h1, h2, h3, h4, C.mine_of h5⟩
instance {K : PySem.W.Frag} : Carry K (RR K) := ⟨RR.out⟩
instance {K : PySem.W.Frag} : Carry K (RRs K) := ⟨fun C h => by
  induction h with
  | nil => exact .nil
  | cons r d _ ih => exact .cons (r.out C) d ih⟩
instance {K : PySem.W.Frag} : Carry K (fun _ _ _ _ _ (b c : Bool) => b = c) := ⟨fun _ h => h⟩
section
variable {K : PySem.W.Frag} {W : WX} {α β α' β' : Type} {R1 : Bg → Hp → Hp → Ev → Sig → α → β → Prop} {R2 : Bg → Hp → Hp → Ev → Sig → α' → β' → Prop} {B : Bg} {F H : Hp} {e : Ev} {σ : Sig}
/-- THE STEP: a part is run, then the rest -/
theorem use [Carry K R1] {m : M α} {f : α → M α'} {Q : β' → Hp → Prop} {G : β → Hp → Prop} (C : Cur K B F H e σ) (h : At K W R2 B (m.bind f) F e σ H Q)
    (k : ∀ r e1 F1 H1 x, Cur K B F1 H1 e1 σ → R1 B F1 H1 e1 σ r x → Cur K (bg B.np F H e σ) F1 H1 e1 σ → At K W R2 B (f r) F1 e1 σ H1 Q → G x H1) : tM K W R1 m σ H G := by
  refine ⟨B.np, F, e, C.rel, ?_⟩
  unfold At M.bind at h
  unfold At
  cases hm : m e with
  | bad => rw [hm] at h; exact h
  | rs x e' =>
    rw [hm] at h
    intro F' H' cls d C' X'
    exact h F' H' cls d (C.trans C') X'
  | ok r e' =>
    rw [hm] at h
    intro F' H' u C' r'
    exact k r e' F' H' u (C.trans C') (Carry.out C r') C' h
/-- the same, told since the part's own beginning -/
theorem useS {m : M α} {f : α → M α'} {Q : β' → Hp → Prop} {G : β → Hp → Prop} (C : Cur K B F H e σ) (h : At K W R2 B (m.bind f) F e σ H Q)
    (k : ∀ r e1 F1 H1 x, Cur K B F1 H1 e1 σ → R1 (bg B.np F H e σ) F1 H1 e1 σ r x → Cur K (bg B.np F H e σ) F1 H1 e1 σ → At K W R2 B (f r) F1 e1 σ H1 Q → G x H1) : tM K W R1 m σ H G := by
  refine ⟨B.np, F, e, C.rel, ?_⟩
  unfold At M.bind at h
  unfold At
  cases hm : m e with
  | bad => rw [hm] at h; exact h
  | rs x e' =>
    rw [hm] at h
    intro F' H' cls d C' X'
    exact h F' H' cls d (C.trans C') X'
  | ok r e' =>
    rw [hm] at h
    intro F' H' u C' r'
    exact k r e' F' H' u (C.trans C') r' C' h
/-- the whole is one part -/
theorem use1 [Carry K R1] {m : M α} {Q : β → Hp → Prop} (C : Cur K B F H e σ) (h : At K W R1 B m F e σ H Q) : tM K W R1 m σ H Q := by
  refine ⟨B.np, F, e, C.rel, ?_⟩
  unfold At at h ⊢
  cases hm : m e with
  | bad => rw [hm] at h; exact h
  | rs x e' =>
    rw [hm] at h
    exact fun F' H' cls d C' X' => h F' H' cls d (C.trans C') X'
  | ok r e' =>
    rw [hm] at h
    exact fun F' H' u C' r' => h F' H' u (C.trans C') (Carry.out C r')
end
end Pu
set_option Elab.async false
set_option linter.all false
set_option maxRecDepth 100000
/-! Pu, part F: defs that are called where no guard runs (repr asks that); calls, methods, new instances, properties over them. -/
namespace Pu
open PySem PySem.Spec PyProof.Rows L2
/-- a def keeps its promise wherever there is room and no guard -/
structure FnG (P : Program) (w : World) (K : PySem.W.Frag) (mg : Str → Option Value) (base : Heap) (k : Nat) (f : Addr) (fd : FuncData) (ps : List Str) (sp : Sp) : Prop where
  many : ∀ vs H Q E, sp vs H Q E → vs.length = ps.length
  goes : ∀ (A : Around) (outer : List Env) (s : Shared) (H : Hp) (args : Args) (us : List Value) (vs : List V) (Q : VK) (E : XK), Room k A → A.guards = some [] → Env0 P w K mg base A outer s H →
    BindsTo s fd args (ps.zip us) → Vals vs us → sp vs H Q E →
    codeAny (model P w) A (.call (.ref f) args) (CR (L2.CX P w) outer P w H s Q E) s
theorem FnG.up {P : Program} {w : World} {K : PySem.W.Frag} {mg : Str → Option Value} {base : Heap} {j k : Nat} {f : Addr} {fd : FuncData} {ps : List Str} {sp : Sp} (F : FnG P w K mg base j f fd ps sp) (h : j ≤ k) :
    FnG P w K mg base k f fd ps sp :=
  ⟨F.many, fun A o s H a us vs Q E hr => F.goes A o s H a us vs Q E (hr.mono h)⟩
theorem guards_deeper {A : Around} {env : Env} (h : A.guards = some []) : (A.deeper env).guards = some [] := by
  first
    | exact h
    | simpa [Around.deeper] using h
theorem guards_make {A : Around} {C : Addr} {us : List Value} {kw : List (Str × Value)} (h : A.guards = some []) : (A.under (.builtin "type.__call__" ⟨.ref C :: us, kw⟩)).guards = some [] := by
  first
    | exact h
    | simpa [Around.under, pushGuards, Code.guards, Code.isGuard, guardIds] using h
section
variable {P : Program} {w : World} {K : PySem.W.Frag} {mg : Str → Option Value} {base : Heap}
/-- by its body -/
theorem fnG_of {x qual : Str} {params : Arguments} {body : List Stmt} {scope : Scope} {dvs : List V} {kws : List (Str × V)} {f : Addr} {fd : FuncData} {N ps : List Str} {k : Nat} {sp : Sp}
    (D : FunD K x qual params body scope dvs kws f fd) (S : FnScope N ps scope) (many : ∀ vs H Q E, sp vs H Q E → vs.length = ps.length)
    (hb : ∀ (cdv : Value) (A : Around) (outer : List Env) (s : Shared) (H : Hp) (vs : List V) (Q : VK) (E : XK), Room k (A.deeper (envOfC qual scope s.heap.objs.size f cdv)) → A.guards = some [] → sp vs H Q E →
      ∃ t, PSs (cxOf (L2.CX P w) P w K mg base N qual scope f cdv A outer s H E) body t ∧
        t { nx := fun _ H' => Q .non H', rt := Q } (start N vs) H) : FnG P w K mg base (k + 1) f fd ps sp := by
  obtain ⟨c0, c1, dV, kV, c2, c3, c4, cdv, c5, c6, rfl, look, cin, -, -⟩ := D.ex
  refine ⟨many, ?_⟩
  intro A outer s H args us vs Q E hr hG e0 bt rel hsp
  have nlen := many _ _ _ _ hsp
  have stay : ∀ b o, base.get? b = some o → s.heap.get? b = some o := fun b o h => (e0.bs b o h).1
  have inK : K.In s.heap := e0.mod.kin.keeps stay
  have nolim : s.heap.NoLimit := e0.mod.nolimit.keeps stay
  have kinds : ∀ y ∈ ps.zip us, scope.names.lookup y.1 = some .local ∨
      (scope.names.lookup y.1 = some .cell ∧ ((cellsFrom (s.heap.objs.size + 1) scope.names []).lookup y.1).isSome = true) := by
    intro y hy
    obtain ⟨n, v⟩ := y
    cases S.par n (List.of_mem_zip hy).1 with
    | inl q => exact .inl q
    | inr q => exact .inr ⟨q, PySem.W.cellsFrom_some _ _ _ (.inl q)⟩
  refine codeAny_call_function hr.depth (inK _ _ look) rfl S.co S.gen rfl (PySem.W.codeRec_of inK cin) (bt _ _ _ _ ?_)
  refine wpAny_newFunctionEnv_cells S.kind kinds ?_
  intro env same s1 made
  subst same
  refine ⟨nolim.keeps made.toInCall.keep, codeAny_func ?_⟩
  obtain ⟨t, runs, wish⟩ := hb cdv A outer s H vs Q E (hr.deeper _) hG hsp
  have J := inv_start (CX := L2.CX P w) (E := E) (cd := cdv) S hr.hd e0 nlen rel made
  refine wpAny_mono (runs.run [] s1 (start N vs) H _ J wish) (fun fl s' got => ?_) (fun _ _ z => z)
  cases fl with
  | brk => obtain ⟨_, _, _, no⟩ := got; exact no.elim
  | cont => obtain ⟨_, _, _, no⟩ := got; exact no.elim
  | next =>
    obtain ⟨σ', H', I', q⟩ := got
    exact ⟨.non, H', I'.os, I'.bare, I'.base, I'.hok, rfl, q⟩
  | ret u =>
    obtain ⟨v, σ', H', I', rv, q⟩ := got
    exact ⟨v, H', I'.os, I'.bare, I'.base, I'.hok, rv, q⟩
end
section
variable {X : Cx} {k : Nat} {f C : Addr} {fd : FuncData} {ps : List Str} {sp : Sp} {W : WX} {x m : Str} {p pos apos : Pos} {e o : Expr} {es : List Expr} {ta : TE} {t : TA}
theorem end_of {pins : List (Addr × Obj)} {σ : Sig} {H : Hp} {s s' : Shared} {Q : VK} {r : Result} (tk : Takes X W) (I : Inv X pins σ H s)
    (h : CR (L2.CX X.prog X.w) X.stack X.prog X.w H s Q (WE W σ) r s') : match r with
      | .ok (.ret u) => EP X pins σ Q u s'
      | .ok _ => False
      | .error z => X.xe z s' := by
  cases r with
  | error z => exact passAt tk σ pins H s z s' I h
  | ok fl => cases fl with
    | ret u => exact I.after h
    | next => exact h
    | brk => exact h
    | cont => exact h
/-- the callee runs -/
theorem goG {pins : List (Addr × Obj)} {σ : Sig} {H : Hp} {s : Shared} {Q : VK} {us zs : List Value} {kw : List (Str × Value)} {vs : List V} (F : FnG X.prog X.w X.K X.mg X.base k f fd ps sp) (hr : Room k X.A) (hG : X.A.guards = some []) (tk : Takes X W)
    (I : Inv X pins σ H s) (bt : BindsTo s fd ⟨us, kw⟩ (ps.zip zs)) (r : Vals vs zs) (h : sp vs H Q (WE W σ)) : wpAny (model X.prog X.w) X.A (call (.ref f) us kw) (EP X pins σ Q) X.xe s := by
  refine wpAny_call (codeAny_mono (F.goes X.A X.stack s H ⟨us, kw⟩ zs vs Q (WE W σ) hr hG I.env0 bt r h) fun res s' got => ?_)
  have q := end_of tk I got
  cases res with
  | error z => exact q
  | ok fl => cases fl with
    | ret u => exact q
    | next => exact q.elim
    | brk => exact q.elim
    | cont => exact q.elim
/-- how positional values bind: the defaults ds fill up -/
def BindG (K : PySem.W.Frag) (fd : FuncData) (ps : List Str) (ds : List Value) : Prop := Binds K fd ps ds
def cG (sp : Sp) (W : WX) (dvs : List V) (t : TA) : TE := fun σ H Q => t σ H fun vs H1 => sp (vs ++ dvs) H1 Q (WE W σ)
theorem pg_call {dvs : List V} {ds : List Value} (F : FnG X.prog X.w X.K X.mg X.base k f fd ps sp) (hr : Room k X.A) (hG : X.A.guards = some []) (tk : Takes X W) (gl : Gl X x) (at_ : X.mg x = some (.ref f)) (kp : PySem.W.keepIn X.K (.ref f) = true)
    (hb : Binds X.K fd ps ds) (hd : Vals dvs ds) (ha : PA X (e :: es) t) (n1 : (x == ("__debug__" : Str)) = false := by decide)
    (n2 : starEach (e :: es) X.env = (false, eval e X.env) :: starEach es X.env := by rfl) (n3 : (backTo pos (starEach es X.env)).any (·.1) = false := by rfl) :
    PE X (.Call (.Name x p) (e :: es) [] pos) (cG sp W dvs t) := by
  constructor
  intro pins s σ H Q I h
  refine wpAny_Call_Name_kw (ld_glob I gl at_ ?_ n1)
  refine PySem.W.callWith_K (h₀ := X.base) I.ok.mod.kin kp (thn (ha.run pos pins s σ H _ I h) ?_) n2 n3
  rintro us s1 ⟨vs, H1, I1, r, q⟩
  refine ⟨I1.kIn, ?_⟩
  have rd := r.append hd
  exact goG F hr hG tk I1 (hb s1 us I1.kIn (rd.length.symm.trans (F.many _ _ _ _ q))) rd q
theorem pg_call0 {dvs : List V} {ds : List Value} (F : FnG X.prog X.w X.K X.mg X.base k f fd ps sp) (hr : Room k X.A) (hG : X.A.guards = some []) (tk : Takes X W) (gl : Gl X x) (at_ : X.mg x = some (.ref f)) (kp : PySem.W.keepIn X.K (.ref f) = true)
    (hb : Binds X.K fd ps ds) (hd : Vals dvs ds) (n1 : (x == ("__debug__" : Str)) = false := by decide) : PE X (.Call (.Name x p) [] [] pos) (cG sp W dvs tNil) := by
  constructor
  intro pins s σ H Q I h
  have rd : Vals ([] ++ dvs) ([] ++ ds) := hd
  refine wpAny_Call_Name_kw (ld_glob I gl at_ (PySem.W.callWith_K0 I.kIn kp ?_) n1)
  exact goG F hr hG tk I (hb s [] I.kIn (rd.length.symm.trans (F.many _ _ _ _ h))) rd h
/-- with keywords: g lays the positional values and those of the keywords in the order of the parameters -/
def cGK (sp : Sp) (W : WX) (gV : List V → List V → List V) (t u : TA) : TE := fun σ H Q => t σ H fun vs H1 => u σ H1 fun zs H2 => sp (gV vs zs) H2 Q (WE W σ)
theorem pg_callK {kws : List Keyword} {u : TA} {ks : List Str} {g : List Value → List Value → List Value} {gV : List V → List V → List V} (F : FnG X.prog X.w X.K X.mg X.base k f fd ps sp) (hr : Room k X.A) (hG : X.A.guards = some []) (tk : Takes X W) (gl : Gl X x)
    (at_ : X.mg x = some (.ref f)) (kp : PySem.W.keepIn X.K (.ref f) = true) (hb : KBinds X.K fd ps ks g gV) (ha : PA X (e :: es) t) (hk : PK X kws u)
    (k1 : (backToKw pos (keywordEach kws X.env)).all (·.1.isSome) = true := by rfl) (k2 : (backToKw pos (keywordEach kws X.env)).filterMap (·.1) = ks := by rfl) (n1 : (x == ("__debug__" : Str)) = false := by decide)
    (n2 : starEach (e :: es) X.env = (false, eval e X.env) :: starEach es X.env := by rfl)
    (n3 : ((backTo pos (starEach (e :: es) X.env)).any (·.1) || (backToKw pos (keywordEach kws X.env)).any (·.1.isNone)) = false := by rfl) : PE X (.Call (.Name x p) (e :: es) kws pos) (cGK sp W gV t u) := by
  constructor
  intro pins s σ H Q I h
  refine wpAny_Call_Name_kw (ld_glob I gl at_ ?_ n1)
  refine PySem.W.callWith_KW (h₀ := X.base) I.ok.mod.kin kp k1 (thn (ha.run pos pins s σ H _ I h) ?_) n3 n2
  rintro us s1 ⟨vs, H1, I1, r, q⟩
  refine thn (hk.run pos pins s1 σ H1 _ I1 q) ?_
  rintro ws s2 ⟨zs, H2, I2, rz, q2⟩
  refine ⟨I2.kIn, ?_⟩
  rw [k2]
  have rd := hb.rel r rz
  exact goG F hr hG tk I2 (hb.to s2 us ws I2.kIn (rd.length.symm.trans (F.many _ _ _ _ q2))) rd q2
/-- a method of an instance of an own class -/
def mG (C : Addr) (m : Str) (sp : Sp) (W : WX) (dvs : List V) (ta : TE) (t : TA) : TE := fun σ H Q => ta σ H fun y H1 => ∃ a dx fs, y = .ref a ∧ H1 a = some (.ins C dx fs) ∧ fs.lookup m = none ∧
  t σ H1 fun vs H2 => sp (y :: (vs ++ dvs)) H2 Q (WE W σ)
theorem pg_meth {pl : Sem Bool} {dvs : List V} {ds : List Value} (he : PE X o ta) (c : Cls X.K C) (hm : Meth X.K C m f) (F : FnG X.prog X.w X.K X.mg X.base k f fd ps sp) (hr : Room k X.A) (hG : X.A.guards = some []) (tk : Takes X W)
    (hb : Binds X.K fd ps ds) (hd : Vals dvs ds) (ha : PA X (e :: es) t) (n2 : starEach (e :: es) X.env = (false, eval e X.env) :: starEach es X.env := by rfl) (n3 : (backTo pos (starEach es X.env)).any (·.1) = false := by rfl)
    (look : eval (.Call (.Attribute o m apos) (e :: es) [] pos) X.env = (do
      let ov ← eval o X.env
      standAt apos.atName
      let (f, first) ← holding [ov] (getMethod ov m pl)
      callWith pos f first (backTo pos (starEach (e :: es) X.env)) (backToKw pos (keywordEach [] X.env))) := by rfl) : PE X (.Call (.Attribute o m apos) (e :: es) [] pos) (mG C m sp W dvs ta t) := by
  constructor
  intro pins s σ H Q I h
  refine PySem.W.methodCall_KW (pl := pl) (thn (he.run pins s σ H _ I h) ?_) look
  rintro v s1 ⟨y, H1, I1, ry, a, dx, fs, rfl, ia, nl, q⟩
  obtain rfl : v = Value.ref a := ry
  refine getmeth_ok I1 ia c hm nl ?_
  refine PySem.W.callWith_K (first := [.ref a]) (h₀ := X.base) I.ok.mod.kin hm.kp (thn (ha.run pos pins s1 σ H1 _ I1 q) ?_) n2 n3
  rintro us s2 ⟨vs, H2, I2, r, q2⟩
  refine ⟨I2.kIn, ?_⟩
  have rd : Vals (V.ref a :: (vs ++ dvs)) (Value.ref a :: (us ++ ds)) := .cons rfl (r.append hd)
  exact goG F hr hG tk I2 (hb s2 (.ref a :: us) I2.kIn (rd.length.symm.trans (F.many _ _ _ _ q2))) rd q2
theorem pg_meth0 {pl : Sem Bool} {dvs : List V} {ds : List Value} (he : PE X o ta) (c : Cls X.K C) (hm : Meth X.K C m f) (F : FnG X.prog X.w X.K X.mg X.base k f fd ps sp) (hr : Room k X.A) (hG : X.A.guards = some []) (tk : Takes X W)
    (hb : Binds X.K fd ps ds) (hd : Vals dvs ds)
    (look : eval (.Call (.Attribute o m apos) [] [] pos) X.env = (do
      let ov ← eval o X.env
      standAt apos.atName
      let (f, first) ← holding [ov] (getMethod ov m pl)
      callWith pos f first (backTo pos (starEach [] X.env)) (backToKw pos (keywordEach [] X.env))) := by rfl) : PE X (.Call (.Attribute o m apos) [] [] pos) (mG C m sp W dvs ta tNil) := by
  constructor
  intro pins s σ H Q I h
  refine PySem.W.methodCall_KW (pl := pl) (thn (he.run pins s σ H _ I h) ?_) look
  rintro v s1 ⟨y, H1, I1, ry, a, dx, fs, rfl, ia, nl, q⟩
  obtain rfl : v = Value.ref a := ry
  refine getmeth_ok I1 ia c hm nl (PySem.W.callWith_K0 (first := [.ref a]) I1.kIn hm.kp ?_)
  have rd : Vals (V.ref a :: ([] ++ dvs)) (Value.ref a :: ([] ++ ds)) := .cons rfl hd
  exact goG F hr hG tk I1 (hb s1 [.ref a] I1.kIn (rd.length.symm.trans (F.many _ _ _ _ q))) rd q
/-- a new instance of an own class: its __init__ -/
def nG (C : Addr) (sp : Sp) (W : WX) (dvs : List V) (t : TA) : TE := fun σ H Q => t σ H fun vs H1 => ∀ y dx, H1 y = none → H1 dx = none → dx ≠ y →
  sp (.ref y :: (vs ++ dvs)) (upd (upd H1 dx (.own y)) y (.ins C dx [])) (fun v H2 => v = .non ∧ Q (.ref y) H2) (WE W σ)
theorem goMake {pins : List (Addr × Obj)} {σ : Sig} {H : Hp} {s : Shared} {Q : VK} {us : List Value} {vs dvs : List V} {ds : List Value} (Mk : Mk X.K C f) (F : FnG X.prog X.w X.K X.mg X.base k f fd ps sp) (hr : Room (k + 1) X.A) (hG : X.A.guards = some []) (tk : Takes X W)
    (hb : Binds X.K fd ps ds) (hd : Vals dvs ds) (I : Inv X pins σ H s) (r : Vals vs us)
    (h : ∀ y dx, H y = none → H dx = none → dx ≠ y → sp (.ref y :: (vs ++ dvs)) (upd (upd H dx (.own y)) y (.ins C dx [])) (fun v H2 => v = .non ∧ Q (.ref y) H2) (WE W σ)) :
    wpAny (model X.prog X.w) X.A (call (.ref C) us) (EP X pins σ Q) X.xe s := by
  have wish := h (s.heap.objs.size + 1) s.heap.objs.size (I.hok.fresh (Nat.le_succ _)) (I.hok.fresh (Nat.le_refl _)) (Nat.ne_of_lt (Nat.lt_succ_self _))
  have J := Inv.made (C := C) I
  have rd : Vals (V.ref (s.heap.objs.size + 1) :: (vs ++ dvs)) (Value.ref (s.heap.objs.size + 1) :: (us ++ ds)) := .cons rfl (r.append hd)
  have bt := hb _ (Value.ref (s.heap.objs.size + 1) :: us) J.kIn (rd.length.symm.trans (F.many _ _ _ _ wish))
  have runs := F.goes _ X.stack _ _ ⟨Value.ref (s.heap.objs.size + 1) :: us, []⟩ _ _ _ (WE W σ) (hr.make C us []) (guards_make hG) (J.env0.make C us []) bt rd wish
  refine wpAny_call (make_map (f := f) I.kIn Mk.makes Mk.init (beq_iff_eq.mp Mk.fn) (codeAny_mono runs fun res s' got => ?_))
  have q := end_of tk J got
  cases res with
  | error z => exact q
  | ok fl => cases fl with
    | ret u =>
      obtain ⟨v, H', I3, rv, ev, q3⟩ := q
      subst ev
      exact ⟨rv, V.ref (s.heap.objs.size + 1), H', I3, rfl, q3⟩
    | next => exact q.elim
    | brk => exact q.elim
    | cont => exact q.elim
theorem pg_make {dvs : List V} {ds : List Value} (Mk : Mk X.K C f) (F : FnG X.prog X.w X.K X.mg X.base k f fd ps sp) (hr : Room (k + 1) X.A) (hG : X.A.guards = some []) (tk : Takes X W) (gl : Gl X x) (at_ : X.mg x = some (.ref C)) (hb : Binds X.K fd ps ds) (hd : Vals dvs ds)
    (ha : PA X (e :: es) t) (n1 : (x == ("__debug__" : Str)) = false := by decide) (n2 : starEach (e :: es) X.env = (false, eval e X.env) :: starEach es X.env := by rfl)
    (n3 : (backTo pos (starEach es X.env)).any (·.1) = false := by rfl) : PE X (.Call (.Name x p) (e :: es) [] pos) (nG C sp W dvs t) := by
  constructor
  intro pins s σ H Q I h
  refine wpAny_Call_Name_kw (ld_glob I gl at_ ?_ n1)
  refine PySem.W.callWith_K (h₀ := X.base) I.ok.mod.kin Mk.kp (thn (ha.run pos pins s σ H _ I h) ?_) n2 n3
  rintro us s1 ⟨vs, H1, I1, r, q⟩
  exact ⟨I1.kIn, goMake Mk F hr hG tk hb hd I1 r q⟩
end
end Pu
set_option Elab.async false
set_option linter.all false
set_option maxRecDepth 100000
/-! Pu, part B: reading, keeping, storing; expressions. -/
namespace Pu
open PySem PySem.Spec PyProof.Rows L2
theorem Slot.dat_ne {v : Val} : ∀ w, Slot.dat v ≠ .own w := fun _ z => nomatch z
theorem Slot.un_ne : ∀ w, Slot.un ≠ .own w := fun _ z => nomatch z
/-- what stands there now can be read as this tree -/
def RdR (K : PySem.W.Frag) (F H : Hp) (v : Val) (u : V) : Prop := VR K F v u ∨ ∃ t, u = .ref t ∧ CellR K F H v t
inductive RdRs (K : PySem.W.Frag) (F H : Hp) : List Val → List V → Prop
  | nil : RdRs K F H [] []
  | cons {v : Val} {u : V} {vs : List Val} {us : List V} : RdR K F H v u → RdRs K F H vs us → RdRs K F H (v :: vs) (u :: us)
def rd (r : RV) (e : Ev) : Option Val := match r with
  | .dat v => some v
  | .tmp v => some v
  | .bor i => match e[i]? with
    | some (.own v) => some v
    | some (.dat v) => some v
    | _ => none
def M.rd (r : RV) : M Val := fun e => match Pu.rd r e with
  | some v => .ok v e
  | none => .bad
def M.rds : List RV → M (List Val)
  | [] => M.ret []
  | r :: rs => (M.rd r).bind fun v => (M.rds rs).bind fun vs => M.ret (v :: vs)
/-- kept: nobody writes it from now on -/
def M.dt (r : RV) : M Val := fun e => match r with
  | .dat v => .ok v e
  | .tmp v => .ok v e
  | .bor i => match e[i]? with
    | some (.own v) => .ok v (e.set i (.dat v))
    | some (.dat v) => .ok v e
    | _ => .bad
def M.dts : List RV → M (List Val)
  | [] => M.ret []
  | r :: rs => (M.dt r).bind fun v => (M.dts rs).bind fun vs => M.ret (v :: vs)
theorem M.bind_assoc {α β γ : Type} (m : M α) (f : α → M β) (g : β → M γ) : (m.bind f).bind g = m.bind fun x => (f x).bind g := by
  funext e
  unfold M.bind
  cases m e <;> rfl
theorem M.ret_bind {α β : Type} (a : α) (f : α → M β) : (M.ret a).bind f = f a := rfl
section
variable {K : PySem.W.Frag} {W : WX} {B : Bg} {F F' H H' : Hp} {e : Ev} {σ : Sig}
theorem CellR.vr {v : Val} {t : Addr} (h : CellR K F H v t) (s : Same F F') (a : F' t = H t) : VR K F' v (.ref t) := by
  cases v with
  | lst xs =>
    obtain ⟨us, h1, h2⟩ := h
    exact .lst (.inl (a.trans h1)) (h2.mono s)
  | obj C fs vs =>
    obtain ⟨dx, us, h1, h2, h3⟩ := h
    exact .obj (a.trans h1) h2 (h3.mono s)
  | _ => exact h.elim
theorem CellR.mono {v : Val} {t : Addr} (h : CellR K F H v t) (s : Same F F') (a : H' t = H t) : CellR K F' H' v t := by
  cases v with
  | lst xs =>
    obtain ⟨us, h1, h2⟩ := h
    exact ⟨us, a.trans h1, h2.mono s⟩
  | obj C fs vs =>
    obtain ⟨dx, us, h1, h2, h3⟩ := h
    exact ⟨dx, us, a.trans h1, h2, h3.mono s⟩
  | _ => exact h.elim
theorem CellR.some {v : Val} {t : Addr} (h : CellR K F H v t) : ∃ o, H t = some o := by
  cases v with
  | lst xs =>
    obtain ⟨us, h1, h2⟩ := h
    exact ⟨_, h1⟩
  | obj C fs vs =>
    obtain ⟨dx, us, h1, h2, h3⟩ := h
    exact ⟨_, h1⟩
  | _ => exact h.elim
theorem RR.rd {r : RV} {u : V} {v : Val} (R : Rel K F H e σ) (h : RR K B F H e σ r u) (q : Pu.rd r e = some v) : RdR K F H v u := by
  cases r with
  | dat w =>
    cases q
    exact .inl h
  | tmp w =>
    cases q
    obtain ⟨t, h1, h2, h3, _⟩ := h
    exact .inr ⟨t, h1, h3⟩
  | bor i =>
    have h' : σ[i]? = some (some u) := h
    unfold Pu.rd at q
    dsimp only at q
    cases hi : e[i]? with
    | none => rw [hi] at q; cases q
    | some s =>
      rw [hi] at q
      cases s with
      | un => cases q
      | own w =>
        cases q
        obtain ⟨a, h1, h2, h3⟩ := R.slot i _ _ hi h'
        exact .inr ⟨a, Option.some.inj h1, h3⟩
      | dat w =>
        cases q
        obtain ⟨a, h1, h2⟩ := R.slot i _ _ hi h'
        rw [Option.some.inj h1]
        exact .inl h2
/-- frozen: what stands at t is known from now on -/
def frz (F H : Hp) (t : Addr) : Hp := fun b => if b = t then H t else F b
theorem frz_same {t : Addr} : frz F H t t = H t := by unfold frz; rw [if_pos rfl]
theorem frz_ne {t b : Addr} (h : b ≠ t) : frz F H t b = F b := by unfold frz; rw [if_neg h]
theorem frz_sub {t : Addr} (h : F t = none) : Same F (frz F H t) := fun b o e => by
  by_cases hb : b = t
  · rw [hb, h] at e; cases e
  · rw [frz_ne hb]; exact e
/-- a new object, or a name's own object, frozen -/
theorem Cur.frz {t : Addr} (C : Cur K B F H e σ) (h1 : F t = none) (h2 : ¬ Own e σ t) (h3 : B.mine t) : Cur K B (frz F H t) H e σ := by
  refine ⟨⟨C.post.sub.trans (frz_sub h1), C.post.fr, fun a h => ?_, C.post.kp⟩, ⟨fun b o q => ?_, C.rel.len, fun i s o a1 a2 => ?_, C.rel.inj⟩, C.own, C.ln, C.par⟩
  · by_cases ha : a = t
    · rw [ha]; exact .inr h3
    · rw [frz_ne ha] at h; exact C.post.nw a h
  · by_cases hb : b = t
    · rw [hb, frz_same] at q; rw [hb]; exact q
    · rw [frz_ne hb] at q; exact C.rel.sub b o q
  · have q := C.rel.slot i s o a1 a2
    cases s with
    | un => trivial
    | dat v =>
      obtain ⟨u, e1, e2⟩ := q
      exact ⟨u, e1, e2.mono (frz_sub h1)⟩
    | own v =>
      obtain ⟨a, e1, e2, e3⟩ := q
      have ne : a ≠ t := fun z => h2 ⟨i, v, a1, by rw [a2, e1, z]⟩
      exact ⟨a, e1, by rw [frz_ne ne]; exact e2, e3.mono (frz_sub h1) rfl⟩
theorem getset {α : Type} {l : List α} {i j : Nat} {a b : α} (h : (l.set i a)[j]? = some b) : (i = j ∧ b = a ∧ i < l.length) ∨ (i ≠ j ∧ l[j]? = some b) := by
  by_cases hij : i = j
  · subst hij
    by_cases hl : i < l.length
    · rw [List.getElem?_set_self hl] at h
      exact .inl ⟨rfl, (Option.some.inj h).symm, hl⟩
    · rw [List.getElem?_eq_none (by rw [List.length_set]; omega)] at h
      cases h
  · rw [List.getElem?_set_ne hij] at h
    exact .inr ⟨hij, h⟩
theorem Own.unset {i : Nat} {s : Slot} {a : Addr} {o : Option V} (hs : ∀ v, s ≠ .own v) (h : Own (e.set i s) (σ.set i o) a) : Own e σ a := by
  obtain ⟨j, v, h1, h2⟩ := h
  rcases getset h1 with ⟨_, z, _⟩ | ⟨z, h1⟩
  · exact absurd z.symm (hs v)
  · rw [List.getElem?_set_ne z] at h2
    exact ⟨j, v, h1, h2⟩
theorem Own.unset1 {i : Nat} {s : Slot} {a : Addr} (hs : ∀ v, s ≠ .own v) (h : Own (e.set i s) σ a) : Own e σ a := by
  obtain ⟨j, v, h1, h2⟩ := h
  rcases getset h1 with ⟨_, z, _⟩ | ⟨z, h1⟩
  · exact absurd z.symm (hs v)
  · exact ⟨j, v, h1, h2⟩
/-- a name's slot is said anew, the value stays -/
theorem Cur.slot {i : Nat} {s : Slot} (C : Cur K B F H e σ) (hs : ∀ v, s ≠ .own v) (h : ∀ o, σ[i]? = some o → SlotR K F H s o) : Cur K B F H (e.set i s) σ := by
  refine ⟨C.post, ⟨C.rel.sub, by rw [List.length_set]; exact C.rel.len, fun j q o a1 a2 => ?_, fun j k v w a h1 h2 h3 h4 => ?_⟩, fun a q => C.own a (q.unset1 hs), by rw [List.length_set]; exact C.ln, fun j v hj h => ?_⟩
  · rcases getset a1 with ⟨z, z2, _⟩ | ⟨z, a1⟩
    · subst z z2; exact h o a2
    · exact C.rel.slot j q o a1 a2
  · rcases getset h1 with ⟨_, z, _⟩ | ⟨_, h1⟩
    · exact absurd z.symm (hs v)
    · rcases getset h2 with ⟨_, z, _⟩ | ⟨_, h2⟩
      · exact absurd z.symm (hs w)
      · exact C.rel.inj j k v w a h1 h2 h3 h4
  · rcases getset h with ⟨_, z, _⟩ | ⟨_, h⟩
    · exact absurd z.symm (hs v)
    · exact C.par j v hj h
theorem Cur.forget {i : Nat} (C : Cur K B F H e σ) : Cur K B F H (e.set i .un) σ := C.slot (fun _ z => nomatch z) fun _ _ => trivial
/-- x = a tree -/
theorem Cur.setDat {i : Nat} {v : Val} {u : V} (C : Cur K B F H e σ) (r : VR K F v u) : Cur K B F H (e.set i (.dat v)) (σ.set i (some u)) := by
  refine ⟨C.post, ⟨C.rel.sub, by rw [List.length_set, List.length_set]; exact C.rel.len, fun j q o a1 a2 => ?_, fun j k v' w a h1 h2 h3 h4 => ?_⟩, fun a q => C.own a (q.unset Slot.dat_ne), by rw [List.length_set]; exact C.ln, fun j v' hj h => ?_⟩
  · rcases getset a1 with ⟨z, z2, _⟩ | ⟨z, a1⟩
    · subst z z2
      rcases getset a2 with ⟨_, z2, _⟩ | ⟨z, _⟩
      · exact ⟨u, z2, r⟩
      · exact absurd rfl z
    · rw [List.getElem?_set_ne z] at a2
      exact C.rel.slot j q o a1 a2
  · rcases getset h1 with ⟨_, z, _⟩ | ⟨z1, h1⟩
    · cases z
    · rcases getset h2 with ⟨_, z, _⟩ | ⟨z2, h2⟩
      · cases z
      · rw [List.getElem?_set_ne z1] at h3
        rw [List.getElem?_set_ne z2] at h4
        exact C.rel.inj j k v' w a h1 h2 h3 h4
  · rcases getset h with ⟨_, z, _⟩ | ⟨z, h⟩
    · cases z
    · rw [List.getElem?_set_ne z]
      exact C.par j v' hj h
/-- x = a new object -/
theorem Cur.setOwn {i : Nat} {v : Val} {t : Addr} (C : Cur K B F H e σ) (h1 : F t = none) (h2 : CellR K F H v t) (h3 : ¬ Own e σ t) (h4 : B.mine t) (hp : B.np ≤ i) : Cur K B F H (e.set i (.own v)) (σ.set i (some (.ref t))) := by
  have other : ∀ {j : Nat} {w : Val} {a : Addr}, (e.set i (.own v))[j]? = some (.own w) → (σ.set i (some (.ref t)))[j]? = some (some (.ref a)) → (i = j ∧ a = t) ∨ (i ≠ j ∧ e[j]? = some (.own w) ∧ σ[j]? = some (some (.ref a))) := fun {j w a} a1 a2 => by
    rcases getset a1 with ⟨z, _, _⟩ | ⟨z, a1⟩
    · rcases getset a2 with ⟨_, z2, _⟩ | ⟨z', _⟩
      · cases z2; exact .inl ⟨z, rfl⟩
      · exact absurd z z'
    · rw [List.getElem?_set_ne z] at a2
      exact .inr ⟨z, a1, a2⟩
  refine ⟨C.post, ⟨C.rel.sub, by rw [List.length_set, List.length_set]; exact C.rel.len, fun j q o a1 a2 => ?_, fun j k v' w a a1 a2 a3 a4 => ?_⟩, fun a q => ?_, by rw [List.length_set]; exact C.ln, fun j v' hj h => ?_⟩
  · rcases getset a1 with ⟨z, z2, _⟩ | ⟨z, a1⟩
    · subst z z2
      rcases getset a2 with ⟨_, z2, _⟩ | ⟨z, _⟩
      · exact ⟨t, z2, h1, h2⟩
      · exact absurd rfl z
    · rw [List.getElem?_set_ne z] at a2
      exact C.rel.slot j q o a1 a2
  · rcases other a1 a3 with ⟨z1, z2⟩ | ⟨z1, b1, b2⟩
    · rcases other a2 a4 with ⟨z3, _⟩ | ⟨_, c1, c2⟩
      · exact z1.symm.trans z3
      · exact absurd ⟨k, w, c1, z2 ▸ c2⟩ h3
    · rcases other a2 a4 with ⟨_, z4⟩ | ⟨_, c1, c2⟩
      · exact absurd ⟨j, v', b1, z4 ▸ b2⟩ h3
      · exact C.rel.inj j k v' w a b1 c1 b2 c2
  · obtain ⟨j, w, a1, a2⟩ := q
    rcases other a1 a2 with ⟨_, z2⟩ | ⟨_, b1, b2⟩
    · rw [z2]; exact h4
    · exact C.own a ⟨j, w, b1, b2⟩
  · rcases getset h with ⟨z, _, _⟩ | ⟨z, h⟩
    · omega
    · rw [List.getElem?_set_ne z]
      exact C.par j v' hj h
/-- a result is carried over a further stretch -/
theorem RR.carry {F0 H0 : Hp} {e0 : Ev} {r : RV} {u : V} (h : RR K B F0 H0 e0 σ r u) {np : Nat} (c : Cur K (bg np F0 H0 e0 σ) F H e σ) : RR K B F H e σ r u := by
  cases r with
  | dat v => exact VR.mono c.post.sub h
  | bor i => exact h
  | tmp v =>
    obtain ⟨t, h1, h2, h3, h4, h5⟩ := h
    obtain ⟨o, ho⟩ := h3.some
    have no : ¬ (bg np F0 H0 e0 σ).mine t := fun z => by
      rcases z with z | z
      · exact h4 z
      · have z' : H0 t = none := z
        rw [ho] at z'; cases z'
    have hF : F t = none := by
      cases q : F t with
      | none => rfl
      | some x =>
        rcases c.post.nw t (by rw [q]; simp) with z | z
        · exact absurd h2 z
        · exact absurd z no
    exact ⟨t, h1, hF, h3.mono c.post.sub ((c.post.fr t o ho h4).trans ho.symm), fun z => no (c.own t z), h5⟩
/-- reading -/
theorem At.rd {α β : Type} {R : Bg → Hp → Hp → Ev → Sig → α → β → Prop} {r : RV} {u : V} {f : Val → M α} {Q : β → Hp → Prop} (R0 : Rel K F H e σ) (h : RR K B F H e σ r u) (q : At K W R B ((M.rd r).bind f) F e σ H Q) :
    ∃ v, RdR K F H v u ∧ At K W R B (f v) F e σ H Q := by
  cases z : Pu.rd r e with
  | none =>
    unfold At M.bind M.rd at q
    rw [z] at q
    exact q.elim
  | some v =>
    refine ⟨v, h.rd R0 z, ?_⟩
    unfold At M.bind M.rd at q
    rw [z] at q
    exact q
theorem At.rds {α β : Type} {R : Bg → Hp → Hp → Ev → Sig → α → β → Prop} (R0 : Rel K F H e σ) {Q : β → Hp → Prop} : ∀ {rs : List RV} {us : List V} {f : List Val → M α}, RRs K B F H e σ rs us → At K W R B ((M.rds rs).bind f) F e σ H Q →
    ∃ vs, RdRs K F H vs us ∧ At K W R B (f vs) F e σ H Q
  | _, _, f, .nil, q => ⟨[], .nil, q⟩
  | _, _, f, .cons (rs := rs) r _ t, q => by
    unfold M.rds at q
    rw [M.bind_assoc] at q
    obtain ⟨v, h1, q⟩ := At.rd R0 r q
    rw [M.bind_assoc] at q
    obtain ⟨vs, h2, q⟩ := At.rds R0 t q
    exact ⟨v :: vs, .cons h1 h2, q⟩
/-- keeping -/
theorem dt_go {r : RV} {u : V} {v : Val} {e' : Ev} (C : Cur K B F H e σ) (h : RR K B F H e σ r u) (q : M.dt r e = .ok v e') :
    ∃ F', Cur K B F' H e' σ ∧ Same F F' ∧ VR K F' v u ∧ (∀ r' u', RR K B F H e σ r' u' → (∀ v w, r = .tmp v → r' = .tmp w → u' ≠ u) → RR K B F' H e' σ r' u') := by
  cases r with
  | dat w =>
    cases q
    exact ⟨F, C, Same.refl _, h, fun _ _ z _ => z⟩
  | tmp w =>
    cases q
    obtain ⟨t, h1, h2, h3, h4, h5⟩ := h
    subst h1
    refine ⟨frz F H t, C.frz h2 h4 h5, frz_sub h2, h3.vr (frz_sub h2) frz_same, fun r' u' z d => ?_⟩
    cases r' with
    | dat v => exact VR.mono (frz_sub h2) z
    | bor i => exact z
    | tmp w' =>
      obtain ⟨t', a1, a2, a3, a4, a5⟩ := z
      have ne : t' ≠ t := fun z => d v w' rfl rfl (by rw [a1, z])
      exact ⟨t', a1, by rw [frz_ne ne]; exact a2, a3.mono (frz_sub h2) rfl, a4, a5⟩
  | bor i =>
    have h' : σ[i]? = some (some u) := h
    unfold M.dt at q
    cases z : e[i]? with
    | none => simp only [z] at q; cases q
    | some s =>
      cases s with
      | un => simp only [z] at q; cases q
      | dat w =>
        simp only [z] at q
        cases q
        refine ⟨F, C, Same.refl _, ?_, fun _ _ z _ => z⟩
        obtain ⟨x, h1, h2⟩ := C.rel.slot i _ _ z h'
        rw [Option.some.inj h1]; exact h2
      | own w =>
        simp only [z] at q
        cases q
        obtain ⟨t, h1, h2, h3⟩ := C.rel.slot i _ _ z h'
        have eu : u = .ref t := Option.some.inj h1
        subst eu
        have no : ∀ {a}, Own (e.set i .un) σ a → a ≠ t := fun {a} ⟨j, w, b1, b2⟩ z2 => by
          rcases getset b1 with ⟨_, z3, _⟩ | ⟨z3, b1⟩
          · cases z3
          · rw [z2] at b2
            exact z3 (C.rel.inj i j v w t z b1 h' b2)
        have C1 : Cur K B F H (e.set i .un) σ := C.forget
        have C2 := C1.frz h2 (fun z2 => no z2 rfl) (C.own t ⟨i, v, z, h'⟩)
        have C3 : Cur K B (Pu.frz F H t) H ((e.set i .un).set i (.dat v)) σ := C2.slot (fun _ z => nomatch z) fun o ho => by
          rw [h'] at ho; cases ho
          exact ⟨_, rfl, h3.vr (frz_sub h2) frz_same⟩
        rw [List.set_set] at C3
        refine ⟨_, C3, frz_sub h2, h3.vr (frz_sub h2) frz_same, fun r' u' zz d => ?_⟩
        cases r' with
        | dat v => exact VR.mono (frz_sub h2) zz
        | bor i => exact zz
        | tmp w =>
          obtain ⟨t', a1, a2, a3, a4, a5⟩ := zz
          have ne : t' ≠ t := fun z3 => a4 (by rw [z3]; exact ⟨i, v, z, h'⟩)
          exact ⟨t', a1, by rw [frz_ne ne]; exact a2, a3.mono (frz_sub h2) rfl, fun z4 => a4 (z4.unset1 Slot.dat_ne), a5⟩
theorem dt_some {r : RV} : ∀ (x : Val) (e' : Ev), M.dt r e ≠ .rs x e' := by
  intro x e' z
  cases r with
  | dat v => cases z
  | tmp v => cases z
  | bor i =>
    unfold M.dt at z
    dsimp only at z
    split at z <;> cases z
theorem At.dt {α β : Type} {R : Bg → Hp → Hp → Ev → Sig → α → β → Prop} {r : RV} {u : V} {f : Val → M α} {Q : β → Hp → Prop} (C : Cur K B F H e σ) (h : RR K B F H e σ r u) (q : At K W R B ((M.dt r).bind f) F e σ H Q) :
    ∃ F' e' v, Cur K B F' H e' σ ∧ Same F F' ∧ VR K F' v u ∧ At K W R B (f v) F' e' σ H Q ∧
      (∀ r' u', RR K B F H e σ r' u' → (∀ v w, r = .tmp v → r' = .tmp w → u' ≠ u) → RR K B F' H e' σ r' u') := by
  cases z : M.dt r e with
  | rs x e' => exact (dt_some _ _ z).elim
  | bad =>
    unfold At M.bind at q
    rw [z] at q
    exact q.elim
  | ok v e' =>
    obtain ⟨F', C', s, r1, keep⟩ := dt_go C h z
    refine ⟨F', e', v, C', s, r1, ?_, keep⟩
    unfold At M.bind at q
    rw [z] at q
    exact q
theorem At.dts {α β : Type} {R : Bg → Hp → Hp → Ev → Sig → α → β → Prop} {Q : β → Hp → Prop} : ∀ {rs : List RV} {us : List V} {f : List Val → M α} {F : Hp} {e : Ev}, Cur K B F H e σ → RRs K B F H e σ rs us → At K W R B ((M.dts rs).bind f) F e σ H Q →
    ∃ F' e' vs, Cur K B F' H e' σ ∧ Same F F' ∧ VRs K F' vs us ∧ At K W R B (f vs) F' e' σ H Q
  | _, _, f, F, e, C, .nil, q => ⟨F, e, [], C, Same.refl _, .nil, q⟩
  | _, _, f, F, e, C, .cons (r := r) (u := u) (rs := rs) (us := us) h d t, q => by
    unfold M.dts at q
    rw [M.bind_assoc] at q
    obtain ⟨F1, e1, v, C1, s1, h1, q, keep⟩ := At.dt C h q
    rw [M.bind_assoc] at q
    have t1 : RRs K B F1 H e1 σ rs us := by
      have go : ∀ {rs : List RV} {us : List V}, RRs K B F H e σ rs us → (∀ v, r = .tmp v → ∀ (j : Nat) w, rs[j]? = some (.tmp w) → us[j]? ≠ some u) → RRs K B F1 H e1 σ rs us := fun {rs us} z => by
        induction z with
        | nil => intro _; exact .nil
        | cons a b c ih =>
          intro d
          refine .cons (keep _ _ a fun v w e1 e2 e3 => d v e1 0 w (by rw [e2]; rfl) (by rw [e3]; rfl)) b (ih fun v e1 j w e2 => ?_)
          exact d v e1 (j + 1) w (by simpa using e2)
      exact go t d
    obtain ⟨F2, e2, vs, C2, s2, h2, q⟩ := At.dts C1 t1 q
    exact ⟨F2, e2, v :: vs, C2, s1.trans s2, .cons (h1.mono s2) h2, q⟩
end
end Pu
set_option Elab.async false
set_option linter.all false
set_option maxRecDepth 100000
/-! Pu, part C: expressions. -/
namespace Pu
open PySem PySem.Spec PyProof.Rows L2
theorem PE.imp {X : Cx} {e : Expr} {t t' : TE} (h : PE X e t) (q : ∀ σ H Q, t' σ H Q → t σ H Q) : PE X e t' := ⟨fun pins s σ H Q I z => h.run pins s σ H Q I (q σ H Q z)⟩
theorem PT.imp {X : Cx} {e : Expr} {t t' : TT} (h : PT X e t) (q : ∀ σ H Q, t' σ H Q → t σ H Q) : PT X e t' := ⟨fun pins s σ H Q I z => h.run pins s σ H Q I (q σ H Q z)⟩
theorem PW.imp {X : Cx} {e : Expr} {t t' : TT} (h : PW X e t) (q : ∀ σ H Q, t' σ H Q → t σ H Q) : PW X e t' := ⟨fun w pins s σ H Q I z => h.run w pins s σ H Q I (q σ H Q z)⟩
theorem PA.imp {X : Cx} {es : List Expr} {t t' : TA} (h : PA X es t) (q : ∀ σ H Q, t' σ H Q → t σ H Q) : PA X es t' := ⟨fun p pins s σ H Q I z => h.run p pins s σ H Q I (q σ H Q z)⟩
theorem PS.imp {X : Cx} {st : Stmt} {t t' : TS} (h : PS X st t) (q : ∀ D σ H, t' D σ H → t D σ H) : PS X st t' := ⟨fun pins s σ H D I z => h.run pins s σ H D I (q D σ H z)⟩
theorem PSs.imp {X : Cx} {st : List Stmt} {t t' : TS} (h : PSs X st t) (q : ∀ D σ H, t' D σ H → t D σ H) : PSs X st t' := ⟨fun pins s σ H D I z => h.run pins s σ H D I (q D σ H z)⟩
abbrev SE (X : Cx) (W : WX) (e : Expr) (m : M RV) : Prop := PE X e (tE X.K W m)
abbrev ST (X : Cx) (W : WX) (e : Expr) (m : M Bool) : Prop := PT X e (tT X.K W m)
abbrev SW (X : Cx) (W : WX) (e : Expr) (m : M Bool) : Prop := PW X e (tT X.K W m)
abbrev SA (X : Cx) (W : WX) (es : List Expr) (m : M (List RV)) : Prop := PA X es (tA X.K W m)
/-! ### readings of single values -/
section
variable {K : PySem.W.Frag} {W : WX} {B : Bg} {F F' H H' : Hp} {e : Ev} {σ : Sig} {u : V}
theorem RdR.non (h : RdR K F H .non u) : u = .non := by
  rcases h with h | ⟨_, _, h⟩
  · cases h; rfl
  · exact h.elim
theorem RdR.bl {b : Bool} (h : RdR K F H (.bl b) u) : u = .bl b := by
  rcases h with h | ⟨_, _, h⟩
  · cases h; rfl
  · exact h.elim
theorem RdR.int {i : Int} (h : RdR K F H (.int i) u) : u = .int i := by
  rcases h with h | ⟨_, _, h⟩
  · cases h; rfl
  · exact h.elim
theorem RdR.str {x : Str} (h : RdR K F H (.str x) u) : u = .str x := by
  rcases h with h | ⟨_, _, h⟩
  · cases h; rfl
  · exact h.elim
theorem RdR.ty {n : String} (h : RdR K F H (.ty n) u) : u = .ty n := by
  rcases h with h | ⟨_, _, h⟩
  · cases h; rfl
  · exact h.elim
theorem RdR.glo {x : Str} (h : RdR K F H (.glo x) u) : u = .ref (He.ga K x) := by
  rcases h with h | ⟨_, _, h⟩
  · cases h; rfl
  · exact h.elim
theorem RdR.lst {xs : List Val} (s : Same F H) (h : RdR K F H (.lst xs) u) : ∃ a us, u = .ref a ∧ Rd H a (.lst us) ∧ VRs K F xs us := by
  rcases h with h | ⟨t, e, us, h1, h2⟩
  · cases h with
    | lst h1 h2 => exact ⟨_, _, rfl, rd_mono s h1, h2⟩
  · exact ⟨t, us, e, .inl h1, h2⟩
theorem RdR.tup {xs : List Val} (s : Same F H) (h : RdR K F H (.tup xs) u) : ∃ a us, u = .ref a ∧ SqT K H a us ∧ VRs K F xs us := by
  rcases h with h | ⟨_, _, h⟩
  · cases h with
    | tup h1 h2 => exact ⟨_, _, rfl, sqT_mono s h1, h2⟩
  · exact h.elim
theorem RdR.obj {C : Str} {fs : List Str} {vs : List Val} (s : Same F H) (h : RdR K F H (.obj C fs vs) u) : ∃ a dx us, u = .ref a ∧ H a = some (.ins (He.ga K C) dx (fs.zip us)) ∧ fs.length = us.length ∧ VRs K F vs us := by
  rcases h with h | ⟨t, e, dx, us, h1, h2, h3⟩
  · cases h with
    | obj h1 h2 h3 => exact ⟨_, _, _, rfl, s _ _ h1, h2, h3⟩
  · exact ⟨t, dx, us, e, h1, h2, h3⟩
theorem At.ok {α β : Type} {R : Bg → Hp → Hp → Ev → Sig → α → β → Prop} {m : M α} {Q : β → Hp → Prop} {r : α} {e' : Ev} {x : β} (h : At K W R B m F e σ H Q) (hm : m e = .ok r e') (C : Cur K B F' H' e' σ) (q : R B F' H' e' σ r x) : Q x H' := by
  unfold At at h
  rw [hm] at h
  exact h F' H' x C q
/-- a new object of the heap's -/
theorem Cur.grow {o : HO} {a : Addr} (C : Cur K B F H e σ) (h : H a = none) : Cur K B F (upd H a o) e σ ∧ ¬ Own e σ a ∧ F a = none ∧ B.mine a := by
  have hF : F a = none := by
    cases q : F a with
    | none => rfl
    | some x => rw [C.rel.sub a x q] at h; cases h
  have hO : ¬ Own e σ a := fun ⟨i, v, a1, a2⟩ => by
    obtain ⟨b, h1, h2, h3⟩ := C.rel.slot i _ _ a1 a2
    obtain ⟨o', h4⟩ := h3.some
    have e1 : V.ref a = V.ref b := Option.some.inj h1
    cases e1
    rw [h] at h4; cases h4
  refine ⟨⟨⟨C.post.sub, fun b o' q n => ?_, C.post.nw, fun b q => ?_⟩, ⟨fun b o' q => ?_, C.rel.len, fun i s o' a1 a2 => ?_, C.rel.inj⟩, C.own, C.ln, C.par⟩, hO, hF, .inr (C.post.kp a h)⟩
  · have z := C.post.fr b o' q n
    rw [upd_ne (ne_of_none z h)]
    exact z
  · by_cases hb : b = a
    · rw [hb, upd_same] at q; cases q
    · rw [upd_ne hb] at q; exact C.post.kp b q
  · have z := C.rel.sub b o' q
    rw [upd_ne (ne_of_none z h)]
    exact z
  · have z := C.rel.slot i s o' a1 a2
    cases s with
    | un => trivial
    | dat v => exact z
    | own v =>
      obtain ⟨b, h1, h2, h3⟩ := z
      obtain ⟨o2, h4⟩ := h3.some
      exact ⟨b, h1, h2, h3.mono (Same.refl _) (upd_ne (ne_of_none h4 h))⟩
/-- .. known at once -/
theorem Cur.growF {o : HO} {a : Addr} (C : Cur K B F H e σ) (h : H a = none) : Cur K B (Pu.frz F (upd H a o) a) (upd H a o) e σ ∧ Same F (Pu.frz F (upd H a o) a) ∧ Pu.frz F (upd H a o) a a = some o := by
  obtain ⟨C1, h1, h2, h3⟩ := C.grow (o := o) h
  exact ⟨C1.frz h2 h1 h3, frz_sub h2, by rw [frz_same, upd_same]⟩
end
/-! ### names, constants -/
def mVar (i : Nat) : M RV := fun e => match e[i]? with
  | some (.dat v) => .ok (.dat v) e
  | some (.own _) => .ok (.bor i) e
  | _ => .bad
def mV (v : Val) : M RV := M.ret (.dat v)
section
variable {X : Cx} {W : WX}
theorem se_var (i : Nat) {x : Str} {pos : Pos} (hN : X.N[i]? = some x := by rfl) (hv : Vis X.env.scope x := by first | exact Or.inl rfl | exact Or.inr (Or.inl rfl) | exact Or.inr (Or.inr rfl)) (hd : (x == ("__debug__" : Str)) = false := by decide)
    (hcd : (x == ("__classdict__" : Str)) = false := by decide) : SE X W (.Name x pos) (mVar i) := by
  refine PE.imp (pe_var hN hv hd hcd) fun σ H Q h => ?_
  obtain ⟨np, F, e, R, h⟩ := h
  cases z : e[i]? with
  | none => unfold At mVar at h; simp only [z] at h
  | some s =>
    have il : i < σ.length := R.len ▸ (List.getElem?_eq_some_iff.mp z).1
    have ho : σ[i]? = some σ[i] := List.getElem?_eq_getElem il
    cases s with
    | un => unfold At mVar at h; simp only [z] at h
    | dat v =>
      obtain ⟨u, h1, h2⟩ := R.slot i _ _ z ho
      have C := Cur.refl (np := np) R
      exact ⟨u, by rw [ho, h1], h.ok (e' := e) (r := RV.dat v) (by unfold mVar; simp only [z]) C h2⟩
    | own v =>
      obtain ⟨a, h1, h2, h3⟩ := R.slot i _ _ z ho
      have C := Cur.refl (np := np) R
      exact ⟨.ref a, by rw [ho, h1], h.ok (e' := e) (r := RV.bor i) (by unfold mVar; simp only [z]) C (show σ[i]? = some (some (V.ref a)) by rw [ho, h1])⟩
theorem at_ret {v : Val} {u : V} {σ : Sig} {H : Hp} {Q : VK} (h : tE X.K W (mV v) σ H Q) (r : ∀ F, VR X.K F v u) : Q u H := by
  obtain ⟨np, F, e, R, h⟩ := h
  exact h.ok rfl (Cur.refl R) (r F)
theorem se_int {i : Int} {j pos} : SE X W (.Constant (.int i) j pos) (mV (.int i)) := PE.imp pe_int fun _ _ _ h => at_ret h fun _ => .int i
theorem se_bl {b : Bool} {j pos} : SE X W (.Constant (.bool b) j pos) (mV (.bl b)) := PE.imp pe_bl fun _ _ _ h => at_ret h fun _ => .bl b
theorem se_non {j pos} : SE X W (.Constant .none j pos) (mV .non) := PE.imp pe_non fun _ _ _ h => at_ret h fun _ => .non
theorem se_str {x : Str} {j pos} : SE X W (.Constant (.str x) j pos) (mV (.str x)) := PE.imp pe_str fun _ _ _ h => at_ret h fun _ => .str x
/-- a module's def or class as a value -/
theorem se_glo {x : Str} {pos : Pos} (gl : Gl X x) (at_ : X.mg x = some (.ref (He.ga X.K x))) (hd : (x == ("__debug__" : Str)) = false := by decide) : SE X W (.Name x pos) (mV (.glo x)) :=
  PE.imp (pe_glob gl at_ (v := .ref (He.ga X.K x)) rfl hd) fun _ _ _ h => at_ret h fun _ => .glo x
/-- a module's constant -/
theorem se_gloV {x : Str} {pos : Pos} {v : Val} {u : V} {w : Value} (gl : Gl X x) (at_ : X.mg x = some w) (r : RelV u w) (q : ∀ F, VR X.K F v u) (hd : (x == ("__debug__" : Str)) = false := by decide) : SE X W (.Name x pos) (mV v) :=
  PE.imp (pe_glob gl at_ r hd) fun _ _ _ h => at_ret h q
/-- a built-in class as a value -/
theorem se_ty {x : Str} {n : String} {pos : Pos} (gl : Gl X x) (fr : X.mg x = none) (hv : bootBuiltins x = some (.type n) := by decide +kernel) (hn : x ≠ "__name__" := by decide) (hd : (x == ("__debug__" : Str)) = false := by decide) : SE X W (.Name x pos) (mV (.ty n)) :=
  PE.imp (pe_bltn gl fr hv (v := .ty n) rfl hn hd) fun _ _ _ h => at_ret h fun _ => .ty n
end
/-! ### two parts -/
def mBin (f : Val → Val → M RV) (a b : M RV) : M RV := a.bind fun r => b.bind fun s => (M.rd r).bind fun v => (M.rd s).bind fun w => f v w
def OpV (K : PySem.W.Frag) (W : WX) (f : Val → Val → M RV) (r : R2) : Prop := ∀ {B : Bg} {F H : Hp} {e : Ev} {σ : Sig} {v w : Val} {x y : V} {Q : VK}, Cur K B F H e σ → RdR K F H v x → RdR K F H w y → At K W (RR K) B (f v w) F e σ H Q → r x y H Q
section
variable {X : Cx} {W : WX} {a b c : Expr} {ma mb mc : M RV} {pos : Pos} {f g : Val → Val → M RV} {r : R2}
theorem two {K : PySem.W.Frag} (hv : OpV K W f r) {σ : Sig} {H : Hp} {Q : VK} (h : tE K W (mBin f ma mb) σ H Q) : tOp r (tE K W ma) (tE K W mb) σ H Q := by
  obtain ⟨np, F, e, R, h⟩ := h
  refine use (Cur.refl R) h fun r1 e1 F1 H1 x C1 q1 _ h1 => ?_
  refine use C1 h1 fun r2 e2 F2 H2 y C2 q2 c2 h2 => ?_
  obtain ⟨v, rv, h3⟩ := At.rd C2.rel (q1.carry c2) h2
  obtain ⟨w, rw_, h4⟩ := At.rd C2.rel q2 h3
  exact hv C2 rv rw_ h4
theorem se_bin {op : Operator} (ho : OpR X (binaryOp op) r) (hv : OpV X.K W f r) (ha : SE X W a ma) (hb : SE X W b mb) : SE X W (.BinOp a op b pos) (mBin f ma mb) :=
  PE.imp (pe_op ho ha hb) fun _ _ _ h => two hv h
theorem se_cmp {op : CmpOp} (ho : OpR X (compareOp op) r) (hv : OpV X.K W f r) (ha : SE X W a ma) (hb : SE X W b mb) (hm : behindInMarks op b = false := by first | exact nomark _ | rfl) : SE X W (.Compare a [op] [b] pos) (mBin f ma mb) :=
  PE.imp (pe_cmpR ho ha hb hm) fun _ _ _ h => two hv h
/-- the truth of a value -/
def truV (v : Val) : M Bool := fun e => match v with
  | .bl b => .ok b e
  | .int i => .ok (i != 0) e
  | .non => .ok false e
  | .str x => if x.length ≤ sizeLine then .ok ((x.length : Int) != 0) e else .bad
  | .lst xs => .ok (!xs.isEmpty) e
  | .tup xs => .ok (!xs.isEmpty) e
  | _ => .bad
def mTru (m : M RV) : M Bool := m.bind fun r => (M.rd r).bind fun v => truV v
theorem VRs.empty {K : PySem.W.Frag} {F : Hp} {vs : List Val} {us : List V} (h : VRs K F vs us) : us.isEmpty = vs.isEmpty := by cases h <;> rfl
theorem tru_of {K : PySem.W.Frag} {B : Bg} {F H : Hp} {e : Ev} {σ : Sig} {v : Val} {x : V} {Q : Bool → Hp → Prop} (C : Cur K B F H e σ) (rv : RdR K F H v x) (h : At K W (fun _ _ _ _ _ (b c : Bool) => b = c) B (truV v) F e σ H Q) : ∃ k, TruV K x H k ∧ Q k H := by
  cases v with
  | bl b => rw [rv.bl]; exact ⟨b, rfl, h.ok rfl C rfl⟩
  | int i => rw [rv.int]; exact ⟨_, rfl, h.ok rfl C rfl⟩
  | non => rw [rv.non]; exact ⟨_, rfl, h.ok rfl C rfl⟩
  | str z =>
    rw [rv.str]
    by_cases hz : z.length ≤ sizeLine
    · exact ⟨_, ⟨hz, rfl⟩, h.ok (by unfold truV; simp only [hz, if_true]) C rfl⟩
    · unfold At truV at h; simp only [hz, if_false] at h
  | lst xs =>
    obtain ⟨p, us, rfl, h1, h2⟩ := rv.lst C.rel.sub
    exact ⟨_, .inl ⟨us, .inl h1, rfl⟩, h.ok rfl C (by rw [h2.empty])⟩
  | tup xs =>
    obtain ⟨p, us, rfl, h1, h2⟩ := rv.tup C.rel.sub
    exact ⟨_, .inr (.inl ⟨us, h1, rfl⟩), h.ok rfl C (by rw [h2.empty])⟩
  | _ => exact h.elim
theorem st_val (ha : SE X W a ma) (he : ∀ whole, isTrue a X.env whole = (do let v ← whole; standAt a.pos; holding [v] (truthy v)) := by intro _; rfl) : ST X W a (mTru ma) := by
  refine PT.imp (pt_truth ha he) fun σ H Q h => ?_
  obtain ⟨np, F, e, R, h⟩ := h
  refine use (Cur.refl R) h fun r1 e1 F1 H1 x C1 q1 _ h1 => ?_
  obtain ⟨v, rv, h2⟩ := At.rd C1.rel q1 h1
  exact tru_of C1 rv h2
theorem st_cmp {op : CmpOp} (ho : OpR X (compareOp op) r) (hv : OpV X.K W f r) (hb2 : ∀ v w e r' e', f v w e = .ok r' e' → ∃ b, r' = .dat (.bl b)) (ha : SE X W a ma) (hb : SE X W b mb) (hm : behindInMarks op b = false := by first | exact nomark _ | rfl) : ST X W (.Compare a [op] [b] pos) (mTru (mBin f ma mb)) := by
  refine PT.imp (pt_cmpR ho ha hb hm) fun σ H Q h => ?_
  refine two (r := r) (f := f) hv ?_
  obtain ⟨np, F, e, R, h⟩ := h
  refine ⟨np, F, e, R, ?_⟩
  unfold At mTru M.bind at h
  unfold At
  cases z : mBin f ma mb e with
  | bad => rw [z] at h; exact h
  | rs x e' => rw [z] at h; exact h
  | ok r' e' =>
    rw [z] at h
    intro F' H' u C q
    have hr : ∃ b, r' = .dat (.bl b) := by
      unfold mBin M.bind M.rd at z
      cases z1 : ma e with
      | ok r1 e1 =>
        simp only [z1] at z
        cases z2 : mb e1 with
        | ok r2 e2 =>
          simp only [z2] at z
          cases z3 : Pu.rd r1 e2 with
          | none => simp only [z3] at z; cases z
          | some v =>
            simp only [z3] at z
            cases z4 : Pu.rd r2 e2 with
            | none => simp only [z4] at z; cases z
            | some w =>
              simp only [z4] at z
              exact hb2 _ _ _ _ _ z
        | rs _ _ => simp only [z2] at z; cases z
        | bad => simp only [z2] at z; cases z
      | rs _ _ => simp only [z1] at z; cases z
      | bad => simp only [z1] at z; cases z
    obtain ⟨b, rfl⟩ := hr
    have eu : u = .bl b := by cases q; rfl
    subst eu
    exact ⟨b, rfl, h F' H' b C rfl⟩
end
/-! ### and, or, not, if else -/
def mAnd (a b : M Bool) : M Bool := a.bind fun c => if c = true then b else M.ret false
def mOr (a b : M Bool) : M Bool := a.bind fun c => if c = true then M.ret true else b
def mNot (a : M Bool) : M Bool := a.bind fun c => M.ret (!c)
def mIfE (c : M Bool) (a b : M RV) : M RV := c.bind fun k => if k = true then a else b
def mAndV (a b : M RV) : M RV := a.bind fun r => (M.rd r).bind fun v => match v with
  | .bl c => if c = true then b else mV (.bl false)
  | _ => M.bad
def mOrV (a b : M RV) : M RV := a.bind fun r => (M.rd r).bind fun v => match v with
  | .bl c => if c = true then mV (.bl true) else b
  | _ => M.bad
def mNotV (a : M RV) : M RV := a.bind fun r => (M.rd r).bind fun v => match v with
  | .bl c => mV (.bl (!c))
  | _ => M.bad
section
variable {X : Cx} {W : WX} {a b c : Expr} {rest : List Expr} {ma mb : M RV} {ta tb : M Bool} {pos : Pos}
theorem sw_and1 (ha : ST X W a ta) : SW X W (.BoolOp .And [a] pos) ta := pw_and1 ha
theorem sw_or1 (ha : ST X W a ta) : SW X W (.BoolOp .Or [a] pos) ta := pw_or1 ha
theorem sw_and (ha : ST X W a ta) (hb : SW X W (.BoolOp .And (b :: rest) pos) tb) : SW X W (.BoolOp .And (a :: b :: rest) pos) (mAnd ta tb) := by
  refine PW.imp (pw_and ha hb) fun σ H Q h => ?_
  obtain ⟨np, F, e, R, h⟩ := h
  refine use (Cur.refl R) h fun k e1 F1 H1 k' C1 q1 _ h1 => ?_
  have ek : k = k' := q1
  subst ek
  cases k with
  | true => exact use1 C1 h1
  | false => exact h1.ok rfl C1 rfl
theorem sw_or (ha : ST X W a ta) (hb : SW X W (.BoolOp .Or (b :: rest) pos) tb) : SW X W (.BoolOp .Or (a :: b :: rest) pos) (mOr ta tb) := by
  refine PW.imp (pw_or ha hb) fun σ H Q h => ?_
  obtain ⟨np, F, e, R, h⟩ := h
  refine use (Cur.refl R) h fun k e1 F1 H1 k' C1 q1 _ h1 => ?_
  have ek : k = k' := q1
  subst ek
  cases k with
  | false => exact use1 C1 h1
  | true => exact h1.ok rfl C1 rfl
theorem st_w {t : M Bool} (h : SW X W a t) : ST X W a t := h.pt
theorem st_not (ha : ST X W a ta) : ST X W (.UnaryOp .Not a pos) (mNot ta) := by
  refine PT.imp (pt_not ha) fun σ H Q h => ?_
  obtain ⟨np, F, e, R, h⟩ := h
  refine use (Cur.refl R) h fun k e1 F1 H1 k' C1 q1 _ h1 => ?_
  have ek : k = k' := q1
  subst ek
  exact h1.ok rfl C1 rfl
theorem se_ifE (hc : ST X W c ta) (ha : SE X W a ma) (hb : SE X W b mb) : SE X W (.IfExp c a b pos) (mIfE ta ma mb) := by
  refine PE.imp (pe_ifExp hc ha hb) fun σ H Q h => ?_
  obtain ⟨np, F, e, R, h⟩ := h
  refine use (Cur.refl R) h fun k e1 F1 H1 k' C1 q1 _ h1 => ?_
  have ek : k = k' := q1
  subst ek
  cases k with
  | true => exact use1 C1 h1
  | false => exact use1 C1 h1
theorem se_one {op} (ha : SE X W a ma) : SE X W (.BoolOp op [a] pos) ma := pe_one ha
theorem se_and (ha : SE X W a ma) (hb : SE X W (.BoolOp .And (b :: rest) pos) mb) : SE X W (.BoolOp .And (a :: b :: rest) pos) (mAndV ma mb) := by
  refine PE.imp (pe_and ha hb) fun σ H Q h => ?_
  obtain ⟨np, F, e, R, h⟩ := h
  refine use (Cur.refl R) h fun r1 e1 F1 H1 x C1 q1 _ h1 => ?_
  obtain ⟨v, rv, h2⟩ := At.rd C1.rel q1 h1
  cases v with
  | bl k =>
    refine ⟨k, rv.bl, ?_⟩
    cases k with
    | true => exact use1 C1 h2
    | false => exact h2.ok rfl C1 (VR.bl false)
  | _ => exact h2.elim
theorem se_or (ha : SE X W a ma) (hb : SE X W (.BoolOp .Or (b :: rest) pos) mb) : SE X W (.BoolOp .Or (a :: b :: rest) pos) (mOrV ma mb) := by
  refine PE.imp (pe_or ha hb) fun σ H Q h => ?_
  obtain ⟨np, F, e, R, h⟩ := h
  refine use (Cur.refl R) h fun r1 e1 F1 H1 x C1 q1 _ h1 => ?_
  obtain ⟨v, rv, h2⟩ := At.rd C1.rel q1 h1
  cases v with
  | bl k =>
    refine ⟨k, rv.bl, ?_⟩
    cases k with
    | false => exact use1 C1 h2
    | true => exact h2.ok rfl C1 (VR.bl true)
  | _ => exact h2.elim
theorem se_not (ha : SE X W a ma) : SE X W (.UnaryOp .Not a pos) (mNotV ma) := by
  refine PE.imp (pe_not ha) fun σ H Q h => ?_
  obtain ⟨np, F, e, R, h⟩ := h
  refine use (Cur.refl R) h fun r1 e1 F1 H1 x C1 q1 _ h1 => ?_
  obtain ⟨v, rv, h2⟩ := At.rd C1.rel q1 h1
  cases v with
  | bl k => exact ⟨k, rv.bl, h2.ok rfl C1 (VR.bl _)⟩
  | _ => exact h2.elim
end
/-! ### argument lists, displays -/
def mNil : M (List RV) := M.ret []
def mCons (a : M RV) (r : M (List RV)) : M (List RV) := a.bind fun x => r.bind fun xs => M.ret (x :: xs)
def mTup (r : M (List RV)) : M RV := r.bind fun rs => (M.dts rs).bind fun vs => if vs.length ≤ sizeLine then M.ret (.dat (.tup vs)) else M.bad
def mLst (r : M (List RV)) : M RV := r.bind fun rs => (M.dts rs).bind fun vs => if vs.length ≤ sizeLine then M.ret (.tmp (.lst vs)) else M.bad
section
variable {X : Cx} {W : WX} {a : Expr} {es : List Expr} {ma : M RV} {mr : M (List RV)} {pos : Pos}
theorem sa_nil : SA X W [] mNil := PA.imp pa_nil fun σ H Q h => by
  obtain ⟨np, F, e, R, h⟩ := h
  exact h.ok rfl (Cur.refl R) .nil
theorem RRs.mem_tmp {K : PySem.W.Frag} {B : Bg} {F H : Hp} {e : Ev} {σ : Sig} {rs : List RV} {us : List V} (h : RRs K B F H e σ rs us) : ∀ {j : Nat} {w : Val} {u : V}, rs[j]? = some (.tmp w) → us[j]? = some u → RR K B F H e σ (.tmp w) u := by
  induction h with
  | nil => intro j w u a; simp at a
  | cons r d t ih =>
    intro j w u a b
    cases j with
    | zero => simp at a b; subst a b; exact r
    | succ j => exact ih (by simpa using a) (by simpa using b)
theorem sa_cons (ha : SE X W a ma) (hr : SA X W es mr) (hs : starEach (a :: es) X.env = (false, eval a X.env) :: starEach es X.env := by rfl) : SA X W (a :: es) (mCons ma mr) := by
  refine PA.imp (pa_cons ha hr hs) fun σ H Q h => ?_
  obtain ⟨np, F, e, R, h⟩ := h
  refine use (Cur.refl R) h fun r1 e1 F1 H1 x C1 q1 _ h1 => ?_
  refine useS (R1 := RRs X.K) C1 h1 fun rs e2 F2 H2 xs C2 q2 c2 h2 => ?_
  refine h2.ok rfl C2 (.cons (q1.carry c2) (fun v e3 j w e4 e5 => ?_) (Carry.out C1 q2))
  subst e3
  obtain ⟨t, z1, z2, z3, z4, z5⟩ := q1
  obtain ⟨o, z6⟩ := z3.some
  subst z1
  obtain ⟨t', y1, y2, y3, y4, y5⟩ := q2.mem_tmp e4 e5
  cases y1
  rcases y5 with y5 | y5
  · exact z4 y5
  · have y6 : H1 t = none := y5
    rw [z6] at y6; cases y6
theorem se_tup {k} (hr : SA X W es mr) : SE X W (.Tuple es k pos) (mTup mr) := by
  refine PE.imp (pe_tup hr) fun σ H Q h => ?_
  obtain ⟨np, F, e, R, h⟩ := h
  refine use (Cur.refl R) h fun rs e1 F1 H1 xs C1 q1 _ h1 => ?_
  obtain ⟨F2, e2, vs, C2, _, r2, h2⟩ := At.dts C1 q1 h1
  by_cases hz : vs.length ≤ sizeLine
  · rw [if_pos hz] at h2
    refine ⟨r2.length ▸ hz, fun p hp => ?_⟩
    obtain ⟨C3, s3, e3⟩ := C2.growF (o := .tup xs) hp
    exact h2.ok rfl C3 (VR.tup (SqT.of e3) (r2.mono s3))
  · rw [if_neg hz] at h2
    exact h2.elim
theorem se_lst (hr : SA X W es mr) : SE X W (.List es pos) (mLst mr) := by
  refine PE.imp (pe_lst hr) fun σ H Q h => ?_
  obtain ⟨np, F, e, R, h⟩ := h
  refine use (Cur.refl R) h fun rs e1 F1 H1 xs C1 q1 _ h1 => ?_
  obtain ⟨F2, e2, vs, C2, _, r2, h2⟩ := At.dts C1 q1 h1
  by_cases hz : vs.length ≤ sizeLine
  · rw [if_pos hz] at h2
    refine ⟨r2.length ▸ hz, fun p hp => ?_⟩
    obtain ⟨C3, n3, f3, m3⟩ := C2.grow (o := .lst xs) hp
    exact h2.ok (r := RV.tmp (.lst vs)) rfl C3 ⟨p, rfl, f3, ⟨xs, upd_same, r2⟩, n3, m3⟩
  · rw [if_neg hz] at h2
    exact h2.elim
end
end Pu
set_option Elab.async false
set_option linter.all false
set_option maxRecDepth 100000
/-! Pu, part D: operators by values. -/
namespace Pu
open PySem PySem.Spec PyProof.Rows L2
/-! ### ints -/
def oI (g : Int → Int → Val) (x y : Val) : M RV := match x, y with
  | .int i, .int j => mV (g i j)
  | _, _ => M.bad
def oIC (c : Int → Int → Prop) [∀ i j, Decidable (c i j)] (g : Int → Int → Val) (x y : Val) : M RV := match x, y with
  | .int i, .int j => if c i j then mV (g i j) else M.bad
  | _, _ => M.bad
def big : Int := 1606938044258990275541962092341162602522202993782792835301376
def cMul (i j : Int) : Prop := (-18446744073709551616 < i ∧ i < 18446744073709551616) ∨ (-18446744073709551616 < j ∧ j < 18446744073709551616) ∨ ((-1606938044258990275541962092341162602522202993782792835301376 < i ∧ i < 1606938044258990275541962092341162602522202993782792835301376) ∧ -1606938044258990275541962092341162602522202993782792835301376 < j ∧ j < 1606938044258990275541962092341162602522202993782792835301376)
def cDiv (_ j : Int) : Prop := 0 < j ∧ j < 1606938044258990275541962092341162602522202993782792835301376
def cMod (_ j : Int) : Prop := 0 < j
def cPow (i j : Int) : Prop := 0 ≤ j ∧ j ≤ 1000 ∧ -18446744073709551616 < i ∧ i < 18446744073709551616
instance : ∀ i j, Decidable (cMul i j) := fun i j => by unfold cMul; infer_instance
instance : ∀ i j, Decidable (cDiv i j) := fun i j => by unfold cDiv; infer_instance
instance : ∀ i j, Decidable (cMod i j) := fun i j => by unfold cMod; infer_instance
instance : ∀ i j, Decidable (cPow i j) := fun i j => by unfold cPow; infer_instance
section
variable {K : PySem.W.Frag} {W : WX}
theorem opv_I {g : Int → Int → Val} {g' : Int → Int → V} (hg : ∀ F i j, VR K F (g i j) (g' i j)) : OpV K W (oI g) (rI0 g') := by
  intro B F H e σ v w x y Q C rv rw_ h
  unfold oI at h
  split at h
  · exact ⟨_, _, rv.int, rw_.int, h.ok rfl C (hg _ _ _)⟩
  · exact h.elim
theorem opv_IC {c : Int → Int → Prop} [∀ i j, Decidable (c i j)] {d : Int → Int → Prop} {g : Int → Int → Val} {g' : Int → Int → V} (hc : ∀ i j, c i j → d i j) (hg : ∀ F i j, VR K F (g i j) (g' i j)) : OpV K W (oIC c g) (rI d g') := by
  intro B F H e σ v w x y Q C rv rw_ h
  unfold oIC at h
  split at h
  · rename_i i j
    by_cases hh : c i j
    · rw [if_pos hh] at h
      exact ⟨_, _, rv.int, rw_.int, hc _ _ hh, h.ok rfl C (hg _ _ _)⟩
    · rw [if_neg hh] at h
      exact h.elim
  · exact h.elim
theorem natAbs_lt {i : Int} {n : Nat} (a : -(n : Int) < i) (b : i < (n : Int)) : i.natAbs < n := by omega
theorem mulD {i j : Int} (h : cMul i j) : CMul i j ∨ CMulW i j := by
  rcases h with h | h | ⟨⟨h1, h2⟩, h3, h4⟩
  · exact .inl (.inl h)
  · exact .inl (.inr h)
  · exact .inr (wide_mul (a := 200) (b := 200) (natAbs_lt (by simpa using h1) (by simpa using h2)) (natAbs_lt (by simpa using h3) (by simpa using h4)) (by decide) (by decide) (by decide))
theorem op_mulP {X : Cx} : OpR X (binaryOp .Mult) (rI (fun i j => CMul i j ∨ CMulW i j) fun i j => .int (i * j)) := by
  intro pins s σ H x y v u Q I rx ry h
  obtain ⟨i, j, rfl, rfl, c, q⟩ := h
  rcases c with c | c
  · exact op_mul pins s σ H _ _ v u Q I rx ry ⟨i, j, rfl, rfl, c, q⟩
  · exact op_mulW pins s σ H _ _ v u Q I rx ry ⟨i, j, rfl, rfl, c, q⟩
theorem divD {i j : Int} (h : cDiv i j) : CDivW i j := wide_div h.1 (b := 200) (natAbs_lt (by have := h.1; simp; omega) (by simpa using h.2)) (by decide) (by decide)
def oSub := oI fun i j => .int (i - j)
def oMul := oIC cMul fun i j => .int (i * j)
def oDiv := oIC cDiv fun i j => .int (i / j)
def oMod := oIC cMod fun i j => .int (i % j)
def oPow := oIC cPow fun i j => .int (i ^ j.toNat)
def oLt := oI fun i j => .bl (decide (i < j))
def oLe := oI fun i j => .bl (decide (i ≤ j))
def oGt := oI fun i j => .bl (decide (j < i))
def oGe := oI fun i j => .bl (decide (j ≤ i))
theorem v_sub : OpV K W oSub (rI0 fun i j => .int (i - j)) := opv_I fun _ _ _ => .int _
theorem v_mul : OpV K W oMul (rI (fun i j => CMul i j ∨ CMulW i j) fun i j => .int (i * j)) := opv_IC (fun _ _ h => mulD h) fun _ _ _ => .int _
theorem v_div : OpV K W oDiv (rI CDivW fun i j => .int (i / j)) := opv_IC (fun _ _ h => divD h) fun _ _ _ => .int _
theorem v_mod : OpV K W oMod (rI (fun _ j => 0 < j) fun i j => .int (i % j)) := opv_IC (fun _ _ h => h) fun _ _ _ => .int _
theorem powD {i j : Int} (h : cPow i j) : CPow i j := ⟨h.1, by have := h.2.1; omega, natAbs_lt (by simpa using h.2.2.1) (by simpa using h.2.2.2)⟩
theorem v_pow : OpV K W oPow (rI CPow fun i j => .int (i ^ j.toNat)) := opv_IC (fun _ _ h => powD h) fun _ _ _ => .int _
theorem v_lt : OpV K W oLt (rI0 fun i j => .bl (decide (i < j))) := opv_I fun _ _ _ => .bl _
theorem v_le : OpV K W oLe (rI0 fun i j => .bl (decide (i ≤ j))) := opv_I fun _ _ _ => .bl _
theorem v_gt : OpV K W oGt (rI0 fun i j => .bl (decide (j < i))) := opv_I fun _ _ _ => .bl _
theorem v_ge : OpV K W oGe (rI0 fun i j => .bl (decide (j ≤ i))) := opv_I fun _ _ _ => .bl _
theorem b_I {p : Int → Int → Bool} : ∀ v w e r' e', oI (fun i j => .bl (p i j)) v w e = .ok r' e' → ∃ b, r' = .dat (.bl b) := by
  intro v w e r' e' h
  unfold oI at h
  split at h
  · unfold mV M.ret at h; cases h; exact ⟨_, rfl⟩
  · cases h
/-! ### + -/
def oAdd (x y : Val) : M RV := match x, y with
  | .int i, .int j => mV (.int (i + j))
  | .str a, .str b => if a.length + b.length ≤ sizeLine then mV (.str (a ++ b)) else M.bad
  | .lst a, .lst b => if a.length + b.length ≤ sizeLine then M.ret (.tmp (.lst (a ++ b))) else M.bad
  | .tup a, .tup b => if a.length + b.length ≤ sizeLine ∧ a ≠ [] then mV (.tup (a ++ b)) else M.bad
  | _, _ => M.bad
/-- list + list, both read -/
def rCatR : R2 := fun x y H Q => ∃ l b xs zs, x = .ref l ∧ y = .ref b ∧ Rd H l (.lst xs) ∧ Rd H b (.lst zs) ∧ xs.length + zs.length ≤ sizeLine ∧ ∀ p, H p = none → Q (.ref p) (upd H p (.lst (xs ++ zs)))
theorem op_catR {X : Cx} : OpR X (binaryOp .Add) rCatR := by
  intro pins s σ H x y v u Q I rx ry h
  obtain ⟨l, b, xs, zs, rfl, rfl, h1, h2, hz, q⟩ := h
  obtain rfl : v = Value.ref l := rx
  obtain rfl : u = Value.ref b := ry
  obtain ⟨z1, its, n, r, e1⟩ := h1.ok I.hok
  obtain ⟨z2, jts, m, r2, e2⟩ := h2.ok I.hok
  have l1 := r.length
  have l2 := r2.length
  refine PySem.P.add_list e1 e2 ?_ (by simp only [List.size_toArray]; omega)
  have ea : its.toArray ++ jts.toArray = (its ++ jts).toArray := by simp
  rw [ea]
  refine ⟨.ref s.heap.objs.size, _, I.laid (t' := s.toks) (o := .lst (xs ++ zs)) (fun _ _ z => Heap.get?_push_of_some _ z) (Nat.le_refl _) ?_, rfl, q _ (I.hok.fresh (Nat.le_refl _))⟩
  exact ⟨by rw [List.length_append]; exact hz, its ++ jts, 0, r.append r2, Heap.get?_push_size _ rfl⟩
def rAddA (K : PySem.W.Frag) : R2 := fun x y H Q => (rI0 fun i j => .int (i + j)) x y H Q ∨ (∃ i j, x = .str i ∧ y = .str j ∧ i.length + j.length ≤ sizeLine ∧ Q (.str (i ++ j)) H) ∨ rCatR x y H Q ∨ rCatT K x y H Q
theorem op_addA {X : Cx} : OpR X (binaryOp .Add) (rAddA X.K) := OpR.or op_add (OpR.or op_add_str (OpR.or op_catR op_catT))
theorem VRs.ne {F : Hp} {vs : List Val} {us : List V} (h : VRs K F vs us) : us = [] ↔ vs = [] := by cases h <;> simp
theorem v_add : OpV K W oAdd (rAddA K) := by
  intro B F H e σ v w x y Q C rv rw_ h
  unfold oAdd at h
  split at h
  · exact .inl ⟨_, _, rv.int, rw_.int, h.ok rfl C (VR.int _)⟩
  · rename_i a b
    by_cases hz : a.length + b.length ≤ sizeLine
    · rw [if_pos hz] at h
      exact .inr (.inl ⟨_, _, rv.str, rw_.str, hz, h.ok rfl C (VR.str _)⟩)
    · rw [if_neg hz] at h
      exact h.elim
  · rename_i a b
    by_cases hz : a.length + b.length ≤ sizeLine
    · rw [if_pos hz] at h
      obtain ⟨p, us, rfl, h1, h2⟩ := rv.lst C.rel.sub
      obtain ⟨q, ws, rfl, h3, h4⟩ := rw_.lst C.rel.sub
      refine .inr (.inr (.inl ⟨p, q, us, ws, rfl, rfl, h1, h3, by rw [← h2.length, ← h4.length]; exact hz, fun t ht => ?_⟩))
      obtain ⟨C3, n3, f3, m3⟩ := C.grow (o := .lst (us ++ ws)) ht
      exact h.ok (r := RV.tmp (.lst (a ++ b))) rfl C3 ⟨t, rfl, f3, ⟨_, upd_same, h2.append h4⟩, n3, m3⟩
    · rw [if_neg hz] at h
      exact h.elim
  · rename_i a b
    by_cases hz : a.length + b.length ≤ sizeLine ∧ a ≠ []
    · rw [if_pos hz] at h
      obtain ⟨p, us, rfl, h1, h2⟩ := rv.tup C.rel.sub
      obtain ⟨q, ws, rfl, h3, h4⟩ := rw_.tup C.rel.sub
      refine .inr (.inr (.inr ⟨p, q, us, ws, rfl, rfl, h1, h3, fun z => hz.2 (h2.ne.mp z), by rw [← h2.length, ← h4.length]; exact hz.1, fun z => ?_, fun _ t ht => ?_⟩))
      · have eb : b = [] := h4.ne.mp z
        subst eb
        rw [List.append_nil] at h
        refine h.ok rfl C ?_
        rcases rv with rv | ⟨t, _, z⟩
        · exact rv
        · exact z.elim
      · obtain ⟨C3, s3, e3⟩ := C.growF (o := .tup (us ++ ws)) ht
        exact h.ok rfl C3 (VR.tup (SqT.of e3) ((h2.append h4).mono s3))
    · rw [if_neg hz] at h
      exact h.elim
  · exact h.elim
end
end Pu
set_option Elab.async false
set_option linter.all false
set_option maxRecDepth 100000
/-! Pu, part E: ==, repr, is, in, subscripts, slices, built-in functions. -/
namespace Pu
open PySem PySem.Spec PyProof.Rows L2
/-! ### trees as data -/
mutual
def toP : Val → PyData
  | .non => .none
  | .bl b => .bool b
  | .int i => .int i
  | .str x => .str x
  | .tup xs => .tuple (toPs xs)
  | .lst xs => .list (toPs xs)
  | .ty _ => .none
  | .glo _ => .none
  | .obj _ _ _ => .none
def toPs : List Val → List PyData
  | [] => []
  | x :: xs => toP x :: toPs xs
end
mutual
def isD : Val → Bool
  | .non => true
  | .bl _ => true
  | .int _ => true
  | .str x => PyData.strOk x
  | .tup xs => isDs xs
  | .lst xs => isDs xs
  | .ty _ => false
  | .glo _ => false
  | .obj _ _ _ => false
def isDs : List Val → Bool
  | [] => true
  | x :: xs => isD x && isDs xs
end
mutual
def dep : Val → Nat
  | .tup xs => deps xs + 1
  | .lst xs => deps xs + 1
  | .non => 0
  | .bl _ => 0
  | .int _ => 0
  | .str _ => 0
  | .ty _ => 0
  | .glo _ => 0
  | .obj _ _ _ => 0
def deps : List Val → Nat
  | [] => 0
  | x :: xs => max (dep x) (deps xs)
end
mutual
def iOk : Val → Bool
  | .int i => decide (-1606938044258990275541962092341162602522202993782792835301376 < i ∧ i < 1606938044258990275541962092341162602522202993782792835301376)
  | .tup xs => iOks xs
  | .lst xs => iOks xs
  | .non => true
  | .bl _ => true
  | .str _ => true
  | .ty _ => true
  | .glo _ => true
  | .obj _ _ _ => true
def iOks : List Val → Bool
  | [] => true
  | x :: xs => iOk x && iOks xs
end
mutual
def rsz : Val → Nat
  | .non => 4
  | .bl _ => 5
  | .int _ => 202
  | .str x => 10 * x.length + 2
  | .tup xs => rszs xs + 3
  | .lst xs => rszs xs + 3
  | .ty _ => 4
  | .glo _ => 4
  | .obj _ _ _ => 4
def rszs : List Val → Nat
  | [] => 0
  | x :: xs => rsz x + 2 + rszs xs
end
mutual
theorem canLay_of : ∀ v : Val, isD v = true → PyData.canLay0 (toP v) = true
  | .non, _ => rfl
  | .bl _, _ => rfl
  | .int _, _ => rfl
  | .str x, h => by simpa [isD, toP, PyData.canLay0] using h
  | .tup xs, h => by simpa [toP, PyData.canLay0] using canLays_of xs (by simpa [isD] using h)
  | .lst xs, h => by simpa [toP, PyData.canLay0] using canLays_of xs (by simpa [isD] using h)
  | .ty _, h => by simp [isD] at h
  | .glo _, h => by simp [isD] at h
  | .obj _ _ _, h => by simp [isD] at h
theorem canLays_of : ∀ xs : List Val, isDs xs = true → PyData.canLayAll0 (toPs xs) = true
  | [], _ => rfl
  | x :: xs, h => by
    have h' : isD x = true ∧ isDs xs = true := by simpa [isDs] using h
    simp [toPs, PyData.canLayAll0, canLay_of x h'.1, canLays_of xs h'.2]
end
mutual
theorem depth_of : ∀ v : Val, (toP v).depth = dep v
  | .non => by simp [toP, PyData.depth, dep]
  | .bl _ => by simp [toP, PyData.depth, dep]
  | .int _ => by simp [toP, PyData.depth, dep]
  | .str x => by simp [toP, PyData.depth, dep]
  | .tup xs => by simp [toP, PyData.depth, dep, depths_of xs]
  | .lst xs => by simp [toP, PyData.depth, dep, depths_of xs]
  | .ty _ => by simp [toP, PyData.depth, dep]
  | .glo _ => by simp [toP, PyData.depth, dep]
  | .obj _ _ _ => by simp [toP, PyData.depth, dep]
theorem depths_of : ∀ xs : List Val, PyData.depthAll (toPs xs) = deps xs
  | [] => by simp [toPs, PyData.depthAll, deps]
  | x :: xs => by simp [toPs, PyData.depthAll, deps, depth_of x, depths_of xs]
end
theorem shaped_of {v : Val} (h : isD v = true) (d : dep v ≤ 60) : SeqAt.shaped (toP v) = true := by
  unfold SeqAt.shaped
  rw [canLay_of v h, depth_of v]
  simp; omega
section
variable {K : PySem.W.Frag} {W : WX} {B : Bg} {F H : Hp} {e : Ev} {σ : Sig}
mutual
theorem VR.dp (s : Same F H) : ∀ (v : Val) (u : V), VR K F v u → isD v = true → Dp K H u (toP v)
  | .non, _, h, _ => by cases h; exact .non
  | .bl b, _, h, _ => by cases h; exact .bl b
  | .int i, _, h, _ => by cases h; exact .int i
  | .str x, _, h, _ => by cases h; exact .str x
  | .tup xs, _, h, d => by
    cases h with
    | tup h1 h2 => exact .tup (sqT_mono s h1) (VRs.dp s xs _ h2 (by simpa [isD] using d))
  | .lst xs, _, h, d => by
    cases h with
    | lst h1 h2 => exact .lst (.inl (rd_mono s h1)) (VRs.dp s xs _ h2 (by simpa [isD] using d))
  | .ty _, _, _, d => by simp [isD] at d
  | .glo _, _, _, d => by simp [isD] at d
  | .obj _ _ _, _, _, d => by simp [isD] at d
theorem VRs.dp (s : Same F H) : ∀ (xs : List Val) (us : List V), VRs K F xs us → isDs xs = true → DpAll K H us (toPs xs)
  | [], _, h, _ => by cases h; exact .nil
  | x :: xs, _, h, d => by
    have h' : isD x = true ∧ isDs xs = true := by simpa [isDs] using d
    cases h with
    | cons h1 h2 => exact .cons (VR.dp s x _ h1 h'.1) (VRs.dp s xs _ h2 h'.2)
end
theorem RdR.dp {v : Val} {u : V} (s : Same F H) (h : RdR K F H v u) (d : isD v = true) : Dp K H u (toP v) := by
  rcases h with h | ⟨t, e, h⟩
  · exact VR.dp s v u h d
  · subst e
    cases v with
    | lst xs =>
      obtain ⟨us, h1, h2⟩ := h
      exact .lst (.inl (.inl h1)) (VRs.dp s xs _ h2 (by simpa [isD] using d))
    | obj _ _ _ => simp [isD] at d
    | _ => exact h.elim
/-- x == y of data -/
def veq (x y : Val) : Bool := PyData.eqv (toP x) (toP y)
def dOk (v : Val) : Bool := isD v && decide (dep v ≤ 60)
def oEq (x y : Val) : M RV := match x, y with
  | .str a, .str b => mV (.bl (decide (a = b)))
  | x, y => if dOk x && dOk y then mV (.bl (veq x y)) else M.bad
def oNe (x y : Val) : M RV := match x, y with
  | .str a, .str b => mV (.bl (!decide (a = b)))
  | x, y => if dOk x && dOk y then mV (.bl (!veq x y)) else M.bad
def rEqA (K : PySem.W.Frag) : R2 := fun x y H Q => rEqD K x y H Q ∨ rEq x y H Q
def rNeA (K : PySem.W.Frag) : R2 := fun x y H Q => rNeD K x y H Q ∨ rNe x y H Q
theorem op_eqA {X : Cx} (hu : X.A.units + 64 < cLine) : OpR X (compareOp .Eq) (rEqA X.K) := OpR.or (op_eqD hu) op_eq
theorem op_neA {X : Cx} (hu : X.A.units + 64 < cLine) : OpR X (compareOp .NotEq) (rNeA X.K) := OpR.or (op_neD hu) op_ne
theorem str_dec {a b : Str} : decide (V.str a = V.str b) = decide (a = b) := by
  by_cases h : a = b
  · rw [decide_eq_true h, decide_eq_true (by rw [h])]
  · rw [decide_eq_false h, decide_eq_false (fun z => h (by cases z; rfl))]
theorem v_eq : OpV K W oEq (rEqA K) := by
  intro B F H e σ v w x y Q C rv rw_ h
  unfold oEq at h
  split at h
  · rename_i a b
    refine .inr ?_
    rw [rv.str, rw_.str]
    exact ⟨rfl, h.ok rfl C (by rw [str_dec]; exact VR.bl _)⟩
  · by_cases hh : (dOk v && dOk w) = true
    · rw [if_pos hh] at h
      simp only [dOk, Bool.and_eq_true, decide_eq_true_eq] at hh
      exact .inl ⟨toP v, toP w, rv.dp C.rel.sub hh.1.1, rw_.dp C.rel.sub hh.2.1, shaped_of hh.1.1 hh.1.2, shaped_of hh.2.1 hh.2.2, h.ok rfl C (VR.bl _)⟩
    · rw [if_neg hh] at h
      exact h.elim
theorem v_ne : OpV K W oNe (rNeA K) := by
  intro B F H e σ v w x y Q C rv rw_ h
  unfold oNe at h
  split at h
  · rename_i a b
    refine .inr ?_
    rw [rv.str, rw_.str]
    exact ⟨rfl, h.ok rfl C (by rw [str_dec]; exact VR.bl _)⟩
  · by_cases hh : (dOk v && dOk w) = true
    · rw [if_pos hh] at h
      simp only [dOk, Bool.and_eq_true, decide_eq_true_eq] at hh
      exact .inl ⟨toP v, toP w, rv.dp C.rel.sub hh.1.1, rw_.dp C.rel.sub hh.2.1, shaped_of hh.1.1 hh.1.2, shaped_of hh.2.1 hh.2.2, h.ok rfl C (VR.bl _)⟩
    · rw [if_neg hh] at h
      exact h.elim
theorem b_eq : ∀ v w e r' e', oEq v w e = .ok r' e' → ∃ b, r' = .dat (.bl b) := by
  intro v w e r' e' h
  unfold oEq at h
  split at h
  · cases h; exact ⟨_, rfl⟩
  · split at h
    · unfold mV M.ret at h; cases h; exact ⟨_, rfl⟩
    · cases h
theorem b_ne : ∀ v w e r' e', oNe v w e = .ok r' e' → ∃ b, r' = .dat (.bl b) := by
  intro v w e r' e' h
  unfold oNe at h
  split at h
  · cases h; exact ⟨_, rfl⟩
  · split at h
    · unfold mV M.ret at h; cases h; exact ⟨_, rfl⟩
    · cases h
/-! ### is None, in -/
def isNon : Val → Bool
  | .non => true
  | _ => false
def oIs (x y : Val) : M RV := if isNon y then mV (.bl (isNon x)) else M.bad
def oIsN (x y : Val) : M RV := if isNon y then mV (.bl (!isNon x)) else M.bad
theorem isNon_of {v : Val} {x : V} (r : RdR K F H v x) : decide (x = .non) = isNon v := by
  rcases r with r | ⟨t, e, _⟩
  · cases r <;> simp [isNon]
  · rename_i h
    subst e
    cases v <;> first | exact h.elim | rfl
theorem v_is : OpV K W oIs (fun x y H Q => y = .non ∧ Q (.bl (decide (x = .non))) H) := by
  intro B F H e σ v w x y Q C rv rw_ h
  unfold oIs at h
  cases w with
  | non =>
    have h : At K W (RR K) B (mV (.bl (isNon v))) F e σ H Q := h
    exact ⟨rw_.non, h.ok rfl C (by rw [isNon_of rv]; exact VR.bl _)⟩
  | _ => exact h.elim
theorem v_isN : OpV K W oIsN (fun x y H Q => y = .non ∧ Q (.bl (!decide (x = .non))) H) := by
  intro B F H e σ v w x y Q C rv rw_ h
  unfold oIsN at h
  cases w with
  | non =>
    have h : At K W (RR K) B (mV (.bl (!isNon v))) F e σ H Q := h
    exact ⟨rw_.non, h.ok rfl C (by rw [isNon_of rv]; exact VR.bl _)⟩
  | _ => exact h.elim
theorem b_is : ∀ v w e r' e', oIs v w e = .ok r' e' → ∃ b, r' = .dat (.bl b) := by
  intro v w e r' e' h
  unfold oIs at h
  split at h
  · unfold mV M.ret at h; cases h; exact ⟨_, rfl⟩
  · cases h
theorem b_isN : ∀ v w e r' e', oIsN v w e = .ok r' e' → ∃ b, r' = .dat (.bl b) := by
  intro v w e r' e' h
  unfold oIsN at h
  split at h
  · unfold mV M.ret at h; cases h; exact ⟨_, rfl⟩
  · cases h
def flat : Val → Bool
  | .non => true
  | .bl _ => true
  | .int _ => true
  | .str _ => true
  | _ => false
/-- x in xs, flat items -/
def inF (x : Val) (xs : List Val) : Bool := xs.any fun y => veq y x
def items? : Val → Option (List Val)
  | .lst xs => some xs
  | .tup xs => some xs
  | _ => none
def oInG (n : Bool) (x y : Val) : M RV := match y with
  | .lst xs => if flat x && xs.all flat then mV (.bl (if n then !inF x xs else inF x xs)) else M.bad
  | .tup xs => if flat x && xs.all flat then mV (.bl (if n then !inF x xs else inF x xs)) else M.bad
  | _ => M.bad
theorem flat_of {v : Val} {u : V} (r : VR K F v u) (f : flat v = true) : flatV u = true := by cases r <;> first | rfl | (exfalso; simp [flat] at f; done)
theorem eqV_of {v w : Val} {x y : V} (r : VR K F v x) (q : VR K F w y) (f : flat v = true) (g : flat w = true) : eqV x y = veq v w := by
  cases r <;> cases q <;> first | rfl | (exfalso; simp [flat] at f; done) | (exfalso; simp [flat] at g; done)
theorem flats_of {vs : List Val} {us : List V} (r : VRs K F vs us) (f : vs.all flat = true) : us.all flatV = true := by
  induction vs generalizing us with
  | nil => cases r; rfl
  | cons v vs ih =>
    cases r with
    | cons a b =>
      simp only [List.all_cons, Bool.and_eq_true] at f ⊢
      exact ⟨flat_of a f.1, ih b f.2⟩
theorem inV_of {v : Val} {x : V} (r : VR K F v x) (g : flat v = true) {vs : List Val} {us : List V} (q : VRs K F vs us) (f : vs.all flat = true) : inV x us = inF v vs := by
  unfold inV inF
  induction vs generalizing us with
  | nil => cases q; rfl
  | cons w vs ih =>
    cases q with
    | cons a b =>
      simp only [List.all_cons, Bool.and_eq_true] at f
      rw [List.any_cons, List.any_cons, eqV_of a r f.1 g, ih b f.2]
theorem RdR.flat {v : Val} {u : V} (h : RdR K F H v u) (f : Pu.flat v = true) : VR K F v u := by
  rcases h with h | ⟨t, e, h⟩
  · exact h
  · cases v with
    | lst xs => cases f
    | tup xs => cases f
    | obj _ _ _ => cases f
    | ty _ => cases f
    | glo _ => cases f
    | non => exact h.elim
    | bl _ => exact h.elim
    | int _ => exact h.elim
    | str _ => exact h.elim
theorem v_in (n : Bool) : OpV K W (oInG n) (rIn K n) := by
  intro B F H e σ v w x y Q C rv rw_ h
  unfold oInG at h
  split at h
  · rename_i xs
    by_cases hh : (Pu.flat v && xs.all Pu.flat) = true
    · rw [if_pos hh] at h
      rw [Bool.and_eq_true] at hh
      obtain ⟨p, us, rfl, h1, h2⟩ := rw_.lst C.rel.sub
      have q := rv.flat hh.1
      refine ⟨p, us, rfl, .inl (.inl h1), flat_of q hh.1, flats_of h2 hh.2, h.ok rfl C ?_⟩
      rw [inV_of q hh.1 h2 hh.2]
      exact VR.bl _
    · rw [if_neg hh] at h
      exact h.elim
  · rename_i xs
    by_cases hh : (Pu.flat v && xs.all Pu.flat) = true
    · rw [if_pos hh] at h
      rw [Bool.and_eq_true] at hh
      obtain ⟨p, us, rfl, h1, h2⟩ := rw_.tup C.rel.sub
      have q := rv.flat hh.1
      refine ⟨p, us, rfl, .inr h1, flat_of q hh.1, flats_of h2 hh.2, h.ok rfl C ?_⟩
      rw [inV_of q hh.1 h2 hh.2]
      exact VR.bl _
    · rw [if_neg hh] at h
      exact h.elim
  · exact h.elim
theorem b_in {n : Bool} : ∀ v w e r' e', oInG n v w e = .ok r' e' → ∃ b, r' = .dat (.bl b) := by
  intro v w e r' e' h
  unfold oInG at h
  split at h
  · split at h
    · unfold mV M.ret at h; cases h; exact ⟨_, rfl⟩
    · cases h
  · split at h
    · unfold mV M.ret at h; cases h; exact ⟨_, rfl⟩
    · cases h
  · cases h
/-! ### a[i] -/
def oIx (x y : Val) : M RV := match x, y with
  | .lst xs, .int i => match atI xs i with
    | some v => mV v
    | none => M.bad
  | .tup xs, .int i => match atI xs i with
    | some v => mV v
    | none => M.bad
  | .str z, .int i => if z.length ≤ sizeLine then (match atI z.cps.toList i with
    | some c => mV (.str ⟨#[c]⟩)
    | none => M.bad) else M.bad
  | _, _ => M.bad
theorem atI_of {vs : List Val} {us : List V} (r : VRs K F vs us) {i : Int} {v : Val} (h : atI vs i = some v) : ∃ u, atI us i = some u ∧ VR K F v u := by
  unfold atI at h ⊢
  rw [← r.length]
  cases q : ixN vs.length i with
  | none => rw [q] at h; cases h
  | some j =>
    rw [q] at h
    exact r.get h
theorem v_ix : OpV K W oIx (rIx K) := by
  intro B F H e σ v w x y Q C rv rw_ h
  unfold oIx at h
  split at h
  · rename_i xs i
    split at h
    · rename_i z hz
      obtain ⟨p, us, rfl, h1, h2⟩ := rv.lst C.rel.sub
      obtain ⟨u, h3, h4⟩ := atI_of h2 hz
      exact .inl ⟨p, us, i, u, rfl, rw_.int, .inl h1, h3, h.ok rfl C h4⟩
    · exact h.elim
  · rename_i xs i
    split at h
    · rename_i z hz
      obtain ⟨p, us, rfl, h1, h2⟩ := rv.tup C.rel.sub
      obtain ⟨u, h3, h4⟩ := atI_of h2 hz
      exact .inr (.inl ⟨p, us, i, u, rfl, rw_.int, h1, h3, h.ok rfl C h4⟩)
    · exact h.elim
  · rename_i z i
    by_cases hz : z.length ≤ sizeLine
    · rw [if_pos hz] at h
      split at h
      · rename_i c hc
        exact .inr (.inr ⟨z, i, c, rv.str, rw_.int, hz, hc, h.ok rfl C (VR.str _)⟩)
      · exact h.elim
    · rw [if_neg hz] at h
      exact h.elim
  · exact h.elim
end
section
variable {X : Cx} {W : WX} {a b : Expr} {ma mb : M RV} {pos : Pos}
theorem se_ix (ha : SE X W a ma) (hb : SE X W b mb) (hs : PlainIx b := by exact fun _ _ => rfl) : SE X W (.Subscript a b pos) (mBin oIx ma mb) :=
  PE.imp (pe_ix ix_seq ha hb hs) fun _ _ _ h => two v_ix h
end
end Pu
set_option Elab.async false
set_option linter.all false
set_option maxRecDepth 100000
/-! Pu, part G: built-in functions. -/
namespace Pu
open PySem PySem.Spec PyProof.Rows L2
theorem CallR.or {X : Cx} {f : Value} {r r' : List V → Hp → VK → Prop} (h : CallR X f r) (h' : CallR X f r') : CallR X f (fun xs H Q => r xs H Q ∨ r' xs H Q) := by
  intro pins s σ H xs us Q I rs q
  rcases q with q | q
  · exact h pins s σ H xs us Q I rs q
  · exact h' pins s σ H xs us Q I rs q
def FnV (K : PySem.W.Frag) (W : WX) (f : List Val → M RV) (r : List V → Hp → VK → Prop) : Prop := ∀ {B : Bg} {F H : Hp} {e : Ev} {σ : Sig} {vs : List Val} {us : List V} {Q : VK}, Cur K B F H e σ → RdRs K F H vs us → At K W (RR K) B (f vs) F e σ H Q → r us H Q
def mCB (f : List Val → M RV) (ms : M (List RV)) : M RV := ms.bind fun rs => (M.rds rs).bind fun vs => f vs
section
variable {X : Cx} {W : WX} {a : Expr} {es : List Expr} {ms : M (List RV)} {x : Str} {p pos : Pos} {f : List Val → M RV} {r : List V → Hp → VK → Prop} {id T : String}
theorem cb {K : PySem.W.Frag} (hv : FnV K W f r) {σ : Sig} {H : Hp} {Q : VK} (h : tE K W (mCB f ms) σ H Q) : tCB r (tA K W ms) σ H Q := by
  obtain ⟨np, F, e, R, h⟩ := h
  refine use (Cur.refl R) h fun rs e1 F1 H1 us C1 q1 _ h1 => ?_
  obtain ⟨vs, rv, h2⟩ := At.rds C1.rel q1 h1
  exact hv C1 rv h2
theorem se_callB (hc : CallR X (.builtin id) r) (hv : FnV X.K W f r) (gl : Gl X x) (fr : X.mg x = none) (ha : SA X W (a :: es) ms) (hb : bootBuiltins x = some (.builtin id) := by decide +kernel) (hn : x ≠ "__name__" := by decide) (hd : (x == ("__debug__" : Str)) = false := by decide)
    (h1 : starEach (a :: es) X.env = (false, eval a X.env) :: starEach es X.env := by rfl) (h2 : (backTo pos (starEach es X.env)).any (·.1) = false := by rfl) : SE X W (.Call (.Name x p) (a :: es) [] pos) (mCB f ms) :=
  PE.imp (pe_callB hc gl fr hb ha hn hd h1 h2) fun _ _ _ h => cb hv h
theorem se_callT (hc : CallR X (.type T) r) (hv : FnV X.K W f r) (gl : Gl X x) (fr : X.mg x = none) (ha : SA X W (a :: es) ms) (hb : bootBuiltins x = some (.type T) := by decide +kernel) (hn : x ≠ "__name__" := by decide) (hd : (x == ("__debug__" : Str)) = false := by decide)
    (h1 : starEach (a :: es) X.env = (false, eval a X.env) :: starEach es X.env := by rfl) (h2 : (backTo pos (starEach es X.env)).any (·.1) = false := by rfl) : SE X W (.Call (.Name x p) (a :: es) [] pos) (mCB f ms) :=
  PE.imp (pe_callTy hc gl fr hb ha hn hd h1 h2) fun _ _ _ h => cb hv h
end
/-! ### their values -/
def fLen (vs : List Val) : M RV := match vs with
  | [.lst xs] => mV (.int xs.length)
  | [.tup xs] => mV (.int xs.length)
  | [.str x] => if x.length ≤ sizeLine then mV (.int x.length) else M.bad
  | _ => M.bad
def fAbs (vs : List Val) : M RV := match vs with
  | [.int i] => mV (.int (if i < 0 then -i else i))
  | _ => M.bad
def fInt (vs : List Val) : M RV := match vs with
  | [.int i] => mV (.int i)
  | [.bl b] => mV (.int (if b then 1 else 0))
  | _ => M.bad
def fMax2 (vs : List Val) : M RV := match vs with
  | [.int i, .int j] => mV (.int (if j > i then j else i))
  | _ => M.bad
def fMin2 (vs : List Val) : M RV := match vs with
  | [.int i, .int j] => mV (.int (if j < i then j else i))
  | _ => M.bad
def ints? : List Val → Option (List Int)
  | [] => some []
  | .int i :: r => match ints? r with
    | some is => some (i :: is)
    | none => none
  | _ :: _ => none
def bls? : List Val → Option (List Bool)
  | [] => some []
  | .bl i :: r => match bls? r with
    | some is => some (i :: is)
    | none => none
  | _ :: _ => none
def maxL : List Int → Int
  | [] => 0
  | [i] => i
  | i :: r => max i (maxL r)
def minL : List Int → Int
  | [] => 0
  | [i] => i
  | i :: r => min i (minL r)
def fMaxL (vs : List Val) : M RV := match vs with
  | [.lst xs] => match ints? xs with
    | some (i :: is) => mV (.int (maxL (i :: is)))
    | _ => M.bad
  | _ => M.bad
def fMinL (vs : List Val) : M RV := match vs with
  | [.lst xs] => match ints? xs with
    | some (i :: is) => mV (.int (minL (i :: is)))
    | _ => M.bad
  | _ => M.bad
def fSum (vs : List Val) : M RV := match vs with
  | [.lst xs] => match ints? xs with
    | some is => mV (.int is.sum)
    | _ => M.bad
  | _ => M.bad
def fAll (vs : List Val) : M RV := match vs with
  | [.lst xs] => match bls? xs with
    | some bs => mV (.bl (bs.all id))
    | _ => M.bad
  | _ => M.bad
def fAny (vs : List Val) : M RV := match vs with
  | [.lst xs] => match bls? xs with
    | some bs => mV (.bl (bs.any id))
    | _ => M.bad
  | _ => M.bad
def fTup (vs : List Val) : M RV := match vs with
  | [.lst xs] => mV (.tup xs)
  | [.tup xs] => mV (.tup xs)
  | _ => M.bad
def fLst (vs : List Val) : M RV := match vs with
  | [.lst xs] => M.ret (.tmp (.lst xs))
  | [.tup xs] => M.ret (.tmp (.lst xs))
  | _ => M.bad
def fBool (vs : List Val) : M RV := match vs with
  | [.int i] => mV (.bl (i != 0))
  | [.bl b] => mV (.bl b)
  | _ => M.bad
/-- the text of x -/
def shownV (v : Val) : Str := (toP v).shown
def rOk (v : Val) : Bool := isD v && decide (dep v ≤ 60) && iOk v && decide (rsz v ≤ 16000000)
def fRepr (vs : List Val) : M RV := match vs with
  | [v] => if rOk v then mV (.str (shownV v)) else M.bad
  | _ => M.bad
section
variable {K : PySem.W.Frag} {W : WX}
theorem RdRs.one {F H : Hp} {v : Val} {us : List V} (h : RdRs K F H [v] us) : ∃ u, us = [u] ∧ RdR K F H v u := by
  cases h with
  | cons a b => cases b; exact ⟨_, rfl, a⟩
theorem RdRs.two {F H : Hp} {v w : Val} {us : List V} (h : RdRs K F H [v, w] us) : ∃ u z, us = [u, z] ∧ RdR K F H v u ∧ RdR K F H w z := by
  cases h with
  | cons a b => cases b with
    | cons c d => cases d; exact ⟨_, _, rfl, a, c⟩
theorem ints_of : ∀ {xs : List Val} {is : List Int} {F : Hp} {us : List V}, ints? xs = some is → VRs K F xs us → us = is.map V.int
  | [], is, F, us, h, r => by
    cases r
    cases h
    rfl
  | v :: xs, is, F, us, h, r => by
    cases v with
    | int i =>
      cases q : ints? xs with
      | none => simp only [ints?, q] at h; cases h
      | some js =>
        simp only [ints?, q] at h
        cases h
        cases r with
        | cons a b =>
          cases a
          rw [ints_of q b]
          rfl
    | _ => cases h
theorem bls_of : ∀ {xs : List Val} {is : List Bool} {F : Hp} {us : List V}, bls? xs = some is → VRs K F xs us → us = is.map V.bl
  | [], is, F, us, h, r => by
    cases r
    cases h
    rfl
  | v :: xs, is, F, us, h, r => by
    cases v with
    | bl i =>
      cases q : bls? xs with
      | none => simp only [bls?, q] at h; cases h
      | some js =>
        simp only [bls?, q] at h
        cases h
        cases r with
        | cons a b =>
          cases a
          rw [bls_of q b]
          rfl
    | _ => cases h
theorem maxL_eq : ∀ (i : Int) (is : List Int) (m : Int), m ∈ i :: is → (∀ y, y ∈ i :: is → y ≤ m) → maxL (i :: is) = m
  | i, [], m, h, g => by
    have e : m = i := by simpa using h
    rw [e]; rfl
  | i, j :: r, m, h, g => by
    have e : maxL (i :: j :: r) = max i (maxL (j :: r)) := rfl
    rw [e]
    have up : ∀ (k : Int) (l : List Int), maxL (k :: l) ∈ k :: l := by
      intro k l
      induction l generalizing k with
      | nil => simp [maxL]
      | cons a l ih =>
        have e : maxL (k :: a :: l) = max k (maxL (a :: l)) := rfl
        rw [e]
        have q := ih a
        rcases Int.le_total k (maxL (a :: l)) with z | z
        · rw [Int.max_eq_right z]; exact List.mem_cons_of_mem _ q
        · rw [Int.max_eq_left z]; exact List.mem_cons_self
    rcases List.mem_cons.mp h with h | h
    · subst h
      exact Int.max_eq_left (g _ (List.mem_cons_of_mem _ (up j r)))
    · rw [maxL_eq j r m h fun y hy => g y (List.mem_cons_of_mem _ hy)]
      exact Int.max_eq_right (g i List.mem_cons_self)
theorem minL_eq : ∀ (i : Int) (is : List Int) (m : Int), m ∈ i :: is → (∀ y, y ∈ i :: is → m ≤ y) → minL (i :: is) = m
  | i, [], m, h, g => by
    have e : m = i := by simpa using h
    rw [e]; rfl
  | i, j :: r, m, h, g => by
    have e : minL (i :: j :: r) = min i (minL (j :: r)) := rfl
    rw [e]
    have up : ∀ (k : Int) (l : List Int), minL (k :: l) ∈ k :: l := by
      intro k l
      induction l generalizing k with
      | nil => simp [minL]
      | cons a l ih =>
        have e : minL (k :: a :: l) = min k (minL (a :: l)) := rfl
        rw [e]
        have q := ih a
        rcases Int.le_total k (minL (a :: l)) with z | z
        · rw [Int.min_eq_left z]; exact List.mem_cons_self
        · rw [Int.min_eq_right z]; exact List.mem_cons_of_mem _ q
    rcases List.mem_cons.mp h with h | h
    · subst h
      exact Int.min_eq_left (g _ (List.mem_cons_of_mem _ (up j r)))
    · rw [minL_eq j r m h fun y hy => g y (List.mem_cons_of_mem _ hy)]
      exact Int.min_eq_right (g i List.mem_cons_self)
abbrev rLenA (K : PySem.W.Frag) : List V → Hp → VK → Prop := fun xs H Q => (∃ p ys, xs = [.ref p] ∧ (SqL K H p ys ∨ SqT K H p ys) ∧ Q (.int ys.length) H) ∨ (∃ z, xs = [.str z] ∧ z.length ≤ sizeLine ∧ Q (.int z.length) H)
theorem c_len {X : Cx} : CallR X (.builtin "len") (rLenA X.K) := CallR.or call_len_seq call_len_str
theorem v_len : FnV K W fLen (rLenA K) := by
  intro B F H e σ vs us Q C r h
  unfold fLen at h
  split at h
  · obtain ⟨u, rfl, q⟩ := r.one
    obtain ⟨a, us, rfl, h1, h2⟩ := q.lst C.rel.sub
    exact .inl ⟨a, us, rfl, .inl (.inl h1), h.ok rfl C (by rw [← h2.length]; exact VR.int _)⟩
  · obtain ⟨u, rfl, q⟩ := r.one
    obtain ⟨a, us, rfl, h1, h2⟩ := q.tup C.rel.sub
    exact .inl ⟨a, us, rfl, .inr h1, h.ok rfl C (by rw [← h2.length]; exact VR.int _)⟩
  · rename_i x
    obtain ⟨u, rfl, q⟩ := r.one
    by_cases hz : x.length ≤ sizeLine
    · rw [if_pos hz] at h
      exact .inr ⟨x, by rw [q.str], hz, h.ok rfl C (VR.int _)⟩
    · rw [if_neg hz] at h
      exact h.elim
  · exact h.elim
theorem v_abs : FnV K W fAbs (fun xs H Q => ∃ i, xs = [.int i] ∧ Q (.int (if i < 0 then -i else i)) H) := by
  intro B F H e σ vs us Q C r h
  unfold fAbs at h
  split at h
  · obtain ⟨u, rfl, q⟩ := r.one
    exact ⟨_, by rw [q.int], h.ok rfl C (VR.int _)⟩
  · exact h.elim
theorem v_int : FnV K W fInt (fun xs H Q => (∃ i, xs = [.int i] ∧ Q (.int i) H) ∨ ∃ k, xs = [.bl k] ∧ Q (.int (if k then 1 else 0)) H) := by
  intro B F H e σ vs us Q C r h
  unfold fInt at h
  split at h
  · obtain ⟨u, rfl, q⟩ := r.one
    exact .inl ⟨_, by rw [q.int], h.ok rfl C (VR.int _)⟩
  · obtain ⟨u, rfl, q⟩ := r.one
    exact .inr ⟨_, by rw [q.bl], h.ok rfl C (VR.int _)⟩
  · exact h.elim
theorem v_bool : FnV K W fBool (fun xs H Q => (∃ i, xs = [.int i] ∧ Q (.bl (i != 0)) H) ∨ ∃ k, xs = [.bl k] ∧ Q (.bl k) H) := by
  intro B F H e σ vs us Q C r h
  unfold fBool at h
  split at h
  · obtain ⟨u, rfl, q⟩ := r.one
    exact .inl ⟨_, by rw [q.int], h.ok rfl C (VR.bl _)⟩
  · obtain ⟨u, rfl, q⟩ := r.one
    exact .inr ⟨_, by rw [q.bl], h.ok rfl C (VR.bl _)⟩
  · exact h.elim
theorem v_max2 : FnV K W fMax2 (fun xs H Q => ∃ i j, xs = [.int i, .int j] ∧ Q (.int (if j > i then j else i)) H) := by
  intro B F H e σ vs us Q C r h
  unfold fMax2 at h
  split at h
  · obtain ⟨u, z, rfl, q1, q2⟩ := r.two
    exact ⟨_, _, by rw [q1.int, q2.int], h.ok rfl C (VR.int _)⟩
  · exact h.elim
theorem v_min2 : FnV K W fMin2 (fun xs H Q => ∃ i j, xs = [.int i, .int j] ∧ Q (.int (if j < i then j else i)) H) := by
  intro B F H e σ vs us Q C r h
  unfold fMin2 at h
  split at h
  · obtain ⟨u, z, rfl, q1, q2⟩ := r.two
    exact ⟨_, _, by rw [q1.int, q2.int], h.ok rfl C (VR.int _)⟩
  · exact h.elim
theorem v_maxL : FnV K W fMaxL (rMax K) := by
  intro B F H e σ vs us Q C r h
  unfold fMaxL at h
  split at h
  · split at h
    · rename_i xs i is hq
      obtain ⟨u, rfl, q⟩ := r.one
      obtain ⟨a, us, rfl, h1, h2⟩ := q.lst C.rel.sub
      refine ⟨a, i :: is, rfl, .inl (by rw [← ints_of hq h2]; exact h1), by simp, fun m h3 h4 => ?_⟩
      rw [← maxL_eq i is m h3 h4]
      exact h.ok rfl C (VR.int _)
    · exact h.elim
  · exact h.elim
theorem v_minL : FnV K W fMinL (rMin K) := by
  intro B F H e σ vs us Q C r h
  unfold fMinL at h
  split at h
  · split at h
    · rename_i xs i is hq
      obtain ⟨u, rfl, q⟩ := r.one
      obtain ⟨a, us, rfl, h1, h2⟩ := q.lst C.rel.sub
      refine ⟨a, i :: is, rfl, .inl (by rw [← ints_of hq h2]; exact h1), by simp, fun m h3 h4 => ?_⟩
      rw [← minL_eq i is m h3 h4]
      exact h.ok rfl C (VR.int _)
    · exact h.elim
  · exact h.elim
theorem v_sum : FnV K W fSum (rSum K) := by
  intro B F H e σ vs us Q C r h
  unfold fSum at h
  split at h
  · split at h
    · rename_i xs is hq
      obtain ⟨u, rfl, q⟩ := r.one
      obtain ⟨a, us, rfl, h1, h2⟩ := q.lst C.rel.sub
      exact ⟨a, is, rfl, .inl (by rw [← ints_of hq h2]; exact h1), h.ok rfl C (VR.int _)⟩
    · exact h.elim
  · exact h.elim
theorem v_all : FnV K W fAll (rAll K) := by
  intro B F H e σ vs us Q C r h
  unfold fAll at h
  split at h
  · split at h
    · rename_i xs is hq
      obtain ⟨u, rfl, q⟩ := r.one
      obtain ⟨a, us, rfl, h1, h2⟩ := q.lst C.rel.sub
      exact ⟨a, is, rfl, .inl (by rw [← bls_of hq h2]; exact h1), h.ok rfl C (VR.bl _)⟩
    · exact h.elim
  · exact h.elim
theorem v_any : FnV K W fAny (rAny K) := by
  intro B F H e σ vs us Q C r h
  unfold fAny at h
  split at h
  · split at h
    · rename_i xs is hq
      obtain ⟨u, rfl, q⟩ := r.one
      obtain ⟨a, us, rfl, h1, h2⟩ := q.lst C.rel.sub
      exact ⟨a, is, rfl, .inl (by rw [← bls_of hq h2]; exact h1), h.ok rfl C (VR.bl _)⟩
    · exact h.elim
  · exact h.elim
theorem v_tup : FnV K W fTup (fun xs H Q => ∃ p ys, xs = [.ref p] ∧ ((SqL K H p ys ∧ ∀ l, H l = none → Q (.ref l) (upd H l (.tup ys))) ∨ (SqT K H p ys ∧ Q (.ref p) H))) := by
  intro B F H e σ vs us Q C r h
  unfold fTup at h
  split at h
  · obtain ⟨u, rfl, q⟩ := r.one
    obtain ⟨a, us, rfl, h1, h2⟩ := q.lst C.rel.sub
    refine ⟨a, us, rfl, .inl ⟨.inl h1, fun l hl => ?_⟩⟩
    obtain ⟨C3, s3, e3⟩ := C.growF (o := .tup us) hl
    exact h.ok rfl C3 (VR.tup (SqT.of e3) (h2.mono s3))
  · obtain ⟨u, rfl, q⟩ := r.one
    have q' := q
    obtain ⟨a, us, rfl, h1, h2⟩ := q.tup C.rel.sub
    refine ⟨a, us, rfl, .inr ⟨h1, h.ok rfl C ?_⟩⟩
    rcases q' with z | ⟨_, _, z⟩
    · exact z
    · exact z.elim
  · exact h.elim
theorem v_lst : FnV K W fLst (fun xs H Q => ∃ p ys, xs = [.ref p] ∧ (SqL K H p ys ∨ SqT K H p ys) ∧ ∀ l, H l = none → Q (.ref l) (upd H l (.lst ys))) := by
  intro B F H e σ vs us Q C r h
  unfold fLst at h
  split at h
  · rename_i xs
    obtain ⟨u, rfl, q⟩ := r.one
    obtain ⟨a, us, rfl, h1, h2⟩ := q.lst C.rel.sub
    refine ⟨a, us, rfl, .inl (.inl h1), fun l hl => ?_⟩
    obtain ⟨C3, n3, f3, m3⟩ := C.grow (o := .lst us) hl
    exact h.ok (r := RV.tmp (.lst xs)) rfl C3 ⟨l, rfl, f3, ⟨us, upd_same, h2⟩, n3, m3⟩
  · rename_i xs
    obtain ⟨u, rfl, q⟩ := r.one
    obtain ⟨a, us, rfl, h1, h2⟩ := q.tup C.rel.sub
    refine ⟨a, us, rfl, .inr h1, fun l hl => ?_⟩
    obtain ⟨C3, n3, f3, m3⟩ := C.grow (o := .lst us) hl
    exact h.ok (r := RV.tmp (.lst xs)) rfl C3 ⟨l, rfl, f3, ⟨us, upd_same, h2⟩, n3, m3⟩
  · exact h.elim
end
/-! ### repr -/
theorem int_small {i : Int} (h : -1606938044258990275541962092341162602522202993782792835301376 < i ∧ i < 1606938044258990275541962092341162602522202993782792835301376) : i.natAbs.log2 < 200 :=
  PySem.Flt.log2_lt_of (by decide) (show i.natAbs < 2 ^ 200 from natAbs_lt (by simpa using h.1) (by simpa using h.2))
mutual
theorem show_ok : ∀ v : Val, isD v = true → iOk v = true → (toP v).showable = true ∧ (toP v).hasDict = false ∧ (toP v).shown.length ≤ rsz v
  | .non, _, _ => ⟨by simp [toP, PyData.showable], by simp [toP, PyData.hasDict], by simp only [toP, PyData.shown, rsz]; decide⟩
  | .bl b, _, _ => ⟨by simp [toP, PyData.showable], by simp [toP, PyData.hasDict], by simp only [toP, PyData.shown, rsz]; cases b <;> decide⟩
  | .int i, _, h => by
    have h' : i.natAbs.log2 < 200 := int_small (by simpa [iOk] using h)
    refine ⟨by simp only [toP, PyData.showable, decide_eq_true_eq]; omega, by simp [toP, PyData.hasDict], ?_⟩
    simp only [toP, PyData.shown, rsz]
    have q := int_text_length_le (a := i) (k := 200) (by decide) h'
    have e : (Str.ofString (toString i)).length = (toString i).length := PySem.ofString_length _
    show (Str.ofString (toString i)).length ≤ 202
    omega
  | .str x, d, _ => by
    refine ⟨by simp [toP, PyData.showable], by simp [toP, PyData.hasDict], ?_⟩
    simp only [toP, PyData.shown, rsz]
    refine StrLaws.reprText_len x fun c hc => ?_
    have d' : x.cps.all (· < 0x110000) = true := d
    rw [Array.all_eq_true_iff_forall_mem] at d'
    have q := d' c (Array.mem_toList_iff.mp hc)
    simp at q
    omega
  | .tup xs, d, h => by
    obtain ⟨a, b, c, e⟩ := shows_ok xs (by simpa [isD] using d) (by simpa [iOk] using h)
    refine ⟨by simpa [toP, PyData.showable] using a, by simpa [toP, PyData.hasDict] using b, ?_⟩
    simp only [toP, PyData.shown, rsz]
    have q := tupleText_len_le (PyData.shownAll (toPs xs))
    omega
  | .lst xs, d, h => by
    obtain ⟨a, b, c, e⟩ := shows_ok xs (by simpa [isD] using d) (by simpa [iOk] using h)
    refine ⟨by simpa [toP, PyData.showable] using a, by simpa [toP, PyData.hasDict] using b, ?_⟩
    simp only [toP, PyData.shown, rsz]
    have q := listText_len_le (PyData.shownAll (toPs xs))
    omega
  | .ty _, d, _ => by simp [isD] at d
  | .glo _, d, _ => by simp [isD] at d
  | .obj _ _ _, d, _ => by simp [isD] at d
theorem shows_ok : ∀ xs : List Val, isDs xs = true → iOks xs = true → PyData.showableAll (toPs xs) = true ∧ PyData.hasDictAll (toPs xs) = false ∧ ((PyData.shownAll (toPs xs)).map (·.length)).sum + 2 * (PyData.shownAll (toPs xs)).length ≤ rszs xs ∧ True
  | [], _, _ => ⟨by simp [toPs, PyData.showableAll], by simp [toPs, PyData.hasDictAll], by simp [toPs, PyData.shownAll, rszs], trivial⟩
  | x :: xs, d, h => by
    have d' : isD x = true ∧ isDs xs = true := by simpa [isDs] using d
    have h' : iOk x = true ∧ iOks xs = true := by simpa [iOks] using h
    obtain ⟨a1, b1, c1⟩ := show_ok x d'.1 h'.1
    obtain ⟨a2, b2, c2, _⟩ := shows_ok xs d'.2 h'.2
    refine ⟨by simp [toPs, PyData.showableAll, a1, a2], by simp [toPs, PyData.hasDictAll, b1, b2], ?_, trivial⟩
    simp only [toPs, PyData.shownAll, List.map_cons, List.sum_cons, List.length_cons, rszs]
    omega
end
def rRepr (K : PySem.W.Frag) : List V → Hp → VK → Prop := fun xs H Q => ∃ x d, xs = [x] ∧ Dp K H x d ∧ d.showable = true ∧ d.hasDict = false ∧ d.depth ≤ 60 ∧ d.shown.length ≤ sizeLine ∧ Q (.str d.shown) H
theorem c_repr {X : Cx} {k : Nat} (hr : Room k X.A) (hG : X.A.guards = some []) : CallR X (.builtin "repr") (rRepr X.K) := by
  intro pins s σ H xs us Q I rs h
  obtain ⟨x, d, rfl, hd, h1, h2, h3, h4, q⟩ := h
  obtain ⟨u, rfl, ru⟩ := vals1 rs
  obtain ⟨as, hreads⟩ := Dp.reads I d x u hd ru
  have un := hr.units
  cases hd with
  | non =>
    cases ru
    exact PySem.P.repr_of_none ⟨V.str _, H, I.tok _, ⟨_, rfl⟩, q⟩
  | bl b =>
    cases ru
    exact PySem.P.repr_of_bool ⟨V.str _, H, I.tok _, ⟨_, by cases b <;> rfl⟩, q⟩
  | int i =>
    obtain ⟨t, rfl⟩ := ru
    exact PySem.P.repr_of_int (by simpa [PyData.showable] using h1) ⟨V.str _, H, I.tok _, ⟨_, rfl⟩, q⟩
  | str y =>
    obtain ⟨t, rfl⟩ := ru
    exact PySem.P.repr_of_str ⟨V.str _, H, I.tok _, ⟨_, rfl⟩, q⟩ h4
  | lst hs ha =>
    cases ru
    exact repr_of_reads' hreads h1 (fun z => by rw [h2] at z; cases z) hG (by omega) (fun _ _ e => e) (fun h' u tk kk => ⟨V.str _, H, I.kept kk, ⟨_, rfl⟩, q⟩) h4
  | tup hs ha =>
    cases ru
    exact repr_of_reads' hreads h1 (fun z => by rw [h2] at z; cases z) hG (by omega) (fun _ _ e => e) (fun h' u tk kk => ⟨V.str _, H, I.kept kk, ⟨_, rfl⟩, q⟩) h4
theorem v_repr {K : PySem.W.Frag} {W : WX} : FnV K W fRepr (rRepr K) := by
  intro B F H e σ vs us Q C r h
  unfold fRepr at h
  split at h
  · rename_i v
    obtain ⟨u, rfl, q⟩ := r.one
    by_cases hh : rOk v = true
    · rw [if_pos hh] at h
      simp only [rOk, Bool.and_eq_true, decide_eq_true_eq] at hh
      obtain ⟨⟨⟨h1, h2⟩, h3⟩, h4⟩ := hh
      obtain ⟨a, b, c⟩ := show_ok v h1 h3
      exact ⟨u, toP v, rfl, q.dp C.rel.sub h1, a, b, by rw [depth_of]; exact h2, by rw [sizeLine_eq]; omega, h.ok rfl C (VR.str _)⟩
    · rw [if_neg hh] at h
      exact h.elim
  · exact h.elim
end Pu
set_option Elab.async false
set_option linter.all false
set_option maxRecDepth 100000
/-! Pu, part H: statements, loops, comprehensions. -/
namespace Pu
open PySem PySem.Spec PyProof.Rows L2
inductive Out where
  | nx | bk | ct | rt (r : RV)
abbrev S := M Out
def AtS (K : PySem.W.Frag) (W : WX) (B : Bg) (m : S) (F : Hp) (e : Ev) (σ : Sig) (H : Hp) (D : Ends) : Prop :=
  match m e with
  | .ok .nx e' => ∀ F' H' σ', Cur K B F' H' e' σ' → D.nx σ' H'
  | .ok .bk e' => ∀ F' H' σ', Cur K B F' H' e' σ' → D.bk σ' H'
  | .ok .ct e' => ∀ F' H' σ', Cur K B F' H' e' σ' → D.ct σ' H'
  | .ok (.rt r) e' => ∀ F' H' σ' u, Cur K B F' H' e' σ' → RR K B F' H' e' σ' r u → D.rt u H'
  | .rs x e' => ∀ F' H' σ' cls d, Cur K B F' H' e' σ' → XR K F' H' x cls d → W cls d σ' H'
  | .bad => False
def tS (K : PySem.W.Frag) (W : WX) (np : Nat) (m : S) : TS := fun D σ H => ∃ F e, Rel K F H e σ ∧ AtS K W (bg np F H e σ) m F e σ H D
abbrev SS (X : Cx) (W : WX) (np : Nat) (st : Stmt) (m : S) : Prop := PS X st (tS X.K W np m)
abbrev SB (X : Cx) (W : WX) (np : Nat) (b : List Stmt) (m : S) : Prop := PSs X b (tS X.K W np m)
section
variable {K : PySem.W.Frag} {W : WX} {α β : Type} {R1 : Bg → Hp → Hp → Ev → Sig → α → β → Prop} {B : Bg} {F F' H H' : Hp} {e e' : Ev} {σ σ' : Sig} {D : Ends}
/-- an expression's part of a statement -/
theorem useX [Carry K R1] {m : M α} {f : α → S} {G : β → Hp → Prop} (C : Cur K B F H e σ) (h : AtS K W B (m.bind f) F e σ H D)
    (k : ∀ r e1 F1 H1 x, Cur K B F1 H1 e1 σ → R1 B F1 H1 e1 σ r x → Cur K (bg B.np F H e σ) F1 H1 e1 σ → AtS K W B (f r) F1 e1 σ H1 D → G x H1) : tM K W R1 m σ H G := by
  refine ⟨B.np, F, e, C.rel, ?_⟩
  unfold AtS M.bind at h
  unfold At
  cases hm : m e with
  | bad => rw [hm] at h; exact h
  | rs x e' =>
    rw [hm] at h
    intro F' H' cls d C' X'
    exact h F' H' σ cls d (C.trans C') X'
  | ok r e' =>
    rw [hm] at h
    intro F' H' u C' r'
    exact k r e' F' H' u (C.trans C') (Carry.out C r') C' h
theorem AtS.base {m : S} (C : Cur K B F H e σ) (h : AtS K W B m F e σ H D) : AtS K W (bg B.np F H e σ) m F e σ H D := by
  unfold AtS at h ⊢
  cases hm : m e with
  | bad => rw [hm] at h; exact h
  | rs x e' => rw [hm] at h; exact fun F' H' σ' cls d C' X' => h F' H' σ' cls d (C.trans C') X'
  | ok o e' =>
    rw [hm] at h
    cases o with
    | nx => exact fun F' H' σ' C' => h F' H' σ' (C.trans C')
    | bk => exact fun F' H' σ' C' => h F' H' σ' (C.trans C')
    | ct => exact fun F' H' σ' C' => h F' H' σ' (C.trans C')
    | rt r => exact fun F' H' σ' u C' r' => h F' H' σ' u (C.trans C') (r'.out C)
theorem AtS.to {m : S} (C : Cur K B F H e σ) (h : AtS K W B m F e σ H D) : tS K W B.np m D σ H := ⟨F, e, C.rel, h.base C⟩
/-- a value of a statement read -/
theorem AtS.rd {r : RV} {u : V} {f : Val → S} (R0 : Rel K F H e σ) (h : RR K B F H e σ r u) (q : AtS K W B ((M.rd r).bind f) F e σ H D) : ∃ v, RdR K F H v u ∧ AtS K W B (f v) F e σ H D := by
  cases z : Pu.rd r e with
  | none =>
    unfold AtS M.bind M.rd at q
    rw [z] at q
    exact q.elim
  | some v =>
    refine ⟨v, h.rd R0 z, ?_⟩
    unfold AtS M.bind M.rd at q
    rw [z] at q
    exact q
/-- .. kept -/
theorem AtS.dt {r : RV} {u : V} {f : Val → S} (C : Cur K B F H e σ) (h : RR K B F H e σ r u) (q : AtS K W B ((M.dt r).bind f) F e σ H D) :
    ∃ F' e' v, Cur K B F' H e' σ ∧ Same F F' ∧ VR K F' v u ∧ AtS K W B (f v) F' e' σ H D ∧
      (∀ r' u', RR K B F H e σ r' u' → (∀ v w, r = .tmp v → r' = .tmp w → u' ≠ u) → RR K B F' H e' σ r' u') := by
  cases z : M.dt r e with
  | rs x e' => exact (dt_some _ _ z).elim
  | bad =>
    unfold AtS M.bind at q
    rw [z] at q
    exact q.elim
  | ok v e' =>
    obtain ⟨F', C', s, r1, keep⟩ := dt_go C h z
    refine ⟨F', e', v, C', s, r1, ?_, keep⟩
    unfold AtS M.bind at q
    rw [z] at q
    exact q
end
end Pu
set_option Elab.async false
set_option linter.all false
set_option maxRecDepth 100000
/-! Pu, part I: statements, loops. -/
namespace Pu
open PySem PySem.Spec PyProof.Rows L2
/-- what a def's body (or a block in it) may lean on -/
structure Good (X : Cx) (k : Nat) (W : WX) : Prop where
  nd : X.N.Nodup
  calm : X.calm = true
  room : Room k X.A
  gd : X.A.guards = some []
  tk : Takes X W
  po : PassesOwn (model X.prog X.w) X.A X.env X.xe
def mSeq (a b : S) : S := fun e => match a e with
  | .ok .nx e' => b e'
  | .ok .bk e' => .ok .bk e'
  | .ok .ct e' => .ok .ct e'
  | .ok (.rt r) e' => .ok (.rt r) e'
  | .rs x e' => .rs x e'
  | .bad => .bad
def mSkip : S := fun e => .ok .nx e
def mEx (m : M RV) : S := m.bind fun _ => mSkip
def mRet (m : M RV) : S := m.bind fun r => fun e => .ok (.rt r) e
def mRetN : S := fun e => .ok (.rt (.dat .non)) e
def mBk : S := fun e => .ok .bk e
def mCt : S := fun e => .ok .ct e
def mIf (c : M Bool) (a b : S) : S := c.bind fun k => if k = true then a else b
def stR (i : Nat) (r : RV) : S := match r with
  | .dat v => fun e => .ok .nx (e.set i (.dat v))
  | .tmp v => fun e => .ok .nx (e.set i (.own v))
  | .bor j => (M.dt (.bor j)).bind fun v => fun e => .ok .nx (e.set i (.dat v))
def mSet (i : Nat) (m : M RV) : S := m.bind (stR i)
/-- .. where the name is a parameter: what is stored there is kept -/
def mSetP (i : Nat) (m : M RV) : S := m.bind fun r => (M.dt r).bind fun v => fun e => .ok .nx (e.set i (.dat v))
section
variable {K : PySem.W.Frag} {W : WX} {B : Bg} {F F' H H' : Hp} {e e' : Ev} {σ σ' : Sig} {D : Ends}
theorem AtS.nx {m : S} (h : AtS K W B m F e σ H D) (hm : m e = .ok .nx e') (C : Cur K B F' H' e' σ') : D.nx σ' H' := by
  unfold AtS at h
  rw [hm] at h
  exact h F' H' σ' C
theorem AtS.rt {m : S} {r : RV} {u : V} (h : AtS K W B m F e σ H D) (hm : m e = .ok (.rt r) e') (C : Cur K B F' H' e' σ') (q : RR K B F' H' e' σ' r u) : D.rt u H' := by
  unfold AtS at h
  rw [hm] at h
  exact h F' H' σ' u C q
theorem st_ok {i : Nat} {r : RV} {u : V} (hp : B.np ≤ i) (C : Cur K B F H e σ) (q : RR K B F H e σ r u) (h : AtS K W B (stR i r) F e σ H D) : D.nx (σ.set i (some u)) H := by
  cases r with
  | dat v => exact h.nx rfl (C.setDat q)
  | tmp v =>
    obtain ⟨t, rfl, h2, h3, h4, h5⟩ := q
    exact h.nx rfl (C.setOwn h2 h3 h4 h5 hp)
  | bor j =>
    obtain ⟨F1, e1, v, C1, _, r1, h1, _⟩ := AtS.dt C q h
    exact h1.nx rfl (C1.setDat r1)
end
section
variable {X : Cx} {W : WX} {np k : Nat} {st : Stmt} {rest a b : List Stmt} {ma mb : S} {x c : Expr} {m : M RV} {mc : M Bool} {pos : Pos}
theorem sb_nil : SB X W np [] mSkip := PSs.imp pss_nil fun D σ H ⟨F, e, R, h⟩ => h.nx rfl (Cur.refl R)
theorem sb_one (h : SS X W np st ma) : SB X W np [st] ma := pss_one h
theorem sb_cons (h1 : SS X W np st ma) (h2 : SB X W np rest mb) : SB X W np (st :: rest) (mSeq ma mb) := by
  refine PSs.imp (pss_cons h1 h2) fun D σ H h => ?_
  obtain ⟨F, e, R, h⟩ := h
  refine ⟨F, e, R, ?_⟩
  unfold AtS mSeq at h
  unfold AtS
  cases z : ma e with
  | bad => rw [z] at h; exact h
  | rs x e' => rw [z] at h; exact h
  | ok o e' =>
    rw [z] at h
    cases o with
    | nx =>
      intro F' H' σ' C
      exact AtS.to C (show AtS X.K W (bg np F H e σ) mb F' e' σ' H' D from h)
    | bk => exact h
    | ct => exact h
    | rt r => exact h
theorem ss_expr (hm : SE X W x m) (hs : swapsWith x none pos.line X.env = pure false := by rfl) : SS X W np (.Expr x pos) (mEx m) := by
  refine PS.imp (ps_expr hm hs) fun D σ H h => ?_
  obtain ⟨F, e, R, h⟩ := h
  exact useX (R1 := RR X.K) (Cur.refl R) h fun r e1 F1 H1 u C1 q1 _ h1 => h1.nx rfl C1
theorem ss_ret (hm : SE X W x m) : SS X W np (.Return (some x) pos) (mRet m) := by
  refine PS.imp (ps_ret hm) fun D σ H h => ?_
  obtain ⟨F, e, R, h⟩ := h
  exact useX (R1 := RR X.K) (Cur.refl R) h fun r e1 F1 H1 u C1 q1 _ h1 => h1.rt rfl C1 q1
theorem ss_retN : SS X W np (.Return none pos) mRetN := PS.imp ps_retN fun D σ H ⟨F, e, R, h⟩ => h.rt rfl (Cur.refl R) VR.non
theorem ss_pass : SS X W np (.Pass pos) mSkip := PS.imp ps_pass fun D σ H ⟨F, e, R, h⟩ => h.nx rfl (Cur.refl R)
theorem ss_doc {z j pos'} : SS X W np (.Expr (.Constant (.str z) j pos) pos') mSkip := PS.imp ps_doc fun D σ H ⟨F, e, R, h⟩ => h.nx rfl (Cur.refl R)
theorem ss_brk : SS X W np (.Break pos) mBk := PS.imp ps_break fun D σ H ⟨F, e, R, h⟩ => by
  unfold AtS mBk at h
  exact h F H σ (Cur.refl R)
theorem ss_ct : SS X W np (.Continue pos) mCt := PS.imp ps_continue fun D σ H ⟨F, e, R, h⟩ => by
  unfold AtS mCt at h
  exact h F H σ (Cur.refl R)
theorem ss_if (hc : ST X W c mc) (ha : SB X W np a ma) (hb : SB X W np b mb) : SS X W np (.If c a b pos) (mIf mc ma mb) := by
  refine PS.imp (ps_if hc ha hb) fun D σ H h => ?_
  obtain ⟨F, e, R, h⟩ := h
  refine useX (R1 := fun _ _ _ _ _ (b c : Bool) => b = c) (Cur.refl R) h fun r e1 F1 H1 u C1 q1 _ h1 => ?_
  have eu : r = u := q1
  subst eu
  cases r with
  | true => exact AtS.to C1 h1
  | false => exact AtS.to C1 h1
theorem ss_set (i : Nat) {y : Str} {pos' : Pos} (G : Good X k W) (hm : SE X W x m) (hp : np ≤ i := by decide) (hi : X.N[i]? = some y := by rfl) (hx : Loc X.env.scope y := by first | exact Or.inl rfl | exact Or.inr rfl) (hs : swapsWith x (some (.Name y pos')) pos.line X.env = pure false := by rfl)
    (hf : X.fn y = true ∨ X.env.scope.names.lookup y = some .local := by first | exact .inl rfl | exact .inr rfl) : SS X W np (.Assign [.Name y pos'] x pos) (mSet i m) := by
  refine PS.imp (ps_set G.nd hi hx hm hs hf) fun D σ H h => ?_
  obtain ⟨F, e, R, h⟩ := h
  exact useX (R1 := RR X.K) (Cur.refl R) h fun r e1 F1 H1 u C1 q1 _ h1 => st_ok hp C1 q1 h1
theorem ss_setP (i : Nat) {y : Str} {pos' : Pos} (G : Good X k W) (hm : SE X W x m) (hi : X.N[i]? = some y := by rfl) (hx : Loc X.env.scope y := by first | exact Or.inl rfl | exact Or.inr rfl) (hs : swapsWith x (some (.Name y pos')) pos.line X.env = pure false := by rfl)
    (hf : X.fn y = true ∨ X.env.scope.names.lookup y = some .local := by first | exact .inl rfl | exact .inr rfl) : SS X W np (.Assign [.Name y pos'] x pos) (mSetP i m) := by
  refine PS.imp (ps_set G.nd hi hx hm hs hf) fun D σ H h => ?_
  obtain ⟨F, e, R, h⟩ := h
  refine useX (R1 := RR X.K) (Cur.refl R) h fun r e1 F1 H1 u C1 q1 _ h1 => ?_
  obtain ⟨F2, e2, v, C2, _, r2, h2, _⟩ := AtS.dt C1 q1 h1
  exact h2.nx rfl (C2.setDat r2)
end
/-! ### targets of unpacking and of loops -/
/-- the slots ws alone may have changed -/
def Upd (ws : List Nat) (σ σ' : Sig) : Prop := σ'.length = σ.length ∧ ∀ i, i ∉ ws → σ'[i]? = σ[i]?
theorem Upd.refl {ws : List Nat} {σ : Sig} : Upd ws σ σ := ⟨rfl, fun _ _ => rfl⟩
theorem Upd.trans {ws : List Nat} {σ σ1 σ2 : Sig} (a : Upd ws σ σ1) (b : Upd ws σ1 σ2) : Upd ws σ σ2 := ⟨b.1.trans a.1, fun i h => (b.2 i h).trans (a.2 i h)⟩
theorem Upd.set {ws : List Nat} {σ : Sig} {i : Nat} {o : Option V} (h : i ∈ ws) : Upd ws σ (σ.set i o) := ⟨List.length_set, fun j hj => List.getElem?_set_ne (fun z => hj (by rw [← z]; exact h))⟩
theorem Upd.mono {ws ws' : List Nat} {σ σ' : Sig} (h : ∀ i ∈ ws, i ∈ ws') (a : Upd ws σ σ') : Upd ws' σ σ' := ⟨a.1, fun i q => a.2 i fun z => q (h i z)⟩
def AtG (K : PySem.W.Frag) (W : WX) (ws : List Nat) (B : Bg) (m : M Unit) (e : Ev) (σ : Sig) (Q : Sig → Hp → Prop) : Prop :=
  match m e with
  | .ok _ e' => ∀ F' H' σ', Cur K B F' H' e' σ' → Upd ws σ σ' → Q σ' H'
  | .rs x e' => ∀ F' H' σ' cls d, Cur K B F' H' e' σ' → XR K F' H' x cls d → W cls d σ' H'
  | .bad => False
def tG (K : PySem.W.Frag) (W : WX) (ws : List Nat) (m : Val → M Unit) : TG := fun u σ H Q => ∃ np F e v, Rel K F H e σ ∧ VR K F v u ∧ AtG K W ws (bg np F H e σ) (m v) e σ Q
def tGs (K : PySem.W.Frag) (W : WX) (ws : List Nat) (m : List Val → M Unit) : TGs := fun us σ H Q => ∃ np F e vs, Rel K F H e σ ∧ VRs K F vs us ∧ AtG K W ws (bg np F H e σ) (m vs) e σ Q
abbrev SG (X : Cx) (W : WX) (ws : List Nat) (tg : Expr) (m : Val → M Unit) : Prop := PG X tg (tG X.K W ws m)
abbrev SGs (X : Cx) (W : WX) (ws : List Nat) (tg : List Expr) (m : List Val → M Unit) : Prop := PGs X tg (tGs X.K W ws m)
def gN (i : Nat) (v : Val) : M Unit := fun e => .ok () (e.set i (.dat v))
def gsN : List Val → M Unit
  | [] => M.ret ()
  | _ => M.bad
def gsC (m : Val → M Unit) (ms : List Val → M Unit) : List Val → M Unit
  | [] => M.bad
  | v :: vs => (m v).bind fun _ => ms vs
/-- the items of a tuple or a list -/
def gT (n : Nat) (ms : List Val → M Unit) (v : Val) : M Unit := match v with
  | .tup xs => if xs.length = n then ms xs else M.bad
  | _ => M.bad
def gL (n : Nat) (ms : List Val → M Unit) (v : Val) : M Unit := match v with
  | .lst xs => if xs.length = n then ms xs else M.bad
  | _ => M.bad
theorem PG.imp {X : Cx} {e : Expr} {t t' : TG} (h : PG X e t) (q : ∀ u σ H Q, t' u σ H Q → t u σ H Q) : PG X e t' := ⟨fun pins s σ H v u Q I r z => h.run pins s σ H v u Q I r (q v σ H Q z)⟩
theorem PGs.imp {X : Cx} {e : List Expr} {t t' : TGs} (h : PGs X e t) (q : ∀ u σ H Q, t' u σ H Q → t u σ H Q) : PGs X e t' := ⟨fun pins s σ H v u Q I r z => h.run pins s σ H v u Q I r (q v σ H Q z)⟩
section
variable {K : PySem.W.Frag} {W : WX} {ws : List Nat} {B : Bg} {F F' H H' : Hp} {e e' : Ev} {σ σ' : Sig}
theorem AtG.go {m : M Unit} {Q : Sig → Hp → Prop} (h : AtG K W ws B m e σ Q) (hm : m e = .ok () e') (C : Cur K B F' H' e' σ') (u : Upd ws σ σ') : Q σ' H' := by
  unfold AtG at h
  rw [hm] at h
  exact h F' H' σ' C u
end
section
variable {X : Cx} {W : WX} {ws : List Nat} {np k : Nat} {x : Expr} {es : List Expr} {mg : Val → M Unit} {ms : List Val → M Unit} {pos : Pos} {m : M RV}
theorem sg_name (i : Nat) {y : Str} (nd : X.N.Nodup) (hw : i ∈ ws := by decide) (hi : X.N[i]? = some y := by rfl) (hx : Loc X.env.scope y := by first | exact Or.inl rfl | exact Or.inr rfl) (hf : X.fn y = true ∨ X.env.scope.names.lookup y = some .local := by first | exact .inl rfl | exact .inr rfl) : SG X W ws (.Name y pos) (gN i) :=
  PG.imp (pg_name nd hi hx hf) fun u σ H Q ⟨np, F, e, v, R, r, h⟩ => h.go rfl ((Cur.refl R).setDat r) (Upd.set hw)
theorem sgs_nil : SGs X W ws [] gsN := PGs.imp pgs_nil fun us σ H Q ⟨np, F, e, vs, R, r, h⟩ => by
  cases r with
  | nil => exact ⟨rfl, h.go rfl (Cur.refl R) Upd.refl⟩
  | cons _ _ => exact h.elim
theorem sgs_cons (h1 : SG X W ws x mg) (h2 : SGs X W ws es ms) (hs : (assignEach (x :: es) X.env).map (·.2) = assign x X.env :: (assignEach es X.env).map (·.2) := by rfl) : SGs X W ws (x :: es) (gsC mg ms) := by
  refine PGs.imp (pgs_cons h1 h2 hs) fun us σ H Q h => ?_
  obtain ⟨np, F, e, vs, R, r, h⟩ := h
  cases r with
  | nil => exact h.elim
  | cons a b =>
    rename_i v u vs us
    refine ⟨u, us, rfl, np, F, e, v, R, a, ?_⟩
    unfold AtG gsC M.bind at h
    unfold AtG
    cases z : mg v e with
    | bad => simp only [z] at h
    | rs x e' => simp only [z] at h; exact h
    | ok _ e' =>
      simp only [z] at h
      intro F' H' σ' C u1
      refine ⟨np, F', e', vs, C.rel, b.mono C.post.sub, ?_⟩
      unfold AtG
      cases z2 : ms vs e' with
      | bad => simp only [z2] at h
      | rs x e' => simp only [z2] at h; exact fun F2 H2 σ2 cls d C2 => h F2 H2 σ2 cls d (C.trans C2)
      | ok _ e2 => simp only [z2] at h; exact fun F2 H2 σ2 C2 u2 => h F2 H2 σ2 (C.trans C2) (u1.trans u2)
theorem sg_tup {j n : Nat} (hc : X.calm = true) (h : SGs X W ws es ms) (hn : (assignEach es X.env).length = n := by rfl) (hst : (assignEach es X.env).findIdx? (·.1) = none := by rfl) : SG X W ws (.Tuple es j pos) (gT n ms) := by
  refine PG.imp (pg_tup hc h hn hst) fun u σ H Q h => ?_
  obtain ⟨np, F, e, v, R, r, h⟩ := h
  unfold gT at h
  split at h
  · rename_i xs
    by_cases hl : xs.length = n
    · rw [if_pos hl] at h
      cases r with
      | tup h1 h2 => exact ⟨_, _, rfl, sqT_mono R.sub h1, by rw [← h2.length]; exact hl, np, F, e, xs, R, h2, h⟩
    · rw [if_neg hl] at h
      exact h.elim
  · exact h.elim
theorem sg_lst {j n : Nat} (hc : X.calm = true) (h : SGs X W ws es ms) (hn : (assignEach es X.env).length = n := by rfl) (hst : (assignEach es X.env).findIdx? (·.1) = none := by rfl) : SG X W ws (.Tuple es j pos) (gL n ms) := by
  refine PG.imp (pg_lst hc h hn hst) fun u σ H Q h => ?_
  obtain ⟨np, F, e, v, R, r, h⟩ := h
  unfold gL at h
  split at h
  · rename_i xs
    by_cases hl : xs.length = n
    · rw [if_pos hl] at h
      cases r with
      | lst h1 h2 => exact ⟨_, _, rfl, .inl (rd_mono R.sub h1), by rw [← h2.length]; exact hl, np, F, e, xs, R, h2, h⟩
    · rw [if_neg hl] at h
      exact h.elim
  · exact h.elim
/-- target = value, by way of a tree -/
def mAsg (mg : Val → M Unit) (m : M RV) : S := m.bind fun r => (M.dt r).bind fun v => (mg v).bind fun _ => mSkip
theorem AtS.gt {K : PySem.W.Frag} {B : Bg} {F H : Hp} {e : Ev} {σ : Sig} {D : Ends} {m : M Unit} (C : Cur K B F H e σ) (h : AtS K W B (m.bind fun _ => mSkip) F e σ H D) : AtG K W ws (bg B.np F H e σ) m e σ D.nx := by
  unfold AtS M.bind mSkip at h
  unfold AtG
  cases z : m e with
  | bad => simp only [z] at h
  | rs x e' => simp only [z] at h; exact fun F' H' σ' cls d C' => h F' H' σ' cls d (C.trans C')
  | ok _ e' => simp only [z] at h; exact fun F' H' σ' C' _ => h F' H' σ' (C.trans C')
theorem ss_asg {tg : Expr} (hm : SE X W x m) (hg : SG X W ws tg mg) (hs : swapsWithSole [tg] x pos.line X.env = pure false := by rfl) (hw : swappedStores [tg] x X.env = pure none := by rfl)
    (h1 : (assignEach [tg] X.env).map (·.2) = [assign tg X.env] := by rfl) : SS X W np (.Assign [tg] x pos) (mAsg mg m) := by
  refine PS.imp (ps_asg hm hg hs hw h1) fun D σ H h => ?_
  obtain ⟨F, e, R, h⟩ := h
  refine useX (R1 := RR X.K) (Cur.refl R) h fun r e1 F1 H1 u C1 q1 _ h1 => ?_
  obtain ⟨F2, e2, v, C2, _, r2, h2, _⟩ := AtS.dt C1 q1 h1
  exact ⟨np, F2, e2, v, C2.rel, r2, AtS.gt C2 h2⟩
end
/-! ### loops -/
def loopS (mt : Val → M Unit) (mb : S) : List Val → S
  | [] => mSkip
  | v :: r => fun e => match mt v e with
    | .ok _ e1 => match mb e1 with
      | .ok .nx e2 => loopS mt mb r e2
      | .ok .ct e2 => loopS mt mb r e2
      | .ok .bk e2 => .ok .nx e2
      | .ok (.rt x) e2 => .ok (.rt x) e2
      | .rs x e2 => .rs x e2
      | .bad => .bad
    | .rs x e1 => .rs x e1
    | .bad => .bad
def mFor (mi : M (List Val)) (mt : Val → M Unit) (mb : S) : S := mi.bind fun vs => loopS mt mb vs
/-- an iterator that gives these, one after another -/
def RI (K : PySem.W.Frag) (B : Bg) (F H : Hp) (e : Ev) (σ : Sig) (vs : List Val) (J : It) : Prop :=
  ∃ (G : Hp → Prop) (Y : Nat → Hp → V → Hp → Prop), L2.Walk J vs.length G Y ∧ (∀ H, Same F H → G H) ∧
    ∀ (i : Nat) (v : Val) (B1 : Bg) (F1 H1 : Hp) (e1 : Ev) (σ1 : Sig) (x : V) (H' : Hp), vs[i]? = some v → Cur K B1 F1 H1 e1 σ1 → Same F F1 → Y i H1 x H' → ∃ F', Cur K B1 F' H' e1 σ1 ∧ Same F1 F' ∧ VR K F' v x
instance {K : PySem.W.Frag} : Carry K (RI K) := ⟨fun _ h => h⟩
abbrev SI (X : Cx) (W : WX) (tg iter : Expr) (m : M (List Val)) : Prop := PI X tg iter (tM X.K W (RI X.K) m)
theorem PI.imp {X : Cx} {tg e : Expr} {t t' : TI} (h : PI X tg e t) (q : ∀ σ H R, t' σ H R → t σ H R) : PI X tg e t' := ⟨fun pins s σ H R I z => h.run pins s σ H R I (q σ H R z)⟩
section
variable {X : Cx} {W : WX} {np k : Nat} {tg iter c : Expr} {body : List Stmt} {mi : M (List Val)} {mt : Val → M Unit} {mb : S} {mc : M Bool} {pos : Pos}
theorem ss_for {ws : List Nat} (G : Good X k W) (hi : SI X W tg iter mi) (hg : SG X W ws tg mt) (hb : SB X W np body mb) (hs : ∀ x, foldedSetIterable iter X.env x = pure x := by intro _; rfl) : SS X W np (.For tg iter body [] pos) (mFor mi mt mb) := by
  refine PS.imp (ps_for G.po G.calm hi hg hb hs) fun D σ H h => ?_
  obtain ⟨F, e, R, h⟩ := h
  refine useX (R1 := RI X.K) (Cur.refl R) h fun vs e1 F1 H1 J C1 q1 _ h1 => ?_
  obtain ⟨Gd, Y, wk, still, gives⟩ := q1
  refine for_it wk (fun i σ' H' => ∃ F' e', Cur X.K (bg np F H e σ) F' H' e' σ' ∧ Same F1 F' ∧ AtS X.K W (bg np F H e σ) (loopS mt mb (vs.drop i)) F' e' σ' H' D) ⟨F1, e1, C1, Same.refl _, h1⟩ ?_ ?_ ?_
  · rintro i σ' H' _ ⟨F', e', C', s', _⟩
    exact still H' (s'.trans C'.rel.sub)
  · rintro i x σ' H' H2 hi ⟨F', e', C', s', h'⟩ y
    have hv : vs[i]? = some vs[i] := List.getElem?_eq_getElem hi
    obtain ⟨F2, C2, s2, r2⟩ := gives i _ _ _ _ _ _ _ _ hv C' s' y
    refine ⟨np, F2, e', vs[i], C2.rel, r2, ?_⟩
    rw [List.drop_eq_getElem_cons hi] at h'
    unfold AtS loopS at h'
    unfold AtG
    cases z : mt vs[i] e' with
    | bad => simp only [z] at h'
    | rs x2 e2 =>
      simp only [z] at h'
      exact fun F' H' σ' cls d C' => h' F' H' σ' cls d (C2.trans C')
    | ok _ e2 =>
      simp only [z] at h'
      intro F3 H3 σ3 C3 _
      refine ⟨F3, e2, C3.rel, ?_⟩
      unfold AtS
      have C23 := C2.trans C3
      have s3 : Same F1 F3 := s'.trans (s2.trans C3.post.sub)
      cases z2 : mb e2 with
      | bad => simp only [z2] at h'
      | rs x3 e3 =>
        simp only [z2] at h'
        exact fun F' H' σ' cls d C' => h' F' H' σ' cls d (C23.trans C')
      | ok o e3 =>
        cases o with
        | nx =>
          simp only [z2] at h'
          intro F4 H4 σ4 C4
          exact ⟨F4, e3, C23.trans C4, s3.trans C4.post.sub, h'⟩
        | ct =>
          simp only [z2] at h'
          intro F4 H4 σ4 C4
          exact ⟨F4, e3, C23.trans C4, s3.trans C4.post.sub, h'⟩
        | bk =>
          simp only [z2] at h'
          exact fun F4 H4 σ4 C4 => h' F4 H4 σ4 (C23.trans C4)
        | rt r =>
          simp only [z2] at h'
          exact fun F4 H4 σ4 u C4 q4 => h' F4 H4 σ4 u (C23.trans C4) (q4.out C23)
  · rintro σ' H' ⟨F', e', C', s', h'⟩
    rw [List.drop_length] at h'
    exact h'.nx rfl C'
def whileS (c : M Bool) (b : S) : Nat → S
  | 0 => fun _ => .bad
  | n + 1 => fun e => match c e with
    | .ok true e1 => match b e1 with
      | .ok .nx e2 => whileS c b n e2
      | .ok .ct e2 => whileS c b n e2
      | .ok .bk e2 => .ok .nx e2
      | .ok (.rt x) e2 => .ok (.rt x) e2
      | .rs x e2 => .rs x e2
      | .bad => .bad
    | .ok false e1 => .ok .nx e1
    | .rs x e1 => .rs x e1
    | .bad => .bad
theorem ss_while (n : Nat) (G : Good X k W) (hc : ST X W c mc) (hb : SB X W np body mb) : SS X W np (.While c body [] pos) (whileS mc mb n) := by
  refine PS.imp (ps_while G.po hc hb) fun D σ H h => ?_
  obtain ⟨F, e, R, h⟩ := h
  refine ⟨fun m σ' H' => ∃ F' e', Cur X.K (bg np F H e σ) F' H' e' σ' ∧ AtS X.K W (bg np F H e σ) (whileS mc mb m) F' e' σ' H' D, ⟨n, F, e, Cur.refl R, h⟩, ?_⟩
  rintro m σ' H' ⟨F', e', C', h'⟩
  cases m with
  | zero => exact h'.elim
  | succ m =>
    refine ⟨np, F', e', C'.rel, ?_⟩
    unfold AtS whileS at h'
    unfold At
    cases z : mc e' with
    | bad => simp only [z] at h'
    | rs x e2 =>
      simp only [z] at h'
      exact fun F' H' cls d C2 => h' F' H' _ cls d (C'.trans C2)
    | ok b e2 =>
      cases b with
      | false =>
        simp only [z] at h'
        intro F2 H2 b' C2 eb
        subst eb
        exact h' F2 H2 _ (C'.trans C2)
      | true =>
        simp only [z] at h'
        intro F2 H2 b' C2 eb
        subst eb
        refine ⟨fun σ4 H4 => ∃ F4 e4, Cur X.K (bg np F H e σ) F4 H4 e4 σ4 ∧ AtS X.K W (bg np F H e σ) (whileS mc mb m) F4 e4 σ4 H4 D, fun σ4 H4 q => ⟨m, Nat.lt_succ_self m, q⟩, F2, e2, C2.rel, ?_⟩
        have C12 := C'.trans C2
        unfold AtS
        cases z2 : mb e2 with
        | bad => simp only [z2] at h'
        | rs x3 e3 =>
          simp only [z2] at h'
          exact fun F' H' σ' cls d C' => h' F' H' σ' cls d (C12.trans C')
        | ok o e3 =>
          cases o with
          | nx =>
            simp only [z2] at h'
            exact fun F4 H4 σ4 C4 => ⟨F4, e3, C12.trans C4, h'⟩
          | ct =>
            simp only [z2] at h'
            exact fun F4 H4 σ4 C4 => ⟨F4, e3, C12.trans C4, h'⟩
          | bk =>
            simp only [z2] at h'
            exact fun F4 H4 σ4 C4 => h' F4 H4 σ4 (C12.trans C4)
          | rt r =>
            simp only [z2] at h'
            exact fun F4 H4 σ4 u C4 q4 => h' F4 H4 σ4 u (C12.trans C4) (q4.out C12)
end
end Pu
set_option Elab.async false
set_option linter.all false
set_option maxRecDepth 100000
/-! Pu, part J: what is walked, comprehensions, slices, objects changed in place. -/
namespace Pu
open PySem PySem.Spec PyProof.Rows L2
section
variable {K : PySem.W.Frag} {W : WX} {α α' β β' : Type} {R1 : Bg → Hp → Hp → Ev → Sig → α → β → Prop} {R2 : Bg → Hp → Hp → Ev → Sig → α' → β' → Prop} {B : Bg} {F H : Hp} {e : Ev} {σ : Sig}
/-- THE STEP, told by which result -/
theorem useQ [Carry K R1] {m : M α} {f : α → M α'} {Q : β' → Hp → Prop} {G : β → Hp → Prop} (C : Cur K B F H e σ) (h : At K W R2 B (m.bind f) F e σ H Q)
    (k : ∀ r e1 F1 H1 x, m e = .ok r e1 → Cur K B F1 H1 e1 σ → R1 B F1 H1 e1 σ r x → Cur K (bg B.np F H e σ) F1 H1 e1 σ → At K W R2 B (f r) F1 e1 σ H1 Q → G x H1) : tM K W R1 m σ H G := by
  refine ⟨B.np, F, e, C.rel, ?_⟩
  unfold At M.bind at h
  unfold At
  cases hm : m e with
  | bad => rw [hm] at h; exact h
  | rs x e' =>
    rw [hm] at h
    intro F' H' cls d C' X'
    exact h F' H' cls d (C.trans C') X'
  | ok r e' =>
    rw [hm] at h
    intro F' H' u C' r'
    exact k r e' F' H' u hm (C.trans C') (Carry.out C r') C' h
end
/-! ### what is walked -/
def itemsV (v : Val) : M (List Val) := match v with
  | .lst xs => M.ret xs
  | .tup xs => M.ret xs
  | _ => M.bad
def mItems (m : M RV) : M (List Val) := m.bind fun r => (M.dt r).bind itemsV
def rangeV (lo hi : Int) : List Val := (List.range (hi - lo).toNat).map fun i => .int (lo + (i : Nat))
def mRng1 (m : M RV) : M (List Val) := m.bind fun r => (M.rd r).bind fun v => match v with
  | .int j => if -4611686018427387904 ≤ j ∧ j < 4611686018427387904 then M.ret (rangeV 0 j) else M.bad
  | _ => M.bad
def mRng2 (a b : M RV) : M (List Val) := a.bind fun r => b.bind fun s => (M.rd r).bind fun v => (M.rd s).bind fun w => match v, w with
  | .int i, .int j => if -4611686018427387904 ≤ i ∧ i < 4611686018427387904 ∧ -4611686018427387904 ≤ j ∧ j < 4611686018427387904 then M.ret (rangeV i j) else M.bad
  | _, _ => M.bad
section
variable {X : Cx} {W : WX} {tg a b : Expr} {ma mb : M RV} {p pos : Pos}
theorem ri_list {K : PySem.W.Frag} {B : Bg} {F H : Hp} {e : Ev} {σ : Sig} {xs : List Val} {a : Addr} {us : List V} (h1 : Rd F a (.lst us)) (h2 : VRs K F xs us) : RI K B F H e σ xs (Itl K a) := by
  have e1 := h2.length
  refine ⟨_, _, by rw [e1]; exact walk_list (K := K) (a := a) (xs := us), fun H s => Or.inl (rd_mono s h1), ?_⟩
  rintro i v B1 F1 H1 e1 σ1 x H' hv C s ⟨rfl, hx⟩
  obtain ⟨v', h3, h4⟩ := h2.get' hx
  rw [hv] at h3; cases h3
  exact ⟨F1, C, Same.refl _, h4.mono s⟩
theorem ri_tup {K : PySem.W.Frag} {B : Bg} {F H : Hp} {e : Ev} {σ : Sig} {xs : List Val} {a : Addr} {us : List V} (h1 : SqT K F a us) (h2 : VRs K F xs us) : RI K B F H e σ xs (Itt K a) := by
  have e1 := h2.length
  refine ⟨_, _, by rw [e1]; exact walk_tup (K := K) (a := a) (xs := us), fun H s => sqT_mono s h1, ?_⟩
  rintro i v B1 F1 H1 e1 σ1 x H' hv C s ⟨rfl, hx⟩
  obtain ⟨v', h3, h4⟩ := h2.get' hx
  rw [hv] at h3; cases h3
  exact ⟨F1, C, Same.refl _, h4.mono s⟩
theorem ri_rng {K : PySem.W.Frag} {B : Bg} {F H : Hp} {e : Ev} {σ : Sig} {lo hi : Int} : RI K B F H e σ (rangeV lo hi) (Itr lo (hi - lo).toNat) := by
  refine ⟨_, _, by rw [show (rangeV lo hi).length = (hi - lo).toNat by simp [rangeV]]; exact walk_range (lo := lo), fun _ _ => trivial, ?_⟩
  rintro i v B1 F1 H1 e1 σ1 x H' hv C s ⟨rfl, hx⟩
  unfold rangeV at hv
  rw [List.getElem?_map] at hv
  cases q : (List.range (hi - lo).toNat)[i]? with
  | none => rw [q] at hv; cases hv
  | some j =>
    rw [q] at hv
    have ej : j = i := by
      have := List.getElem?_eq_some_iff.mp q
      obtain ⟨h, e⟩ := this
      rw [← e]; exact (List.getElem_range h)
    cases hv
    subst hx ej
    exact ⟨F1, C, Same.refl _, VR.int _⟩
/-- for .. in a list or a tuple -/
theorem si_seq (ha : SE X W a ma) : SI X W tg a (mItems ma) := by
  constructor
  intro pins s σ H R I h
  obtain ⟨np, F, e, Rl, h⟩ := h
  have stop : ∀ {P : Prop}, (∀ r e1 v e2, ma e = .ok r e1 → M.dt r e1 = .ok v e2 → (∃ xs, v = .lst xs) ∨ (∃ xs, v = .tup xs) → P) → ((∃ x e1, ma e = .rs x e1) → P) → P := fun {P} k k2 => by
    unfold At mItems M.bind at h
    cases z : ma e with
    | bad => simp only [z] at h
    | rs x e1 => exact k2 ⟨x, e1, z⟩
    | ok r e1 =>
      simp only [z] at h
      cases z2 : M.dt r e1 with
      | bad => simp only [z2] at h
      | rs x e2 => exact (dt_some _ _ z2).elim
      | ok v e2 =>
        simp only [z2] at h
        refine k r e1 v e2 z z2 ?_
        cases v with
        | lst xs => exact .inl ⟨xs, rfl⟩
        | tup xs => exact .inr ⟨xs, rfl⟩
        | _ => exact h.elim
  have asL : ((∀ r e1 v e2, ma e = .ok r e1 → M.dt r e1 = .ok v e2 → ∃ xs, v = .lst xs)) → iList X.K (tE X.K W ma) σ H R := fun only => by
    refine useQ (R1 := RR X.K) (Cur.refl Rl) h fun r e1 F1 H1 x hm C1 q1 _ h1 => ?_
    cases z2 : M.dt r e1 with
    | rs x e2 => exact (dt_some _ _ z2).elim
    | bad => unfold At M.bind at h1; simp only [z2] at h1
    | ok v e2 =>
      obtain ⟨xs, rfl⟩ := only r e1 v e2 hm z2
      obtain ⟨F2, C2, s2, r2, _⟩ := dt_go C1 q1 z2
      unfold At M.bind at h1
      simp only [z2, itemsV, M.ret] at h1
      cases r2 with
      | lst h3 h4 => exact ⟨_, rfl, ⟨_, .inl (rd_mono C2.rel.sub h3)⟩, h1 _ _ _ C2 (ri_list h3 h4)⟩
  have asT : ((∀ r e1 v e2, ma e = .ok r e1 → M.dt r e1 = .ok v e2 → ∃ xs, v = .tup xs)) → iTup X.K (tE X.K W ma) σ H R := fun only => by
    refine useQ (R1 := RR X.K) (Cur.refl Rl) h fun r e1 F1 H1 x hm C1 q1 _ h1 => ?_
    cases z2 : M.dt r e1 with
    | rs x e2 => exact (dt_some _ _ z2).elim
    | bad => unfold At M.bind at h1; simp only [z2] at h1
    | ok v e2 =>
      obtain ⟨xs, rfl⟩ := only r e1 v e2 hm z2
      obtain ⟨F2, C2, s2, r2, _⟩ := dt_go C1 q1 z2
      unfold At M.bind at h1
      simp only [z2, itemsV, M.ret] at h1
      cases r2 with
      | tup h3 h4 => exact ⟨_, rfl, ⟨_, sqT_mono C2.rel.sub h3⟩, h1 _ _ _ C2 (ri_tup h3 h4)⟩
  refine stop (fun r e1 v e2 z1 z2 kind => ?_) fun ⟨x, e1, z1⟩ => ?_
  · rcases kind with ⟨xs, rfl⟩ | ⟨xs, rfl⟩
    · refine (pi_list ha).run pins s σ H R I (asL fun r' e1' v' e2' y1 y2 => ?_)
      rw [z1] at y1; cases y1
      rw [z2] at y2; cases y2
      exact ⟨xs, rfl⟩
    · refine (pi_tup ha).run pins s σ H R I (asT fun r' e1' v' e2' y1 y2 => ?_)
      rw [z1] at y1; cases y1
      rw [z2] at y2; cases y2
      exact ⟨xs, rfl⟩
  · refine (pi_list ha).run pins s σ H R I (asL fun r' e1' v' e2' y1 y2 => ?_)
    rw [z1] at y1; cases y1
theorem sa_1 {K : PySem.W.Frag} {B : Bg} {F H : Hp} {e : Ev} {σ : Sig} {α β : Type} {R2 : Bg → Hp → Hp → Ev → Sig → α → β → Prop} {m : M RV} {f : RV → M α} {Q : β → Hp → Prop} {G : List V → Hp → Prop} (C : Cur K B F H e σ) (h : At K W R2 B (m.bind f) F e σ H Q)
    (k : ∀ r e1 F1 H1 x, Cur K B F1 H1 e1 σ → RR K B F1 H1 e1 σ r x → At K W R2 B (f r) F1 e1 σ H1 Q → G [x] H1) : tA K W (mCons m mNil) σ H G := by
  refine ⟨B.np, F, e, C.rel, ?_⟩
  unfold At M.bind at h
  unfold At mCons mNil M.bind M.ret
  cases z : m e with
  | bad => simp only [z] at h
  | rs x e1 => simp only [z] at h; exact fun F' H' cls d C' => h F' H' cls d (C.trans C')
  | ok r e1 =>
    simp only [z] at h
    intro F1 H1 us C1 q1
    cases q1 with
    | cons a b c =>
      cases c
      exact k r e1 F1 H1 _ (C.trans C1) (a.out C) h
theorem si_rng1 (gl : Gl X "range") (fr : X.mg "range" = none) (ha : SE X W a ma) (hs : starEach [a] X.env = [(false, eval a X.env)] := by rfl) : SI X W tg (.Call (.Name "range" p) [a] [] pos) (mRng1 ma) := by
  refine PI.imp (pi_range1 gl fr (sa_cons ha sa_nil hs) hs) fun σ H R h => ?_
  obtain ⟨np, F, e, Rl, h⟩ := h
  refine sa_1 (Cur.refl Rl) h fun r e1 F1 H1 x C1 q1 h1 => ?_
  obtain ⟨v, rv, h2⟩ := At.rd C1.rel q1 h1
  split at h2
  · rename_i j
    by_cases hj : -4611686018427387904 ≤ j ∧ j < 4611686018427387904
    · rw [if_pos hj] at h2
      refine ⟨j, by rw [rv.int], by omega, by omega, h2.ok rfl C1 ?_⟩
      have e3 : (j - 0).toNat = j.toNat := by simp
      rw [← e3]
      exact ri_rng
    · rw [if_neg hj] at h2
      exact h2.elim
  · exact h2.elim
theorem si_rng2 (gl : Gl X "range") (fr : X.mg "range" = none) (ha : SE X W a ma) (hb : SE X W b mb) (hs : starEach [a, b] X.env = [(false, eval a X.env), (false, eval b X.env)] := by rfl) (hs2 : starEach [b] X.env = [(false, eval b X.env)] := by rfl)
    (hs3 : starEach [a, b] X.env = (false, eval a X.env) :: starEach [b] X.env := by rfl) : SI X W tg (.Call (.Name "range" p) [a, b] [] pos) (mRng2 ma mb) := by
  refine PI.imp (pi_range2 gl fr (pa_cons ha (sa_cons hb sa_nil hs2) hs3) hs hs2) fun σ H R h => ?_
  obtain ⟨np, F, e, Rl, h⟩ := h
  refine use (R1 := RR X.K) (Cur.refl Rl) h fun r e1 F1 H1 x C1 q1 _ h1 => ?_
  have q0 := q1
  refine ⟨np, F1, e1, C1.rel, ?_⟩
  unfold At M.bind at h1
  unfold At mCons mNil M.bind M.ret
  cases z : mb e1 with
  | bad => simp only [z] at h1
  | rs x e1 => simp only [z] at h1; exact fun F' H' cls d C' => h1 F' H' cls d (C1.trans C')
  | ok s e2 =>
    simp only [z] at h1
    intro F2 H2 us C2 q2
    cases q2 with
    | cons a2 b2 c2 =>
      cases c2
      rename_i y
      have C12 := C1.trans C2
      have h2 : At X.K W (RI X.K) (bg np F H e σ) ((M.rd r).bind fun v => (M.rd s).bind fun w => match v, w with
        | .int i, .int j => if -4611686018427387904 ≤ i ∧ i < 4611686018427387904 ∧ -4611686018427387904 ≤ j ∧ j < 4611686018427387904 then M.ret (rangeV i j) else M.bad
        | _, _ => M.bad) F2 e2 σ H2 R := h1
      obtain ⟨v, rv, h3⟩ := At.rd C12.rel (q1.carry C2) h2
      obtain ⟨w, rw_, h4⟩ := At.rd C12.rel (a2.out C1) h3
      split at h4
      · rename_i i j
        by_cases hj : -4611686018427387904 ≤ i ∧ i < 4611686018427387904 ∧ -4611686018427387904 ≤ j ∧ j < 4611686018427387904
        · rw [if_pos hj] at h4
          exact ⟨i, j, by rw [rv.int, rw_.int], ⟨by omega, by omega, by omega, by omega⟩, h4.ok rfl C12 ri_rng⟩
        · rw [if_neg hj] at h4
          exact h4.elim
      · exact h4.elim
end
end Pu
set_option Elab.async false
set_option linter.all false
set_option maxRecDepth 100000
/-! Pu, part K: comprehensions, slices, objects changed in place, two targets at once. -/
namespace Pu
open PySem PySem.Spec PyProof.Rows L2
/-! ### comprehensions -/
def wipeE (e : Ev) : List Nat → Ev
  | [] => e
  | v :: vs => (wipeE e vs).set v .un
def compS (ws : List Nat) (mt : Val → M Unit) (mc : M Bool) (me : M RV) : List Val → List Val → M (List Val)
  | [], acc => M.ret acc
  | v :: r, acc => fun e => match mt v e with
    | .ok _ e1 => match mc e1 with
      | .ok true e2 => match me e2 with
        | .ok x e3 => match M.dt x e3 with
          | .ok w e4 => if acc.length < sizeLine then compS ws mt mc me r (acc ++ [w]) (wipeE e4 ws) else .bad
          | _ => .bad
        | _ => .bad
      | .ok false e2 => compS ws mt mc me r acc (wipeE e2 ws)
      | _ => .bad
    | _ => .bad
def mComp (ws : List Nat) (mi : M (List Val)) (mt : Val → M Unit) (mc : M Bool) (me : M RV) : M RV := mi.bind fun vs => fun e => match compS ws mt mc me vs [] (wipeE e ws) with
  | .ok acc e1 => .ok (.tmp (.lst acc)) e1
  | .rs x e1 => .rs x e1
  | .bad => .bad
def mYes : M Bool := M.ret true
abbrev STs (X : Cx) (W : WX) (cs : List Expr) (m : M Bool) : Prop := PTs X cs (tT X.K W m)
def noW : WX := fun _ _ _ _ => False
section
variable {K : PySem.W.Frag} {W : WX} {B : Bg} {F F' H H' : Hp} {e e' : Ev} {σ σ' : Sig}
theorem Own.wiped {a : Addr} {τ τ' : Sig} : ∀ {ws : List Nat}, (∀ i, i ∉ ws → τ[i]? = τ'[i]?) → Own (wipeE e ws) τ a → Own (wipeE e ws) τ' a := fun {ws} h ⟨i, v, h1, h2⟩ => by
  have nm : ∀ {ws : List Nat} {e : Ev}, (wipeE e ws)[i]? = some (.own v) → i ∉ ws := by
    intro ws
    induction ws with
    | nil => intro e _; simp
    | cons w ws ih =>
      intro e q
      unfold wipeE at q
      rcases getset q with ⟨_, z, _⟩ | ⟨z, q⟩
      · cases z
      · simp only [List.mem_cons, not_or]
        exact ⟨fun z2 => z z2.symm, ih q⟩
  exact ⟨i, v, h1, by rw [← h i (nm h1)]; exact h2⟩
theorem wipeE_un : ∀ {ws : List Nat} {e : Ev} {i : Nat} {s : Slot}, (wipeE e ws)[i]? = some s → s = .un ∨ (i ∉ ws ∧ e[i]? = some s)
  | [], e, i, s, h => .inr ⟨by simp, h⟩
  | w :: ws, e, i, s, h => by
    unfold wipeE at h
    rcases getset h with ⟨_, z, _⟩ | ⟨z, h⟩
    · exact .inl z
    · rcases wipeE_un h with q | ⟨q1, q2⟩
      · exact .inl q
      · exact .inr ⟨by simp only [List.mem_cons, not_or]; exact ⟨fun z2 => z z2.symm, q1⟩, q2⟩
theorem wipeE_length (e : Ev) : ∀ ws : List Nat, (wipeE e ws).length = e.length
  | [] => rfl
  | w :: ws => by unfold wipeE; rw [List.length_set, wipeE_length e ws]
theorem wipe_out {i : Nat} : ∀ {ws : List Nat} {σ : Sig}, i ∉ ws → (wipe σ ws)[i]? = σ[i]?
  | [], σ, _ => rfl
  | w :: ws, σ, h => by
    simp only [List.mem_cons, not_or] at h
    unfold wipe
    rw [List.getElem?_set_ne (fun z => h.1 z.symm)]
    exact wipe_out h.2
/-- the block's own names forgotten: of other slots the same is true -/
theorem Cur.wiped {τ : Sig} {ws : List Nat} (C : Cur K B F H e σ) (hl : τ.length = σ.length) (h : ∀ i, i ∉ ws → τ[i]? = σ[i]?) : Cur K B F H (wipeE e ws) τ := by
  have own : ∀ {i : Nat} {v : Val}, (wipeE e ws)[i]? = some (.own v) → e[i]? = some (.own v) ∧ τ[i]? = σ[i]? := fun {i v} q => by
    rcases wipeE_un q with z | ⟨z1, z2⟩
    · cases z
    · exact ⟨z2, h i z1⟩
  refine ⟨C.post, ⟨C.rel.sub, by rw [wipeE_length, hl]; exact C.rel.len, fun i s o a1 a2 => ?_, fun i j v w a a1 a2 a3 a4 => ?_⟩, fun a ⟨i, v, a1, a2⟩ => ?_, by rw [wipeE_length]; exact C.ln, fun j v hj h' => ?_⟩
  · rcases wipeE_un a1 with z | ⟨z1, z2⟩
    · subst z; trivial
    · exact C.rel.slot i s o z2 (by rw [← h i z1]; exact a2)
  · obtain ⟨b1, b2⟩ := own a1
    obtain ⟨c1, c2⟩ := own a2
    exact C.rel.inj i j v w a b1 c1 (by rw [← b2]; exact a3) (by rw [← c2]; exact a4)
  · obtain ⟨b1, b2⟩ := own a1
    exact C.own a ⟨i, v, b1, by rw [← b2]; exact a2⟩
  · obtain ⟨b1, b2⟩ := own h'
    rw [b2]
    exact C.par j v hj b1
theorem wipe_in {i : Nat} : ∀ {ws : List Nat} {σ : Sig}, i ∈ ws → i < σ.length → (wipe σ ws)[i]? = some none
  | w :: ws, σ, h, hl => by
    unfold wipe
    by_cases hw : w = i
    · subst hw
      rw [List.getElem?_set_self (by rw [wipe_length]; exact hl)]
    · rw [List.getElem?_set_ne hw]
      refine wipe_in ?_ hl
      rcases List.mem_cons.mp h with q | q
      · exact absurd q.symm hw
      · exact q
/-- the slots that a target set are forgotten -/
theorem wipe_upd {ws : List Nat} {τ : Sig} (u : Upd ws (wipe σ ws) τ) : wipe τ ws = wipe σ ws := by
  have l1 : τ.length = σ.length := u.1.trans (wipe_length σ ws)
  refine List.ext_getElem? fun i => ?_
  by_cases hi : i ∈ ws
  · by_cases hl : i < σ.length
    · rw [wipe_in hi (by omega), wipe_in hi hl]
    · rw [List.getElem?_eq_none (by rw [wipe_length]; omega), List.getElem?_eq_none (by rw [wipe_length]; omega)]
  · rw [wipe_out hi, u.2 i hi]
/-- an object of ours that no name owns is written -/
theorem Cur.write {t : Addr} {o o' : HO} (C : Cur K B F H e σ) (h1 : F t = none) (h2 : ¬ Own e σ t) (h3 : B.mine t) (h4 : H t = some o) : Cur K B F (upd H t o') e σ := by
  refine ⟨⟨C.post.sub, fun a o2 q n => ?_, C.post.nw, fun a q => ?_⟩, ⟨fun b o2 q => ?_, C.rel.len, fun i s o2 a1 a2 => ?_, C.rel.inj⟩, C.own, C.ln, C.par⟩
  · have ne : a ≠ t := fun z => by
      subst z
      rcases h3 with z | z
      · exact n z
      · rw [z] at q; cases q
    rw [upd_ne ne]
    exact C.post.fr a o2 q n
  · by_cases ha : a = t
    · rw [ha, upd_same] at q; cases q
    · rw [upd_ne ha] at q; exact C.post.kp a q
  · have ne : b ≠ t := fun z => by rw [z, h1] at q; cases q
    rw [upd_ne ne]
    exact C.rel.sub b o2 q
  · have z := C.rel.slot i s o2 a1 a2
    cases s with
    | un => trivial
    | dat v => exact z
    | own v =>
      obtain ⟨b, b1, b2, b3⟩ := z
      have ne : b ≠ t := fun z => h2 ⟨i, v, a1, by rw [a2, b1, z]⟩
      exact ⟨b, b1, b2, b3.mono (Same.refl _) (upd_ne ne)⟩
end
section
variable {X : Cx} {W : WX} {k : Nat} {elt tg iter : Expr} {ifs : List Expr} {scope : Scope} {own : List (Str × Nat)} {pos : Pos} {mi : M (List Val)} {mt : Val → M Unit} {mc : M Bool} {me : M RV}
theorem sts_nil : STs X W [] mYes := ⟨fun pins s σ H Q I ⟨np, F, e, R, h⟩ => (pts_nil (X := X)).run pins s σ H Q I (h.ok (e' := e) (r := true) rfl (Cur.refl R) rfl)⟩
theorem sts_one {c : Expr} {m : M Bool} (h : ST X W c m) : STs X W [c] m := pts_one h
/-- the reading of a comprehension, over anything that is walked -/
theorem comp_ok {K : PySem.W.Frag} {ws : List Nat} {σ : Sig} {H : Hp} {Q : VK} (h : tE K W (mComp ws mi mt mc me) σ H Q) : tLc (tM K W (RI K) mi) (tG K noW ws mt) (tT K noW mc) (tE K noW me) ws σ H Q := by
  obtain ⟨np, F, e, R, h⟩ := h
  refine use (R1 := RI K) (Cur.refl R) h fun vs e1 F1 H1 J C1 q1 _ h1 => ?_
  obtain ⟨Gd, Y, wk, still, gives⟩ := q1
  intro D hD
  have lw : (wipe σ ws).length = σ.length := wipe_length σ ws
  -- what holds between two turns
  let Pv : Nat → Hp → Prop := fun i H' => ∃ F' e' acc us, Cur K (bg np F H e σ) F' H' (wipeE e' ws) (wipe σ ws) ∧ Same F1 F' ∧ F' D = none ∧ ¬ Own (wipeE e' ws) (wipe σ ws) D ∧ (bg np F H e σ).mine D ∧ H' D = some (.lst us) ∧ VRs K F' acc us ∧
    (match compS ws mt mc me (vs.drop i) acc (wipeE e' ws) with
      | .ok acc' e2 => ∀ F2 H2 t us2, Cur K (bg np F H e σ) F2 H2 e2 (wipe σ ws) → F2 t = none → H2 t = some (.lst us2) → VRs K F2 acc' us2 → ¬ Own e2 (wipe σ ws) t → (bg np F H e σ).mine t → (∃ e3, e2 = wipeE e3 ws) → Q (.ref t) H2
      | _ => False)
  refine lc_it wk Pv ?_ ?_ ?_ ?_
  · -- the start
    obtain ⟨C2, n2, f2, m2⟩ := C1.grow (o := .lst []) hD
    have C3 : Cur K (bg np F H e σ) F1 (upd H1 D (.lst [])) (wipeE e1 ws) (wipe σ ws) := C2.wiped lw fun i hi => wipe_out hi
    refine ⟨F1, e1, [], [], C3, Same.refl _, f2, fun z => n2 ?_, m2, upd_same, .nil, ?_⟩
    · obtain ⟨i, v, z1, z2⟩ := z
      rcases wipeE_un z1 with q | ⟨q1, q2⟩
      · cases q
      · exact ⟨i, v, q2, by rw [← wipe_out q1]; exact z2⟩
    · unfold At at h1
      rw [List.drop_zero]
      cases z : compS ws mt mc me vs [] (wipeE e1 ws) with
      | bad => simp only [z] at h1
      | rs x e2 =>
        -- never: a comprehension gives no exception
        exfalso
        have no : ∀ (vs acc : List Val) (e : Ev) x e2, compS ws mt mc me vs acc e ≠ .rs x e2 := by
          intro vs
          induction vs with
          | nil => intro acc e x e2 z; cases z
          | cons v r ih =>
            intro acc e x e2 z
            unfold compS at z
            split at z
            · split at z
              · split at z
                · split at z
                  · split at z
                    · exact ih _ _ _ _ z
                    · cases z
                  · cases z
                · cases z
              · exact ih _ _ _ _ z
              · cases z
            · cases z
        exact no _ _ _ _ _ z
      | ok acc' e2 =>
        simp only [z] at h1
        intro F2 H2 t us2 D1 d2 d3 d4 d5 d6 d7
        obtain ⟨e3, rfl⟩ := d7
        have D2 : Cur K (bg np F H e σ) F2 H2 (wipeE e3 ws) σ := by
          have z := D1.wiped (ws := ws) (τ := σ) lw.symm fun i hi => (wipe_out hi).symm
          have twice : wipeE (wipeE e3 ws) ws = wipeE e3 ws := by
            refine List.ext_getElem? fun i => ?_
            have l1 : (wipeE (wipeE e3 ws) ws).length = (wipeE e3 ws).length := wipeE_length _ _
            cases q : (wipeE (wipeE e3 ws) ws)[i]? with
            | none =>
              have := List.getElem?_eq_none_iff.mp q
              exact (List.getElem?_eq_none (by omega)).symm
            | some s =>
              rcases wipeE_un q with z | ⟨z1, z2⟩
              · have il : i < (wipeE e3 ws).length := by
                  have := (List.getElem?_eq_some_iff.mp q).1
                  omega
                by_cases hi : i ∈ ws
                · subst z
                  have un : ∀ {ws : List Nat} {e : Ev}, i ∈ ws → i < e.length → (wipeE e ws)[i]? = some .un := by
                    intro ws
                    induction ws with
                    | nil => intro e hm; cases hm
                    | cons w ws ih =>
                      intro e hm hl
                      unfold wipeE
                      by_cases hw : w = i
                      · subst hw
                        rw [List.getElem?_set_self (by rw [wipeE_length]; exact hl)]
                      · rw [List.getElem?_set_ne hw]
                        refine ih ?_ hl
                        rcases List.mem_cons.mp hm with q | q
                        · exact absurd q.symm hw
                        · exact q
                  exact (un hi (by rw [wipeE_length] at il; exact il)).symm
                · have keep : ∀ {ws : List Nat} {e : Ev}, i ∉ ws → (wipeE e ws)[i]? = e[i]? := by
                    intro ws
                    induction ws with
                    | nil => intro e _; rfl
                    | cons w ws ih =>
                      intro e hm
                      simp only [List.mem_cons, not_or] at hm
                      unfold wipeE
                      rw [List.getElem?_set_ne (fun z => hm.1 z.symm)]
                      exact ih hm.2
                  rw [keep hi] at q
                  exact q.symm
              · exact z2.symm
          rw [twice] at z
          exact z
        refine h1 F2 H2 (.ref t) D2 ⟨t, rfl, d2, ⟨us2, d3, d4⟩, fun ⟨i, v, z1, z2⟩ => d5 ?_, d6⟩
        rcases wipeE_un z1 with q | ⟨q1, q2⟩
        · cases q
        · exact ⟨i, v, z1, by rw [wipe_out q1]; exact z2⟩
  · rintro i H' _ ⟨F', e', acc, us, C', s', _⟩
    exact still H' (s'.trans C'.rel.sub)
  · -- a turn
    rintro i x H' H2 hi ⟨F', e', acc, us, C', s', fD, oD, mD, hD', ra, h'⟩ y
    have hv : vs[i]? = some vs[i] := List.getElem?_eq_getElem hi
    obtain ⟨F2, C2, s2, r2⟩ := gives i _ _ _ _ _ _ _ _ hv C' s' y
    rw [List.drop_eq_getElem_cons hi] at h'
    have keepD : ∀ {F3 H3 : Hp} {e3 : Ev} {σ3 : Sig}, Cur K (bg np F' H' (wipeE e' ws) (wipe σ ws)) F3 H3 e3 σ3 → F3 D = none ∧ H3 D = some (.lst us) ∧ ¬ Own e3 σ3 D := fun {F3 H3 e3 σ3} c => by
      have no : ¬ (bg np F' H' (wipeE e' ws) (wipe σ ws)).mine D := fun z => by
        rcases z with z | z
        · exact oD z
        · have z' : H' D = none := z
          rw [hD'] at z'; cases z'
      refine ⟨?_, c.post.fr D _ hD' oD, fun z => no (c.own D z)⟩
      cases q : F3 D with
      | none => rfl
      | some o =>
        rcases c.post.nw D (by rw [q]; simp) with z | z
        · exact absurd fD z
        · exact absurd z no
    -- the walk itself gave the item: since the turn's beginning
    obtain ⟨F2', C2', s2', r2'⟩ := gives i _ (bg np F' H' (wipeE e' ws) (wipe σ ws)) _ _ _ _ _ _ hv (Cur.refl C'.rel) s' y
    refine ⟨np, F2', _, vs[i], C2'.rel, r2', ?_⟩
    unfold compS at h'
    unfold AtG
    cases z : mt vs[i] (wipeE e' ws) with
    | bad => simp only [z] at h'
    | rs x2 e2 => simp only [z] at h'
    | ok _ e2 =>
      simp only [z] at h'
      intro F3 H3 σ3 C3 up
      have D3 := C2'.trans C3
      have w3 : wipe σ3 ws = wipe σ ws := wipe_upd up
      refine ⟨w3, np, F3, e2, C3.rel, ?_⟩
      unfold At
      cases z2 : mc e2 with
      | bad => simp only [z2] at h'
      | rs x2 e2 => simp only [z2] at h'
      | ok b e3 =>
        intro F4 H4 b' C4 eb
        have eb' : b = b' := eb
        subst eb'
        have D4 := D3.trans C4
        cases b with
        | false =>
          simp only [z2] at h'
          obtain ⟨k1, k2, k3⟩ := keepD D4
          have D5 : Cur K (bg np F' H' (wipeE e' ws) (wipe σ ws)) F4 H4 (wipeE e3 ws) (wipe σ ws) := D4.wiped (by rw [← w3]; exact wipe_length _ _) fun i hi => by rw [← w3]; exact wipe_out hi
          obtain ⟨l1, l2, l3⟩ := keepD D5
          exact ⟨F4, e3, acc, us, C'.trans D5, s'.trans (D5.post.sub), l1, l3, mD, l2, ra.mono D5.post.sub, h'⟩
        | true =>
          simp only [z2] at h'
          refine ⟨np, F4, e3, C4.rel, ?_⟩
          unfold At
          cases z3 : me e3 with
          | bad => simp only [z3] at h'
          | rs x2 e2 => simp only [z3] at h'
          | ok x e4 =>
            simp only [z3] at h'
            intro F5 H5 u C5 q5
            have D5 := D4.trans C5
            have q5' : RR K (bg np F' H' (wipeE e' ws) (wipe σ ws)) F5 H5 e4 σ3 x u := q5.out D4
            cases z4 : M.dt x e4 with
            | bad => simp only [z4] at h'
            | rs x2 e2 => simp only [z4] at h'
            | ok w e5 =>
              simp only [z4] at h'
              obtain ⟨F6, C6, s6, r6, _⟩ := dt_go D5 q5' z4
              by_cases hl : acc.length < sizeLine
              · rw [if_pos hl] at h'
                have D6 : Cur K (bg np F' H' (wipeE e' ws) (wipe σ ws)) F6 H5 (wipeE e5 ws) (wipe σ ws) := C6.wiped (by rw [← w3]; exact wipe_length _ _) fun i hi => by rw [← w3]; exact wipe_out hi
                obtain ⟨l1, l2, l3⟩ := keepD D6
                refine ⟨us, l2, by rw [← ra.length]; exact hl, ?_⟩
                have D7 := C'.trans D6
                exact ⟨F6, e5, acc ++ [w], us ++ [u], D7.write l1 l3 mD l2, s'.trans D6.post.sub, l1, l3, mD, upd_same, (ra.mono D6.post.sub).append (.cons r6 .nil), h'⟩
              · rw [if_neg hl] at h'
                exact h'.elim
  · rintro H' ⟨F', e', acc, us, C', s', fD, oD, mD, hD', ra, h'⟩
    rw [List.drop_length] at h'
    exact h' F' H' D us C' fD hD' ra oD mD ⟨e', rfl⟩
/-- [elt for tg in iter if ..] -/
theorem se_comp (hc : X.calm = true) (hN : X.N.Nodup) (hi : SI X W tg iter mi) (ok : BlkOk X.N X.env.scope scope own)
    (hg : ∀ (s : Shared) (H : Hp) (C : Addr) (cl : List (Str × Addr)) (fp : List Addr), SG (X.blk s H scope (compEnvC scope cl C X.env) fp) noW (own.map (·.2)) tg mt)
    (ht : ∀ (s : Shared) (H : Hp) (C : Addr) (cl : List (Str × Addr)) (fp : List Addr), STs (X.blk s H scope (compEnvC scope cl C X.env) fp) noW ifs mc)
    (he : ∀ (s : Shared) (H : Hp) (C : Addr) (cl : List (Str × Addr)) (fp : List Addr), SE (X.blk s H scope (compEnvC scope cl C X.env) fp) noW elt me) (hs : ∀ x, foldedSetIterable iter X.env x = pure x := by intro _; rfl) :
    SE X W (.ListComp elt [⟨tg, iter, ifs, 0⟩] scope pos) (mComp (own.map (·.2)) mi mt mc me) :=
  PE.imp (pe_lc (te := tE X.K noW me) (tt := tT X.K noW mc) (g := tG X.K noW (own.map (·.2)) mt) hc hN hi ok hg ht he hs) fun _ _ _ h => comp_ok h
/-- name = [..] -/
theorem ss_comp (i : Nat) {np : Nat} {y : Str} {py spos : Pos} (G : Good X k W) (hi : SI X W tg iter mi) (ok : BlkOk X.N X.env.scope scope own)
    (hg : ∀ (s : Shared) (H : Hp) (C : Addr) (cl : List (Str × Addr)) (fp : List Addr), SG (X.blk s H scope (compEnvC scope cl C X.env) fp) noW (own.map (·.2)) tg mt)
    (ht : ∀ (s : Shared) (H : Hp) (C : Addr) (cl : List (Str × Addr)) (fp : List Addr), STs (X.blk s H scope (compEnvC scope cl C X.env) fp) noW ifs mc)
    (he : ∀ (s : Shared) (H : Hp) (C : Addr) (cl : List (Str × Addr)) (fp : List Addr), SE (X.blk s H scope (compEnvC scope cl C X.env) fp) noW elt me)
    (hsw : swapsWith (.ListComp elt [⟨tg, iter, ifs, 0⟩] scope pos) (some (.Name y py)) spos.line X.env = pure true) (hp : np ≤ i := by decide) (hy : X.N[i]? = some y := by rfl) (hyl : X.env.scope.names.lookup y = some .local := by rfl)
    (hs : ∀ x, foldedSetIterable iter X.env x = pure x := by intro _; rfl) :
    SS X W np (.Assign [.Name y py] (.ListComp elt [⟨tg, iter, ifs, 0⟩] scope pos) spos) (mSet i (mComp (own.map (·.2)) mi mt mc me)) := by
  refine PS.imp (ps_setLc (te := tE X.K noW me) (tt := tT X.K noW mc) (g := tG X.K noW (own.map (·.2)) mt) G.calm G.nd hy hyl hsw hi ok hg ht he hs) fun D σ H h => ?_
  refine comp_ok ?_
  obtain ⟨F, e, R, h⟩ := h
  exact useX (R1 := RR X.K) (Cur.refl R) h fun r e1 F1 H1 u C1 q1 _ h1 => st_ok hp C1 q1 h1
end
end Pu
set_option Elab.async false
set_option linter.all false
set_option maxRecDepth 100000
/-! Pu, part L: defs and their calls. -/
namespace Pu
open PySem PySem.Spec PyProof.Rows L2
/-- what the parameters' own objects became; the others are forgotten -/
def outE : Ev → Ev
  | [] => []
  | .own v :: r => .own v :: outE r
  | .un :: r => .un :: outE r
  | .dat _ :: r => .un :: outE r
theorem outE_len : ∀ e : Ev, (outE e).length = e.length
  | [] => rfl
  | .own v :: r => congrArg Nat.succ (outE_len r)
  | .un :: r => congrArg Nat.succ (outE_len r)
  | .dat _ :: r => congrArg Nat.succ (outE_len r)
theorem outE_get : ∀ {e : Ev} {i : Nat} {s : Slot}, (outE e)[i]? = some s → s = .un ∨ ∃ v, s = .own v ∧ e[i]? = some (.own v)
  | [], i, s, h => by simp [outE] at h
  | .own v :: r, 0, s, h => by
    simp only [outE, List.getElem?_cons_zero, Option.some.injEq] at h
    exact .inr ⟨v, h.symm, rfl⟩
  | .un :: r, 0, s, h => by
    simp only [outE, List.getElem?_cons_zero, Option.some.injEq] at h
    exact .inl h.symm
  | .dat _ :: r, 0, s, h => by
    simp only [outE, List.getElem?_cons_zero, Option.some.injEq] at h
    exact .inl h.symm
  | .own v :: r, i + 1, s, h => by
    simp only [outE, List.getElem?_cons_succ] at h ⊢
    exact outE_get h
  | .un :: r, i + 1, s, h => by
    simp only [outE, List.getElem?_cons_succ] at h ⊢
    exact outE_get h
  | .dat _ :: r, i + 1, s, h => by
    simp only [outE, List.getElem?_cons_succ] at h ⊢
    exact outE_get h
def retV (n : Nat) (r : RV) (e : Ev) : Res RV := match r with
  | .dat v => .ok (.dat v) (outE (e.take n))
  | .tmp v => .ok (.tmp v) (outE (e.take n))
  | .bor i => match e[i]? with
    | some (.own v) => .ok (.tmp v) (outE ((e.set i .un).take n))
    | some (.dat v) => .ok (.dat v) (outE (e.take n))
    | _ => .bad
/-- a def by its body: on the slots of its parameters -/
def fnDen (n nn : Nat) (body : S) : M RV := fun e => if e.length = n then (match body (e ++ List.replicate (nn - n) Slot.un) with
  | .ok .nx e' => .ok (.dat .non) (outE (e'.take n))
  | .ok (.rt r) e' => retV n r e'
  | .rs x e' => .rs x (outE (e'.take n))
  | _ => .bad) else .bad
def spG (K : PySem.W.Frag) (n : Nat) (f : M RV) : Sp := fun vs H Q E => vs.length = n ∧ tM K (fun c d _ H => E c d H) (RR K) f (vs.map some) H Q
section
variable {K : PySem.W.Frag} {F F' H H' : Hp} {e e' : Ev} {σ σ' : Sig} {n np k : Nat}
theorem own_app {m : Nat} (hl : e.length = σ.length) (a : Addr) : Own (e ++ List.replicate m Slot.un) (σ ++ List.replicate k none) a ↔ Own e σ a := by
  constructor
  · rintro ⟨i, v, h1, h2⟩
    by_cases hi : i < e.length
    · rw [List.getElem?_append_left hi] at h1
      rw [List.getElem?_append_left (by omega)] at h2
      exact ⟨i, v, h1, h2⟩
    · rw [List.getElem?_append_right (by omega), List.getElem?_replicate] at h1
      split at h1 <;> cases h1
  · rintro ⟨i, v, h1, h2⟩
    have hi : i < e.length := (List.getElem?_eq_some_iff.mp h1).1
    exact ⟨i, v, by rw [List.getElem?_append_left hi]; exact h1, by rw [List.getElem?_append_left (by omega)]; exact h2⟩
theorem rel_app {m : Nat} (R : Rel K F H e σ) (hm : m = k) : Rel K F H (e ++ List.replicate m Slot.un) (σ ++ List.replicate k none) := by
  have l := R.len
  have low : ∀ {i : Nat} {v : Val}, (e ++ List.replicate m Slot.un)[i]? = some (.own v) → i < e.length ∧ e[i]? = some (.own v) := fun {i v} h => by
    by_cases hi : i < e.length
    · rw [List.getElem?_append_left hi] at h; exact ⟨hi, h⟩
    · rw [List.getElem?_append_right (by omega), List.getElem?_replicate] at h
      split at h <;> cases h
  refine ⟨R.sub, by simp [l, hm], fun i s o h1 h2 => ?_, fun i j v w a h1 h2 h3 h4 => ?_⟩
  · by_cases hi : i < e.length
    · rw [List.getElem?_append_left hi] at h1
      rw [List.getElem?_append_left (by omega)] at h2
      exact R.slot i s o h1 h2
    · rw [List.getElem?_append_right (by omega), List.getElem?_replicate] at h1
      split at h1
      · cases h1; trivial
      · cases h1
  · obtain ⟨a1, a2⟩ := low h1
    obtain ⟨b1, b2⟩ := low h2
    rw [List.getElem?_append_left (by omega)] at h3 h4
    exact R.inj i j v w a a2 b2 h3 h4
/-- back at the caller: the parameters' slots, as they were called -/
theorem out_cur {m : Nat} {x : Ev} (hl : e.length = n) (hs : σ.length = n) (C : Cur K (bg n F H (e ++ List.replicate m Slot.un) (σ ++ List.replicate k none)) F' H' e' σ') (hx : ∀ (i : Nat) (v : Val), x[i]? = some (Slot.own v) → e'[i]? = some (Slot.own v)) (lx : x.length = e'.length) :
    Cur K (bg np F H e σ) F' H' (outE (x.take n)) σ := by
  have low : ∀ {i : Nat} {v : Val}, (outE (x.take n))[i]? = some (.own v) → i < n ∧ e'[i]? = some (.own v) ∧ σ'[i]? = σ[i]? ∧ ∃ w, e[i]? = some (.own w) := fun {i v} h => by
    rcases outE_get h with z | ⟨w, z, h2⟩
    · cases z
    · cases z
      have hi : i < n := by
        have := (List.getElem?_eq_some_iff.mp h2).1
        rw [List.length_take] at this
        omega
      rw [List.getElem?_take_of_lt hi] at h2
      have h3 := hx i v h2
      obtain ⟨h4, w, h5⟩ := C.par i v hi h3
      have h4' : σ'[i]? = (σ ++ List.replicate k none)[i]? := h4
      have h5' : (e ++ List.replicate m Slot.un)[i]? = some (.own w) := h5
      rw [List.getElem?_append_left (by omega)] at h4' h5'
      exact ⟨hi, h3, h4', w, h5'⟩
  have len : (outE (x.take n)).length = n := by
    rw [outE_len, List.length_take, lx]
    have := C.ln
    have e1 : e'.length = (e ++ List.replicate m Slot.un).length := this
    rw [List.length_append] at e1
    omega
  have O : ∀ a, (bg n F H (e ++ List.replicate m Slot.un) (σ ++ List.replicate k none)).O a ↔ Own e σ a := fun a => own_app (by omega) a
  have mine : ∀ {a}, (bg n F H (e ++ List.replicate m Slot.un) (σ ++ List.replicate k none)).mine a → (bg np F H e σ).mine a := fun {a} h => by
    rcases h with h | h
    · exact .inl ((O a).mp h)
    · exact .inr h
  refine ⟨⟨C.post.sub, fun a o h1 h2 => C.post.fr a o h1 fun z => h2 ((O a).mp z), fun a h => ?_, C.post.kp⟩, ⟨C.rel.sub, by rw [len, hs], fun i s o h1 h2 => ?_, fun i j v w a h1 h2 h3 h4 => ?_⟩, fun a ⟨i, v, h1, h2⟩ => ?_, by rw [len]; exact hl.symm, fun i v _ h => ?_⟩
  · rcases C.post.nw a h with z | z
    · exact .inl z
    · exact .inr (mine z)
  · rcases outE_get h1 with z | ⟨w, z, h3⟩
    · subst z; trivial
    · subst z
      obtain ⟨a1, a2, a3, _⟩ := low h1
      exact C.rel.slot i _ o a2 (by rw [a3]; exact h2)
  · obtain ⟨a1, a2, a3, _⟩ := low h1
    obtain ⟨b1, b2, b3, _⟩ := low h2
    exact C.rel.inj i j v w a a2 b2 (by rw [a3]; exact h3) (by rw [b3]; exact h4)
  · obtain ⟨a1, a2, a3, _⟩ := low h1
    exact mine (C.own a ⟨i, v, a2, by rw [a3]; exact h2⟩)
  · obtain ⟨a1, a2, a3, a4⟩ := low h
    exact ⟨rfl, a4⟩
theorem take_own {x : Ev} {i : Nat} {v : Val} (h : (x.set k .un)[i]? = some (.own v)) : x[i]? = some (.own v) := by
  rcases getset h with ⟨_, z, _⟩ | ⟨_, z⟩
  · cases z
  · exact z
end
section
variable {P : Program} {w : World} {K : PySem.W.Frag} {mg : Str → Option Value} {base : Heap}
/-- a def keeps the promise of its combinator -/
theorem fn_ok {x qual : Str} {params : Arguments} {body : List Stmt} {scope : Scope} {dvs : List V} {kws : List (Str × V)} {f : Addr} {fd : FuncData} {N ps : List Str} {k n nn : Nat} {mb : S} (D : FunD K x qual params body scope dvs kws f fd) (S : FnScope N ps scope)
    (h1 : ps.length = n) (h2 : N.length = nn)
    (hb : ∀ (cdv : Value) (A : Around) (outer : List Env) (s : Shared) (H : Hp) (E : XK), Good (cxOf (L2.CX P w) P w K mg base N qual scope f cdv A outer s H E) k (fun c d _ H => E c d H) →
      SB (cxOf (L2.CX P w) P w K mg base N qual scope f cdv A outer s H E) (fun c d _ H => E c d H) n body mb) : FnG P w K mg base (k + 1) f fd ps (spG K n (fnDen n nn mb)) := by
  refine fnG_of D S (fun vs H Q E h => h.1.trans h1.symm) fun cdv A outer s H vs Q E hr hG h => ?_
  have G : Good (cxOf (L2.CX P w) P w K mg base N qual scope f cdv A outer s H E) k (fun c d _ H => E c d H) :=
    ⟨S.nd, rfl, hr, guards_deeper hG, takes_of rfl rfl rfl rfl, passes_of (K := fun e s'' => L2.CX P w outer H s E e s'') rfl⟩
  refine ⟨_, hb cdv A outer s H E G, ?_⟩
  obtain ⟨hl, np, F, e, R, h⟩ := h
  have el : e.length = n := by rw [R.len, List.length_map, hl]
  have sl : (vs.map some).length = n := by rw [List.length_map, hl]
  have R0 := rel_app (m := nn - n) (k := N.length - vs.length) R (by rw [h2, hl])
  refine ⟨F, e ++ List.replicate (nn - n) Slot.un, (show Rel K F H (e ++ List.replicate (nn - n) Slot.un) (start N vs) from R0), ?_⟩
  unfold At fnDen at h
  rw [if_pos el] at h
  unfold AtS
  show match mb (e ++ List.replicate (nn - n) Slot.un) with
    | .ok .nx e' => _
    | .ok .bk e' => _
    | .ok .ct e' => _
    | .ok (.rt r) e' => _
    | .rs x e' => _
    | .bad => _
  cases z : mb (e ++ List.replicate (nn - n) Slot.un) with
  | bad => simp only [z] at h
  | rs y e' =>
    simp only [z] at h
    intro F' H' σ' cls d C X
    exact h F' H' cls d (out_cur el sl C (fun _ _ q => q) rfl) X
  | ok o e' =>
    cases o with
    | bk => simp only [z] at h
    | ct => simp only [z] at h
    | nx =>
      simp only [z] at h
      intro F' H' σ' C
      exact h F' H' .non (out_cur el sl C (fun _ _ q => q) rfl) VR.non
    | rt r =>
      simp only [z] at h
      intro F' H' σ' u C q
      cases r with
      | dat v => exact h F' H' u (out_cur el sl C (fun _ _ q => q) rfl) q
      | tmp v =>
        obtain ⟨t, rfl, q2, q3, q4, q5⟩ := q
        have C2 := out_cur (np := np) el sl C (fun _ _ q => q) rfl
        refine h F' H' (.ref t) C2 ⟨t, rfl, q2, q3, fun ⟨i, v', a1, a2⟩ => q4 ?_, ?_⟩
        · rcases outE_get a1 with z | ⟨w', z, a3⟩
          · cases z
          · cases z
            have hi : i < n := by
              have := (List.getElem?_eq_some_iff.mp a3).1
              rw [List.length_take] at this
              omega
            rw [List.getElem?_take_of_lt hi] at a3
            obtain ⟨h4, _⟩ := C.par i v' hi a3
            have h4' : σ'[i]? = (start N vs)[i]? := h4
            refine ⟨i, v', a3, ?_⟩
            rw [h4']
            unfold L2.start
            rw [List.getElem?_append_left (by omega)]
            exact a2
        · rcases q5 with q5 | q5
          · exact .inl ((own_app (by omega) t).mp q5)
          · exact .inr q5
      | bor i =>
        unfold retV at h
        dsimp only at h
        cases z2 : e'[i]? with
        | none => simp only [z2] at h
        | some sl' =>
          cases sl' with
          | un => simp only [z2] at h
          | dat v =>
            simp only [z2] at h
            obtain ⟨y, a1, a2⟩ := C.rel.slot i _ _ z2 q
            cases a1
            exact h F' H' u (out_cur el sl C (fun _ _ q => q) rfl) a2
          | own v =>
            simp only [z2] at h
            obtain ⟨t, a1, a2, a3⟩ := C.rel.slot i _ _ z2 q
            cases a1
            have C2 := out_cur (np := np) (x := e'.set i .un) el sl C (fun _ _ q => take_own q) (List.length_set)
            refine h F' H' (.ref t) C2 ⟨t, rfl, a2, a3, fun ⟨j, v', b1, b2⟩ => ?_, ?_⟩
            · rcases outE_get b1 with z | ⟨w', z, b3⟩
              · cases z
              · cases z
                have hi : j < n := by
                  have := (List.getElem?_eq_some_iff.mp b3).1
                  rw [List.length_take] at this
                  omega
                rw [List.getElem?_take_of_lt hi] at b3
                rcases getset b3 with ⟨_, z, _⟩ | ⟨ne, b3⟩
                · cases z
                · obtain ⟨h4, _⟩ := C.par j v' hi b3
                  have h4' : σ'[j]? = (start N vs)[j]? := h4
                  have b4 : σ'[j]? = some (some (V.ref t)) := by
                    rw [h4']
                    unfold L2.start
                    rw [List.getElem?_append_left (by omega)]
                    exact b2
                  exact ne (C.rel.inj i j v v' t z2 b3 q b4)
            · rcases C.own t ⟨i, v, z2, q⟩ with q5 | q5
              · exact .inl ((own_app (by omega) t).mp q5)
              · exact .inr q5
end
end Pu
set_option Elab.async false
set_option linter.all false
set_option maxRecDepth 100000
/-! Pu, part M: calls. -/
namespace Pu
open PySem PySem.Spec PyProof.Rows L2
/-- the slots that a callee gets (true: the object itself, false: a tree), and what the caller holds meanwhile -/
def argsE : List Bool → List RV → Ev → Option (Ev × Ev)
  | [], [], e => some ([], e)
  | false :: ms, r :: rs, e => match M.dt r e with
    | .ok v e' => match argsE ms rs e' with
      | some (p, e2) => some (.dat v :: p, e2)
      | none => none
    | _ => none
  | true :: ms, .dat v :: rs, e => match argsE ms rs e with
    | some (p, e2) => some (.dat v :: p, e2)
    | none => none
  | true :: ms, .tmp v :: rs, e => match argsE ms rs e with
    | some (p, e2) => some (.own v :: p, e2)
    | none => none
  | true :: ms, .bor i :: rs, e => match e[i]? with
    | some (.own v) => match argsE ms rs (e.set i .un) with
      | some (p, e2) => some (.own v :: p, e2)
      | none => none
    | _ => none
  | _, _, _ => none
/-- what was lent is back -/
def backE : List Bool → List RV → Ev → Ev → Ev
  | true :: ms, .bor i :: rs, .own v :: p, e => backE ms rs p (e.set i (.own v))
  | _ :: ms, _ :: rs, _ :: p, e => backE ms rs p e
  | _, _, _, e => e
section
variable {K : PySem.W.Frag} {W : WX} {B : Bg} {H : Hp} {σ : Sig}
def Src (e : Ev) (σ : Sig) (rs : List RV) (us : List V) (a : Addr) : Prop := Own e σ a ∨ ∃ (j : Nat) (w : Val), rs[j]? = some (.tmp w) ∧ us[j]? = some (.ref a)
theorem RRs.tail_keep {F F1 : Hp} {e e1 : Ev} {r : RV} {u : V} (keep : ∀ r' u', RR K B F H e σ r' u' → (∀ v w, r = .tmp v → r' = .tmp w → u' ≠ u) → RR K B F1 H e1 σ r' u') :
    ∀ {rs : List RV} {us : List V}, RRs K B F H e σ rs us → (∀ v, r = .tmp v → ∀ (j : Nat) w, rs[j]? = some (.tmp w) → us[j]? ≠ some u) → RRs K B F1 H e1 σ rs us := fun {rs us} z => by
  induction z with
  | nil => intro _; exact .nil
  | cons a b c ih =>
    intro d
    refine .cons (keep _ _ a fun v w e1 e2 e3 => d v e1 0 w (by rw [e2]; rfl) (by rw [e3]; rfl)) b (ih fun v e1 j w e2 => ?_)
    exact d v e1 (j + 1) w (by simpa using e2)
theorem dt_more {F : Hp} {e e' : Ev} {r : RV} {u : V} {v : Val} (C : Cur K B F H e σ) (h : RR K B F H e σ r u) (q : M.dt r e = .ok v e') :
    ∃ F', Cur K B F' H e' σ ∧ Same F F' ∧ VR K F' v u ∧ (∀ r' u', RR K B F H e σ r' u' → (∀ v w, r = .tmp v → r' = .tmp w → u' ≠ u) → RR K B F' H e' σ r' u') ∧
      (∀ a, Own e' σ a → Own e σ a) ∧ ∀ a, F' a ≠ none → F a ≠ none ∨ Own e σ a ∨ ∃ w, r = .tmp w ∧ u = .ref a := by
  cases r with
  | dat w =>
    obtain ⟨F', a, b, c, d⟩ := dt_go C h q
    cases q
    exact ⟨F, C, Same.refl _, h, fun _ _ z _ => z, fun _ z => z, fun _ z => .inl z⟩
  | tmp w =>
    cases q
    obtain ⟨t, h1, h2, h3, h4, h5⟩ := h
    subst h1
    refine ⟨frz F H t, C.frz h2 h4 h5, frz_sub h2, h3.vr (frz_sub h2) frz_same, fun r' u' z d => ?_, fun _ z => z, fun a z => ?_⟩
    · cases r' with
      | dat v => exact VR.mono (frz_sub h2) z
      | bor i => exact z
      | tmp w' =>
        obtain ⟨t', a1, a2, a3, a4, a5⟩ := z
        have ne : t' ≠ t := fun z => d v w' rfl rfl (by rw [a1, z])
        exact ⟨t', a1, by rw [frz_ne ne]; exact a2, a3.mono (frz_sub h2) rfl, a4, a5⟩
    · by_cases ha : a = t
      · exact .inr (.inr ⟨v, rfl, by rw [ha]⟩)
      · rw [frz_ne ha] at z; exact .inl z
  | bor i =>
    have h' : σ[i]? = some (some u) := h
    have q0 := q
    unfold M.dt at q
    cases z : e[i]? with
    | none => simp only [z] at q; cases q
    | some s =>
      cases s with
      | un => simp only [z] at q; cases q
      | dat w =>
        obtain ⟨F', a, b, c, d⟩ := dt_go C h q0
        simp only [z] at q
        cases q
        refine ⟨F, C, Same.refl _, ?_, fun _ _ z _ => z, fun _ z => z, fun _ z => .inl z⟩
        obtain ⟨x, h1, h2⟩ := C.rel.slot i _ _ z h'
        rw [Option.some.inj h1]; exact h2
      | own w =>
        simp only [z] at q
        cases q
        obtain ⟨t, h1, h2, h3⟩ := C.rel.slot i _ _ z h'
        have eu : u = .ref t := Option.some.inj h1
        subst eu
        have no : ∀ {a}, Own (e.set i .un) σ a → a ≠ t := fun {a} ⟨j, w, b1, b2⟩ z2 => by
          rcases getset b1 with ⟨_, z3, _⟩ | ⟨z3, b1⟩
          · cases z3
          · rw [z2] at b2
            exact z3 (C.rel.inj i j v w t z b1 h' b2)
        have ot : Own e σ t := ⟨i, v, z, h'⟩
        have C2 := (C.forget (i := i)).frz h2 (fun z2 => no z2 rfl) (C.own t ot)
        have C3 : Cur K B (Pu.frz F H t) H ((e.set i .un).set i (.dat v)) σ := C2.slot (fun _ z => nomatch z) fun o ho => by
          rw [h'] at ho; cases ho
          exact ⟨_, rfl, h3.vr (frz_sub h2) frz_same⟩
        rw [List.set_set] at C3
        refine ⟨_, C3, frz_sub h2, h3.vr (frz_sub h2) frz_same, fun r' u' zz d => ?_, fun a z => z.unset1 Slot.dat_ne, fun a z2 => ?_⟩
        · cases r' with
          | dat v => exact VR.mono (frz_sub h2) zz
          | bor i => exact zz
          | tmp w =>
            obtain ⟨t', a1, a2, a3, a4, a5⟩ := zz
            have ne : t' ≠ t := fun z3 => a4 (by rw [z3]; exact ot)
            exact ⟨t', a1, by rw [frz_ne ne]; exact a2, a3.mono (frz_sub h2) rfl, fun z4 => a4 (z4.unset1 Slot.dat_ne), a5⟩
        · by_cases ha : a = t
          · exact .inr (.inl (by rw [ha]; exact ot))
          · rw [frz_ne ha] at z2; exact .inl z2
theorem args_ok : ∀ {ms : List Bool} {rs : List RV} {us : List V} {pe e1 e : Ev} {F : Hp}, Cur K B F H e σ → RRs K B F H e σ rs us → argsE ms rs e = some (pe, e1) →
    ∃ F1, Cur K B F1 H e1 σ ∧ Same F F1 ∧ Rel K F1 H pe (us.map some) ∧ (∀ a, Own e1 σ a → Own e σ a) ∧ (∀ a, Own pe (us.map some) a → B.mine a ∧ ¬ Own e1 σ a ∧ Src e σ rs us a) ∧
      (∀ a, F1 a ≠ none → F a ≠ none ∨ Src e σ rs us a) ∧
      (∀ (j i : Nat), ms[j]? = some true → rs[j]? = some (.bor i) → i < B.np → σ[i]? = B.sg[i]? ∧ ∃ w, B.ev[i]? = some (.own w))
  | [], [], us, pe, e1, e, F, C, r, h => by
    cases r
    cases h
    refine ⟨F, C, Same.refl _, ⟨C.rel.sub, rfl, fun i s o h => by simp at h, fun i j v w a h => by simp at h⟩, fun _ z => z, fun a ⟨i, v, h, _⟩ => by simp at h, fun _ z => .inl z, fun j i h => by simp at h⟩
  | false :: ms, r :: rs, us, pe, e1, e, F, C, q, h => by
    cases q with
    | cons q1 d t =>
      rename_i u us
      unfold argsE at h
      cases z : M.dt r e with
      | bad => simp only [z] at h; cases h
      | rs x e' => exact (dt_some _ _ z).elim
      | ok v e' =>
        simp only [z] at h
        obtain ⟨F2, C2, s2, r2, keep, om, fm⟩ := dt_more C q1 z
        cases z2 : argsE ms rs e' with
        | none => simp only [z2] at h; cases h
        | some pr =>
          obtain ⟨p, e2⟩ := pr
          simp only [z2] at h
          cases h
          obtain ⟨F3, C3, s3, R3, o3, m3, f3, p3⟩ := args_ok C2 (RRs.tail_keep keep t d) z2
          have up : ∀ {a}, Src e' σ rs us a → Src e σ (r :: rs) (u :: us) a := fun {a} y => by
            rcases y with y | ⟨j, w, y1, y2⟩
            · exact .inl (om a y)
            · exact .inr ⟨j + 1, w, by simpa using y1, by simpa using y2⟩
          refine ⟨F3, C3, s2.trans s3, ⟨R3.sub, by simp [R3.len], fun i s o h1 h2 => ?_, fun i j v' w a h1 h2 h3 h4 => ?_⟩, fun a y => om a (o3 a y), fun a ⟨i, v', h1, h2⟩ => ?_, fun a y => ?_, fun j i y1 y2 => ?_⟩
          · cases i with
            | zero =>
              simp only [List.getElem?_cons_zero, Option.some.injEq, List.map_cons] at h1 h2
              subst h1 h2
              exact ⟨u, rfl, r2.mono s3⟩
            | succ i => exact R3.slot i s o (by simpa using h1) (by simpa using h2)
          · cases i with
            | zero => simp at h1
            | succ i => cases j with
              | zero => simp at h2
              | succ j => rw [R3.inj i j v' w a (by simpa using h1) (by simpa using h2) (by simpa using h3) (by simpa using h4)]
          · cases i with
            | zero => simp at h1
            | succ i =>
              obtain ⟨y1, y2, y3⟩ := m3 a ⟨i, v', by simpa using h1, by simpa using h2⟩
              exact ⟨y1, y2, up y3⟩
          · rcases f3 a y with y | y
            · rcases fm a y with y | y | ⟨w, y1, y2⟩
              · exact .inl y
              · exact .inr (.inl y)
              · exact .inr (.inr ⟨0, w, by rw [y1]; rfl, by rw [y2]; rfl⟩)
            · exact .inr (up y)
          · cases j with
            | zero => simp at y1
            | succ j => exact p3 j i (by simpa using y1) (by simpa using y2)
  | true :: ms, .dat v :: rs, us, pe, e1, e, F, C, q, h => by
    cases q with
    | cons q1 d t =>
      rename_i u us
      unfold argsE at h
      cases z2 : argsE ms rs e with
      | none => simp only [z2] at h; cases h
      | some pr =>
        obtain ⟨p, e2⟩ := pr
        simp only [z2] at h
        cases h
        obtain ⟨F3, C3, s3, R3, o3, m3, f3, p3⟩ := args_ok C t z2
        have up : ∀ {a}, Src e σ rs us a → Src e σ (.dat v :: rs) (u :: us) a := fun {a} y => by
          rcases y with y | ⟨j, w, y1, y2⟩
          · exact .inl y
          · exact .inr ⟨j + 1, w, by simpa using y1, by simpa using y2⟩
        refine ⟨F3, C3, s3, ⟨R3.sub, by simp [R3.len], fun i s o h1 h2 => ?_, fun i j v' w a h1 h2 h3 h4 => ?_⟩, o3, fun a ⟨i, v', h1, h2⟩ => ?_, fun a y => ?_, fun j i y1 y2 => ?_⟩
        · cases i with
          | zero =>
            simp only [List.getElem?_cons_zero, Option.some.injEq, List.map_cons] at h1 h2
            subst h1 h2
            exact ⟨u, rfl, VR.mono s3 q1⟩
          | succ i => exact R3.slot i s o (by simpa using h1) (by simpa using h2)
        · cases i with
          | zero => simp at h1
          | succ i => cases j with
            | zero => simp at h2
            | succ j => rw [R3.inj i j v' w a (by simpa using h1) (by simpa using h2) (by simpa using h3) (by simpa using h4)]
        · cases i with
          | zero => simp at h1
          | succ i =>
            obtain ⟨y1, y2, y3⟩ := m3 a ⟨i, v', by simpa using h1, by simpa using h2⟩
            exact ⟨y1, y2, up y3⟩
        · rcases f3 a y with y | y
          · exact .inl y
          · exact .inr (up y)
        · cases j with
          | zero => simp at y2
          | succ j => exact p3 j i (by simpa using y1) (by simpa using y2)
  | true :: ms, .tmp v :: rs, us, pe, e1, e, F, C, q, h => by
    cases q with
    | cons q1 d t =>
      rename_i u us
      unfold argsE at h
      cases z2 : argsE ms rs e with
      | none => simp only [z2] at h; cases h
      | some pr =>
        obtain ⟨p, e2⟩ := pr
        simp only [z2] at h
        cases h
        obtain ⟨F3, C3, s3, R3, o3, m3, f3, p3⟩ := args_ok C t z2
        obtain ⟨a0, x1, x2, x3, x4, x5⟩ := q1
        subst x1
        have ns : ¬ Src e σ rs us a0 := fun y => by
          rcases y with y | ⟨j, w, y1, y2⟩
          · exact x4 y
          · exact d v rfl j w y1 y2
        have fa : F3 a0 = none := by
          cases y : F3 a0 with
          | none => rfl
          | some o =>
            rcases f3 a0 (by rw [y]; simp) with y | y
            · exact absurd x2 y
            · exact absurd y ns
        have up : ∀ {a}, Src e σ rs us a → Src e σ (.tmp v :: rs) (.ref a0 :: us) a := fun {a} y => by
          rcases y with y | ⟨j, w, y1, y2⟩
          · exact .inl y
          · exact .inr ⟨j + 1, w, by simpa using y1, by simpa using y2⟩
        have other : ∀ {i : Nat} {w : Val}, p[i]? = some (.own w) → (us.map some)[i]? = some (some (.ref a0)) → False := fun {i w} y1 y2 => ns (m3 a0 ⟨i, w, y1, y2⟩).2.2
        refine ⟨F3, C3, s3, ⟨R3.sub, by simp [R3.len], fun i s o h1 h2 => ?_, fun i j v' w a h1 h2 h3 h4 => ?_⟩, o3, fun a ⟨i, v', h1, h2⟩ => ?_, fun a y => ?_, fun j i y1 y2 => ?_⟩
        · cases i with
          | zero =>
            simp only [List.getElem?_cons_zero, Option.some.injEq, List.map_cons] at h1 h2
            subst h1 h2
            exact ⟨a0, rfl, fa, x3.mono s3 rfl⟩
          | succ i => exact R3.slot i s o (by simpa using h1) (by simpa using h2)
        · cases i with
          | zero => cases j with
            | zero => rfl
            | succ j =>
              have e0 : V.ref a0 = V.ref a := by simpa using h3
              cases e0
              exact (other (by simpa using h2) (by simpa using h4)).elim
          | succ i => cases j with
            | zero =>
              have e0 : V.ref a0 = V.ref a := by simpa using h4
              cases e0
              exact (other (by simpa using h1) (by simpa using h3)).elim
            | succ j => rw [R3.inj i j v' w a (by simpa using h1) (by simpa using h2) (by simpa using h3) (by simpa using h4)]
        · cases i with
          | zero =>
            have e0 : V.ref a0 = V.ref a := by simpa using h2
            cases e0
            exact ⟨x5, fun y => x4 (o3 _ y), .inr ⟨0, v, rfl, rfl⟩⟩
          | succ i =>
            obtain ⟨y1, y2, y3⟩ := m3 a ⟨i, v', by simpa using h1, by simpa using h2⟩
            exact ⟨y1, y2, up y3⟩
        · rcases f3 a y with y | y
          · exact .inl y
          · exact .inr (up y)
        · cases j with
          | zero => simp at y2
          | succ j => exact p3 j i (by simpa using y1) (by simpa using y2)
  | true :: ms, .bor i0 :: rs, us, pe, e1, e, F, C, q, h => by
    cases q with
    | cons q1 d t =>
      rename_i u us
      unfold argsE at h
      have q1' : σ[i0]? = some (some u) := q1
      cases z : e[i0]? with
      | none => simp only [z] at h; cases h
      | some sl => cases sl with
        | un => simp only [z] at h; cases h
        | dat w => simp only [z] at h; cases h
        | own v =>
          simp only [z] at h
          cases z2 : argsE ms rs (e.set i0 .un) with
          | none => simp only [z2] at h; cases h
          | some pr =>
            obtain ⟨p, e2⟩ := pr
            simp only [z2] at h
            cases h
            obtain ⟨a0, x1, x2, x3⟩ := C.rel.slot i0 _ _ z q1'
            have eu : u = .ref a0 := Option.some.inj x1
            subst eu
            have oa : Own e σ a0 := ⟨i0, v, z, q1'⟩
            have no : ¬ Own (e.set i0 .un) σ a0 := fun ⟨j, w, b1, b2⟩ => by
              rcases getset b1 with ⟨_, z3, _⟩ | ⟨z3, b1⟩
              · cases z3
              · exact z3 (C.rel.inj i0 j v w a0 z b1 q1' b2)
            have t1 : RRs K B F H (e.set i0 .un) σ rs us := by
              refine RRs.tail_keep (r := .bor i0) (u := .ref a0) (fun r' u' y _ => ?_) t fun v y => nomatch y
              cases r' with
              | dat v => exact y
              | bor i => exact y
              | tmp w =>
                obtain ⟨t', a1, a2, a3, a4, a5⟩ := y
                exact ⟨t', a1, a2, a3, fun y2 => a4 (y2.unset1 Slot.un_ne), a5⟩
            obtain ⟨F3, C3, s3, R3, o3, m3, f3, p3⟩ := args_ok (C.forget (i := i0)) t1 z2
            have ns : ¬ Src (e.set i0 .un) σ rs us a0 := fun y => by
              rcases y with y | ⟨j, w, y1, y2⟩
              · exact no y
              · obtain ⟨t', a1, a2, a3, a4, a5⟩ := t.mem_tmp y1 y2
                cases a1
                exact a4 oa
            have fa : F3 a0 = none := by
              cases y : F3 a0 with
              | none => rfl
              | some o =>
                rcases f3 a0 (by rw [y]; simp) with y | y
                · exact absurd x2 y
                · exact absurd y ns
            have up : ∀ {a}, Src (e.set i0 .un) σ rs us a → Src e σ (.bor i0 :: rs) (.ref a0 :: us) a := fun {a} y => by
              rcases y with y | ⟨j, w, y1, y2⟩
              · exact .inl (y.unset1 Slot.un_ne)
              · exact .inr ⟨j + 1, w, by simpa using y1, by simpa using y2⟩
            have other : ∀ {i : Nat} {w : Val}, p[i]? = some (.own w) → (us.map some)[i]? = some (some (.ref a0)) → False := fun {i w} y1 y2 => ns (m3 a0 ⟨i, w, y1, y2⟩).2.2
            refine ⟨F3, C3, s3, ⟨R3.sub, by simp [R3.len], fun i s o h1 h2 => ?_, fun i j v' w a h1 h2 h3 h4 => ?_⟩, fun a y => (o3 a y).unset1 Slot.un_ne, fun a ⟨i, v', h1, h2⟩ => ?_, fun a y => ?_, fun j i y1 y2 y3 => ?_⟩
            · cases i with
              | zero =>
                simp only [List.getElem?_cons_zero, Option.some.injEq, List.map_cons] at h1 h2
                subst h1 h2
                exact ⟨a0, rfl, fa, x3.mono s3 rfl⟩
              | succ i => exact R3.slot i s o (by simpa using h1) (by simpa using h2)
            · cases i with
              | zero => cases j with
                | zero => rfl
                | succ j =>
                  have e0 : V.ref a0 = V.ref a := by simpa using h3
                  cases e0
                  exact (other (by simpa using h2) (by simpa using h4)).elim
              | succ i => cases j with
                | zero =>
                  have e0 : V.ref a0 = V.ref a := by simpa using h4
                  cases e0
                  exact (other (by simpa using h1) (by simpa using h3)).elim
                | succ j => rw [R3.inj i j v' w a (by simpa using h1) (by simpa using h2) (by simpa using h3) (by simpa using h4)]
            · cases i with
              | zero =>
                have e0 : V.ref a0 = V.ref a := by simpa using h2
                cases e0
                exact ⟨C.own _ oa, fun y => no (o3 _ y), .inl oa⟩
              | succ i =>
                obtain ⟨y1, y2, y3⟩ := m3 a ⟨i, v', by simpa using h1, by simpa using h2⟩
                exact ⟨y1, y2, up y3⟩
            · rcases f3 a y with y | y
              · exact .inl y
              · exact .inr (up y)
            · cases j with
              | zero =>
                have e0 : i0 = i := by simpa using y2
                subst e0
                exact C.par i0 v y3 z
              | succ j => exact p3 j i (by simpa using y1) (by simpa using y2) y3
/-- the caller's own things while a callee ran on the slots pe -/
theorem call_mid {F1 F' H' : Hp} {e1 pe p' : Ev} {σp : Sig} {np : Nat} (C1 : Cur K B F1 H e1 σ) (m : ∀ a, Own pe σp a → B.mine a ∧ ¬ Own e1 σ a) (C : Cur K (bg np F1 H pe σp) F' H' p' σp) : Cur K B F' H' e1 σ := by
  refine ⟨⟨C1.post.sub.trans C.post.sub, fun a o h1 h2 => C.post.fr a o (C1.post.fr a o h1 h2) fun z => ?_, fun a h => ?_, fun a h => C1.post.kp a (C.post.kp a h)⟩, ⟨C.rel.sub, C1.rel.len, fun i s o h1 h2 => ?_, C1.rel.inj⟩, C1.own, C1.ln, C1.par⟩
  · rcases (m a z).1 with y | y
    · exact h2 y
    · rw [y] at h1; cases h1
  · rcases C.post.nw a h with z | z
    · exact C1.post.nw a z
    · rcases z with z | z
      · exact .inr (m a z).1
      · exact .inr (.inr (C1.post.kp a z))
  · have q := C1.rel.slot i s o h1 h2
    cases s with
    | un => trivial
    | dat v =>
      obtain ⟨u, z1, z2⟩ := q
      exact ⟨u, z1, z2.mono C.post.sub⟩
    | own v =>
      obtain ⟨a, z1, z2, z3⟩ := q
      subst z1
      have oa : Own e1 σ a := ⟨i, v, h1, h2⟩
      obtain ⟨o, ho⟩ := z3.some
      have no : ¬ Own pe σp a := fun y => (m a y).2 oa
      refine ⟨a, rfl, ?_, z3.mono C.post.sub ((C.post.fr a o ho no).trans ho.symm)⟩
      cases y : F' a with
      | none => rfl
      | some x =>
        rcases C.post.nw a (by rw [y]; simp) with y | y
        · exact absurd z2 y
        · rcases y with y | y
          · exact absurd y no
          · have y' : H a = none := y
            rw [ho] at y'; cases y'
/-- a name owns again what it lent -/
theorem Cur.again {F : Hp} {e : Ev} {i : Nat} {v : Val} {t : Addr} (C : Cur K B F H e σ) (hi : σ[i]? = some (some (.ref t))) (h1 : F t = none) (h2 : CellR K F H v t) (h3 : ¬ Own e σ t) (h4 : B.mine t) (hp : i < B.np → σ[i]? = B.sg[i]? ∧ ∃ w, B.ev[i]? = some (.own w)) : Cur K B F H (e.set i (.own v)) σ := by
  have other : ∀ {j : Nat} {w : Val} {a : Addr}, (e.set i (.own v))[j]? = some (.own w) → σ[j]? = some (some (.ref a)) → (i = j ∧ a = t) ∨ (i ≠ j ∧ e[j]? = some (.own w) ∧ σ[j]? = some (some (.ref a))) := fun {j w a} a1 a2 => by
    rcases getset a1 with ⟨z, _, _⟩ | ⟨z, a1⟩
    · subst z
      rw [hi] at a2
      cases a2
      exact .inl ⟨rfl, rfl⟩
    · exact .inr ⟨z, a1, a2⟩
  refine ⟨C.post, ⟨C.rel.sub, by rw [List.length_set]; exact C.rel.len, fun j q o a1 a2 => ?_, fun j k v' w a a1 a2 a3 a4 => ?_⟩, fun a q => ?_, by rw [List.length_set]; exact C.ln, fun j v' hj h => ?_⟩
  · rcases getset a1 with ⟨z, z2, _⟩ | ⟨z, a1⟩
    · subst z z2
      rw [hi] at a2
      cases a2
      exact ⟨t, rfl, h1, h2⟩
    · exact C.rel.slot j q o a1 a2
  · rcases other a1 a3 with ⟨z1, z2⟩ | ⟨z1, b1, b2⟩
    · rcases other a2 a4 with ⟨z3, _⟩ | ⟨_, c1, c2⟩
      · exact z1.symm.trans z3
      · exact absurd ⟨k, w, c1, z2 ▸ c2⟩ h3
    · rcases other a2 a4 with ⟨_, z4⟩ | ⟨_, c1, c2⟩
      · exact absurd ⟨j, v', b1, z4 ▸ b2⟩ h3
      · exact C.rel.inj j k v' w a b1 c1 b2 c2
  · obtain ⟨j, w, a1, a2⟩ := q
    rcases other a1 a2 with ⟨_, z2⟩ | ⟨_, b1, b2⟩
    · rw [z2]; exact h4
    · exact C.own a ⟨j, w, b1, b2⟩
  · rcases getset h with ⟨z, _, _⟩ | ⟨z, h⟩
    · subst z; exact hp hj
    · exact C.par j v' hj h
def OwnB (p : Ev) (rs : List RV) (us : List V) (a : Addr) : Prop := ∃ (k : Nat) (v : Val) (i : Nat), p[k]? = some (.own v) ∧ us[k]? = some (.ref a) ∧ rs[k]? = some (.bor i)
theorem back_ok {F F0 H0 : Hp} {e0 : Ev} : ∀ {ms : List Bool} {rs : List RV} {us : List V} {p e : Ev}, Cur K B F H e σ → RRs K B F0 H0 e0 σ rs us →
    (∀ (j : Nat) (v : Val), p[j]? = some (.own v) → ∃ a, us[j]? = some (.ref a) ∧ F a = none ∧ CellR K F H v a ∧ B.mine a ∧ ¬ Own e σ a) →
    (∀ (i j : Nat) (v w : Val) (a : Addr), p[i]? = some (.own v) → p[j]? = some (.own w) → us[i]? = some (.ref a) → us[j]? = some (.ref a) → i = j) →
    (∀ (j i : Nat), ms[j]? = some true → rs[j]? = some (.bor i) → i < B.np → σ[i]? = B.sg[i]? ∧ ∃ w, B.ev[i]? = some (.own w)) →
    Cur K B F H (backE ms rs p e) σ ∧ ∀ a, Own (backE ms rs p e) σ a → Own e σ a ∨ OwnB p rs us a
  | [], _, _, _, _, C, _, _, _, _ => ⟨C, fun _ z => .inl z⟩
  | m :: ms, [], _, _, _, C, _, _, _, _ => by
    unfold backE
    cases m <;> exact ⟨C, fun _ z => .inl z⟩
  | m :: ms, r :: rs, us, [], e, C, _, _, _, _ => by
    have : backE (m :: ms) (r :: rs) [] e = e := by unfold backE; cases m <;> cases r <;> rfl
    rw [this]; exact ⟨C, fun _ z => .inl z⟩
  | m :: ms, r :: rs, us, s :: p, e, C, q, hp, hj, hb => by
    cases q with
    | cons q1 d t =>
      rename_i u us
      have plain : backE (m :: ms) (r :: rs) (s :: p) e = backE ms rs p e → Cur K B F H (backE (m :: ms) (r :: rs) (s :: p) e) σ ∧ ∀ a, Own (backE (m :: ms) (r :: rs) (s :: p) e) σ a → Own e σ a ∨ OwnB (s :: p) (r :: rs) (u :: us) a := fun z => by
        rw [z]
        obtain ⟨A1, A2⟩ := back_ok (us := us) (p := p) C t (fun j v h => by
          obtain ⟨a, z⟩ := hp (j + 1) v (by simpa using h)
          exact ⟨a, by simpa using z⟩) (fun i j v w a h1 h2 h3 h4 => by
          have := hj (i + 1) (j + 1) v w a (by simpa using h1) (by simpa using h2) (by simpa using h3) (by simpa using h4)
          omega) (fun j i h1 h2 => hb (j + 1) i (by simpa using h1) (by simpa using h2))
        refine ⟨A1, fun a y => ?_⟩
        rcases A2 a y with y | ⟨i, v, b, y1, y2, y3⟩
        · exact .inl y
        · exact .inr ⟨i + 1, v, b, by simpa using y1, by simpa using y2, by simpa using y3⟩
      cases m with
      | false => exact plain (by cases r <;> rfl)
      | true => cases r with
        | dat v => exact plain rfl
        | tmp v => exact plain rfl
        | bor i0 => cases s with
          | un => exact plain rfl
          | dat v => exact plain rfl
          | own v =>
            have q1' : σ[i0]? = some (some u) := q1
            obtain ⟨a0, x1, x2, x3, x4, x5⟩ := hp 0 v rfl
            have eu : u = .ref a0 := by simpa using x1
            subst eu
            have C' := C.again (i := i0) q1' x2 x3 x5 x4 (hb 0 i0 rfl rfl)
            have oe : ∀ {a}, Own (e.set i0 (.own v)) σ a → Own e σ a ∨ a = a0 := fun {a} ⟨j, w, y1, y2⟩ => by
              rcases getset y1 with ⟨z, _, _⟩ | ⟨z, y1⟩
              · subst z
                rw [q1'] at y2
                cases y2
                exact .inr rfl
              · exact .inl ⟨j, w, y1, y2⟩
            obtain ⟨A1, A2⟩ := back_ok (ms := ms) (us := us) (p := p) C' t (fun j w h => by
              obtain ⟨a, z1, z2, z3, z4, z5⟩ := hp (j + 1) w (by simpa using h)
              have z1' : us[j]? = some (.ref a) := by simpa using z1
              refine ⟨a, z1', z2, z3, z4, fun y => ?_⟩
              rcases oe y with y | y
              · exact z5 y
              · subst y
                have := hj 0 (j + 1) v w a rfl (by simpa using h) rfl (by simpa using z1)
                omega) (fun i j v w a h1 h2 h3 h4 => by
              have := hj (i + 1) (j + 1) v w a (by simpa using h1) (by simpa using h2) (by simpa using h3) (by simpa using h4)
              omega) (fun j i h1 h2 => hb (j + 1) i (by simpa using h1) (by simpa using h2))
            refine ⟨A1, fun a y => ?_⟩
            rcases A2 a y with y | ⟨i, w, b, y1, y2, y3⟩
            · rcases oe y with y | y
              · exact .inl y
              · exact .inr ⟨0, v, i0, rfl, by rw [y]; rfl, rfl⟩
            · exact .inr ⟨i + 1, w, b, by simpa using y1, by simpa using y2, by simpa using y3⟩
end
/-- a callee on these slots, and back -/
def runF (ms : List Bool) (f : M RV) (rs : List RV) : M RV := fun e => match argsE ms rs e with
  | some (p, e1) => match f p with
    | .ok (.dat v) p' => .ok (.dat v) (backE ms rs p' e1)
    | .ok (.tmp v) p' => .ok (.tmp v) (backE ms rs p' e1)
    | .ok (.bor _) _ => .bad
    | .rs x p' => .rs x (backE ms rs p' e1)
    | .bad => .bad
  | none => .bad
section
variable {K : PySem.W.Frag} {W : WX} {B : Bg} {H : Hp} {σ : Sig} {F : Hp} {e : Ev}
theorem argsE_len : ∀ {ms : List Bool} {rs : List RV} {e p e1 : Ev}, argsE ms rs e = some (p, e1) → ms.length = p.length := fun {ms} => by
  induction ms with
  | nil => intro rs e p e1 z; cases rs <;> simp [argsE] at z; rw [z.1]; rfl
  | cons m ms ih =>
    intro rs e p e1 z
    cases rs with
    | nil => cases m <;> simp [argsE] at z
    | cons r rs =>
      cases m with
      | false =>
        unfold argsE at z
        split at z
        · split at z
          · rename_i a b c
            cases z
            simp [ih c]
          · cases z
        · cases z
      | true => cases r with
        | dat v =>
          unfold argsE at z
          split at z
          · rename_i a b c
            cases z
            simp [ih c]
          · cases z
        | tmp v =>
          unfold argsE at z
          split at z
          · rename_i a b c
            cases z
            simp [ih c]
          · cases z
        | bor i =>
          unfold argsE at z
          split at z
          · split at z
            · rename_i a b c
              cases z
              simp [ih c]
            · cases z
          · cases z
/-- what a callee on these slots leaves to its caller -/
theorem call_core {ms : List Bool} {rs : List RV} {us : List V} {pe e1 : Ev} (C : Cur K B F H e σ) (q : RRs K B F H e σ rs us) (za : argsE ms rs e = some (pe, e1)) :
    us.length = ms.length ∧ ∃ F1, Rel K F1 H pe (us.map some) ∧ ∀ F' H' p', Cur K (bg pe.length F1 H pe (us.map some)) F' H' p' (us.map some) → Cur K B F' H' (backE ms rs p' e1) σ ∧
      (∀ v u, RR K (bg pe.length F1 H pe (us.map some)) F' H' p' (us.map some) (.tmp v) u → RR K B F' H' (backE ms rs p' e1) σ (.tmp v) u) ∧
      (∀ (j : Nat) (v w : Val) (u : V), rs[j]? = some (.tmp w) → us[j]? = some u → p'[j]? = some (.own v) → RR K B F' H' (backE ms rs p' e1) σ (.tmp v) u) := by
  obtain ⟨F1, C1, s1, R1, o1, m1, f1, p1⟩ := args_ok C q za
  have lp : pe.length = us.length := by simpa using R1.len
  refine ⟨by rw [← lp, ← argsE_len za], F1, R1, fun F' H' p' C' => ?_⟩
  have up : ∀ {j : Nat} {o : V}, us[j]? = some o → (us.map some)[j]? = some (some o) := fun {j o} y => by simp [y]
  have at_ : ∀ (j : Nat) (v : Val), p'[j]? = some (.own v) → ∃ a, us[j]? = some (.ref a) ∧ F' a = none ∧ CellR K F' H' v a ∧ B.mine a ∧ ¬ Own e1 σ a := fun j v y => by
    have jl : j < us.length := by
      have := (List.getElem?_eq_some_iff.mp y).1
      have e1 : p'.length = pe.length := C'.ln
      omega
    have uj : us[j]? = some us[j] := List.getElem?_eq_getElem jl
    obtain ⟨a, a1, a2, a3⟩ := C'.rel.slot j _ _ y (up uj)
    have a1' : us[j]? = some (.ref a) := by rw [uj]; exact a1
    obtain ⟨_, w, b1⟩ := C'.par j v (by show j < pe.length; omega) y
    obtain ⟨c1, c2, _⟩ := m1 a ⟨j, w, b1, up a1'⟩
    exact ⟨a, a1', a2, a3, c1, c2⟩
  obtain ⟨D1, D2⟩ := back_ok (call_mid C1 (fun a y => ⟨(m1 a y).1, (m1 a y).2.1⟩) C') q at_ (fun i j v w a y1 y2 y3 y4 => C'.rel.inj i j v w a y1 y2 (up y3) (up y4)) p1
  refine ⟨D1, fun v u z => ?_, fun j v w u h1 h2 h3 => ?_⟩
  · obtain ⟨t, x1, x2, x3, x4, x5⟩ := z
    refine ⟨t, x1, x2, x3, fun y => ?_, ?_⟩
    · rcases D2 t y with y | ⟨k, v', i, y1, y2, y3⟩
      · rcases x5 with x5 | x5
        · exact (m1 t x5).2.1 y
        · obtain ⟨i, v', w1, w2⟩ := y
          obtain ⟨b, b1, b2, b3⟩ := C1.rel.slot i _ _ w1 w2
          cases b1
          obtain ⟨o, b4⟩ := b3.some
          have x5' : H t = none := x5
          rw [x5'] at b4; cases b4
      · exact x4 ⟨k, v', y1, up y2⟩
    · rcases x5 with x5 | x5
      · exact (m1 t x5).1
      · exact .inr (C1.post.kp t x5)
  · obtain ⟨a, a1, a2, a3, a4, a5⟩ := at_ j v h3
    rw [h2] at a1
    cases a1
    refine ⟨a, rfl, a2, a3, fun y => ?_, a4⟩
    rcases D2 a y with y | ⟨k, v', i, y1, y2, y3⟩
    · exact a5 y
    · have := C'.rel.inj j k v v' a h3 y1 (up h2) (up y2)
      subst this
      rw [h1] at y3
      cases y3
theorem call_ok {ms : List Bool} {f : M RV} {rs : List RV} {us : List V} {Q : VK} {n : Nat} (C : Cur K B F H e σ) (q : RRs K B F H e σ rs us) (h : At K W (RR K) B (runF ms f rs) F e σ H Q) (hn : ms.length = n) : spG K n f us H Q (WE W σ) := by
  unfold At runF at h
  cases za : argsE ms rs e with
  | none => simp only [za] at h
  | some pr =>
    obtain ⟨pe, e1⟩ := pr
    simp only [za] at h
    obtain ⟨len, F1, R1, mid⟩ := call_core C q za
    refine ⟨len.trans hn, pe.length, F1, pe, R1, ?_⟩
    unfold At
    cases zf : f pe with
    | bad => simp only [zf] at h
    | rs x p' =>
      simp only [zf] at h
      exact fun F' H' cls d C' X' => h F' H' cls d (mid F' H' p' C').1 X'
    | ok r p' =>
      cases r with
      | bor i => simp only [zf] at h
      | dat v =>
        simp only [zf] at h
        exact fun F' H' u C' r' => h F' H' u (mid F' H' p' C').1 r'
      | tmp v =>
        simp only [zf] at h
        exact fun F' H' u C' r' => h F' H' u (mid F' H' p' C').1 ((mid F' H' p' C').2.1 v u r')
end
end Pu
set_option Elab.async false
set_option linter.all false
set_option maxRecDepth 100000
/-! Pu, part N: calls of defs, of classes, of methods; properties; with keywords. -/
namespace Pu
open PySem PySem.Spec PyProof.Rows L2
def VC (K : PySem.W.Frag) (ds : List Val) (dvs : List V) : Prop := ∀ F, VRs K F ds dvs
theorem VC.nil {K : PySem.W.Frag} : VC K [] [] := fun _ => .nil
def mCall (ms : List Bool) (f : M RV) (as : M (List RV)) (ds : List Val) : M RV := as.bind fun rs => runF ms f (rs ++ ds.map .dat)
section
variable {K : PySem.W.Frag} {W : WX} {B : Bg} {F H : Hp} {σ : Sig} {e : Ev}
theorem RRs.length {rs : List RV} {us : List V} (h : RRs K B F H e σ rs us) : rs.length = us.length := by
  induction h with
  | nil => rfl
  | cons _ _ _ i => simp [i]
theorem RRs.dats {ds : List Val} {dvs : List V} (h : VRs K F ds dvs) : RRs K B F H e σ (ds.map .dat) dvs := by
  induction ds generalizing dvs with
  | nil => cases h; exact .nil
  | cons d ds ih => cases h with
    | cons a b => exact .cons a (fun v z => nomatch z) (ih b)
theorem RRs.app {rs : List RV} {us : List V} {ds : List Val} {dvs : List V} (h : RRs K B F H e σ rs us) (g : VRs K F ds dvs) : RRs K B F H e σ (rs ++ ds.map .dat) (us ++ dvs) := by
  induction h with
  | nil => exact RRs.dats g
  | cons r d t ih =>
    rename_i r' u' rs us
    refine .cons r (fun v z j w h1 h2 => ?_) ih
    replace h1 : (rs ++ ds.map RV.dat)[j]? = some (.tmp w) := h1
    replace h2 : (us ++ dvs)[j]? = some u' := h2
    have tl := t.length
    by_cases hj : j < rs.length
    · rw [List.getElem?_append_left hj] at h1
      rw [List.getElem?_append_left (by omega)] at h2
      exact d v z j w h1 h2
    · rw [List.getElem?_append_right (by omega), List.getElem?_map] at h1
      cases q : ds[j - rs.length]? with
      | none => rw [q] at h1; cases h1
      | some z => rw [q] at h1; cases h1
end
section
variable {X : Cx} {W : WX} {k n : Nat} {f C : Addr} {fd : FuncData} {ps : List Str} {x m : Str} {p pos apos : Pos} {e o : Expr} {es : List Expr} {mf mo : M RV} {mr : M (List RV)} {dvs : List V} {ds : List Value} {dl : List Val}
theorem se_call (ms : List Bool) (F : FnG X.prog X.w X.K X.mg X.base k f fd ps (spG X.K n mf)) (G : Good X k W) (gl : Gl X x) (at_ : X.mg x = some (.ref f)) (kp : PySem.W.keepIn X.K (.ref f) = true)
    (hb : Binds X.K fd ps ds) (hd : Vals dvs ds) (hc : VC X.K dl dvs) (ha : SA X W (e :: es) mr) (hn : ms.length = n := by rfl) (n1 : (x == ("__debug__" : Str)) = false := by decide)
    (n2 : starEach (e :: es) X.env = (false, eval e X.env) :: starEach es X.env := by rfl) (n3 : (backTo pos (starEach es X.env)).any (·.1) = false := by rfl) :
    SE X W (.Call (.Name x p) (e :: es) [] pos) (mCall ms mf mr dl) := by
  refine PE.imp (pg_call F G.room G.gd G.tk gl at_ kp hb hd ha n1 n2 n3) fun σ H Q h => ?_
  obtain ⟨np, F, e, R, h⟩ := h
  exact use (R1 := RRs X.K) (Cur.refl R) h fun rs e1 F1 H1 us C1 q1 _ h1 => call_ok C1 (q1.app (hc F1)) h1 hn
theorem se_call0 (ms : List Bool) (F : FnG X.prog X.w X.K X.mg X.base k f fd ps (spG X.K n mf)) (G : Good X k W) (gl : Gl X x) (at_ : X.mg x = some (.ref f)) (kp : PySem.W.keepIn X.K (.ref f) = true)
    (hb : Binds X.K fd ps ds) (hd : Vals dvs ds) (hc : VC X.K dl dvs) (hn : ms.length = n := by rfl) (n1 : (x == ("__debug__" : Str)) = false := by decide) : SE X W (.Call (.Name x p) [] [] pos) (mCall ms mf mNil dl) := by
  refine PE.imp (pg_call0 F G.room G.gd G.tk gl at_ kp hb hd n1) fun σ H Q h => ?_
  obtain ⟨np, F, e, R, h⟩ := h
  exact call_ok (Cur.refl R) (RRs.app .nil (hc F)) h hn
/-! ### methods -/
def mMeth (C m : Str) (ms : List Bool) (f : M RV) (o : M RV) (as : M (List RV)) (ds : List Val) : M RV := o.bind fun r => (M.rd r).bind fun v => match v with
  | .obj C' fs _ => if C' = C ∧ m ∉ fs then as.bind fun rs => runF ms f (r :: (rs ++ ds.map .dat)) else M.bad
  | _ => M.bad
theorem zip_no {fs : List Str} {us : List V} {m : Str} (h : m ∉ fs) : (fs.zip us).lookup m = none := by
  induction fs generalizing us with
  | nil => rfl
  | cons a fs ih => cases us with
    | nil => rfl
    | cons u us =>
      have ne : m ≠ a := fun z => h (by rw [z]; exact List.mem_cons_self ..)
      show (match m == a with | true => some u | false => (fs.zip us).lookup m) = none
      rw [beq_eq_false_iff_ne.mpr ne]
      exact ih fun z => h (List.mem_cons_of_mem _ z)
/-- an earlier result, in front of later ones -/
theorem RRs.front {K : PySem.W.Frag} {B : Bg} {F1 H1 F2 H2 : Hp} {e1 e2 : Ev} {σ : Sig} {r : RV} {u : V} {rs : List RV} {us : List V} (C1 : Cur K B F1 H1 e1 σ) (q1 : RR K B F1 H1 e1 σ r u) (c2 : Cur K (bg B.np F1 H1 e1 σ) F2 H2 e2 σ)
    (q2 : RRs K (bg B.np F1 H1 e1 σ) F2 H2 e2 σ rs us) : RRs K B F2 H2 e2 σ (r :: rs) (u :: us) := by
  refine .cons (q1.carry c2) (fun v e3 j w e4 e5 => ?_) (Carry.out C1 q2)
  subst e3
  obtain ⟨t, z1, z2, z3, z4, z5⟩ := q1
  obtain ⟨o, z6⟩ := z3.some
  subst z1
  obtain ⟨t', y1, y2, y3, y4, y5⟩ := q2.mem_tmp e4 e5
  cases y1
  rcases y5 with y5 | y5
  · exact z4 y5
  · have y6 : H1 t = none := y5
    rw [z6] at y6; cases y6
theorem meth_ok {K : PySem.W.Frag} {C' : Str} {ms : List Bool} {ta : TA} {np : Nat} {F H : Hp} {e : Ev} {σ : Sig} {Q : VK} {np : Nat} (R : Rel K F H e σ) (h : At K W (RR K) (bg np F H e σ) (mMeth C' m ms mf mo mr dl) F e σ H Q) (hc : VC K dl dvs) (hn : ms.length = n)
    (C : Addr) (hC : He.ga K C' = C) : mG C m (spG K n mf) W dvs (tE K W mo) (tA K W mr) σ H Q := by
  refine use (R1 := RR K) (Cur.refl R) h fun r e1 F1 H1 u C1 q1 _ h1 => ?_
  obtain ⟨v, rv, h2⟩ := At.rd C1.rel q1 h1
  cases v with
  | obj C2 fs vs =>
    by_cases hh : C2 = C' ∧ m ∉ fs
    · dsimp only at h2
      rw [if_pos hh] at h2
      obtain ⟨rfl, hm⟩ := hh
      obtain ⟨a, dx, us, rfl, z1, z2, z3⟩ := rv.obj C1.rel.sub
      refine ⟨a, dx, _, rfl, by rw [z1, hC], zip_no hm, ?_⟩
      refine useS (R1 := RRs K) C1 h2 fun rs e2 F2 H2 xs C2 q2 c2 h3 => ?_
      have all := RRs.app (RRs.front C1 q1 c2 q2) (hc F2)
      exact call_ok C2 all h3 hn
    · dsimp only at h2
      rw [if_neg hh] at h2
      exact h2.elim
  | _ => exact h2.elim
theorem se_meth {pl : Sem Bool} {C' : Str} (ms : List Bool) (he : SE X W o mo) (c : Cls X.K C) (hm : Meth X.K C m f) (F : FnG X.prog X.w X.K X.mg X.base k f fd ps (spG X.K n mf)) (G : Good X k W) (hC : He.ga X.K C' = C)
    (hb : Binds X.K fd ps ds) (hd : Vals dvs ds) (hc : VC X.K dl dvs) (ha : SA X W (e :: es) mr) (hn : ms.length = n := by rfl) (n2 : starEach (e :: es) X.env = (false, eval e X.env) :: starEach es X.env := by rfl) (n3 : (backTo pos (starEach es X.env)).any (·.1) = false := by rfl)
    (look : eval (.Call (.Attribute o m apos) (e :: es) [] pos) X.env = (do
      let ov ← eval o X.env
      standAt apos.atName
      let (f, first) ← holding [ov] (getMethod ov m pl)
      callWith pos f first (backTo pos (starEach (e :: es) X.env)) (backToKw pos (keywordEach [] X.env))) := by rfl) : SE X W (.Call (.Attribute o m apos) (e :: es) [] pos) (mMeth C' m ms mf mo mr dl) :=
  PE.imp (pg_meth he c hm F G.room G.gd G.tk hb hd ha n2 n3 look) fun σ H Q ⟨np, F, e, R, h⟩ => meth_ok (ta := tA X.K W mr) (np := np) R h hc hn C hC
theorem se_meth0 {pl : Sem Bool} {C' : Str} (ms : List Bool) (he : SE X W o mo) (c : Cls X.K C) (hm : Meth X.K C m f) (F : FnG X.prog X.w X.K X.mg X.base k f fd ps (spG X.K n mf)) (G : Good X k W) (hC : He.ga X.K C' = C)
    (hb : Binds X.K fd ps ds) (hd : Vals dvs ds) (hc : VC X.K dl dvs) (hn : ms.length = n := by rfl)
    (look : eval (.Call (.Attribute o m apos) [] [] pos) X.env = (do
      let ov ← eval o X.env
      standAt apos.atName
      let (f, first) ← holding [ov] (getMethod ov m pl)
      callWith pos f first (backTo pos (starEach [] X.env)) (backToKw pos (keywordEach [] X.env))) := by rfl) : SE X W (.Call (.Attribute o m apos) [] [] pos) (mMeth C' m ms mf mo mNil dl) := by
  refine PE.imp (pg_meth0 he c hm F G.room G.gd G.tk hb hd look) fun σ H Q ⟨np, F, e, R, h⟩ => ?_
  refine use (R1 := RR X.K) (Cur.refl R) h fun r e1 F1 H1 u C1 q1 _ h1 => ?_
  obtain ⟨v, rv, h2⟩ := At.rd C1.rel q1 h1
  cases v with
  | obj C2 fs vs =>
    by_cases hh : C2 = C' ∧ m ∉ fs
    · dsimp only at h2
      rw [if_pos hh] at h2
      obtain ⟨rfl, hm⟩ := hh
      obtain ⟨a, dx, us, rfl, z1, z2, z3⟩ := rv.obj C1.rel.sub
      refine ⟨a, dx, _, rfl, by rw [z1, hC], zip_no hm, ?_⟩
      exact call_ok C1 (RRs.app (.cons q1 (fun _ _ j w z => by simp at z) .nil) (hc F1)) h2 hn
    · dsimp only at h2
      rw [if_neg hh] at h2
      exact h2.elim
  | _ => exact h2.elim
/-! ### new instances -/
def runMk (C : Str) (ms : List Bool) (f : M RV) (rs : List RV) : M RV := fun e => match argsE (true :: ms) (.tmp (.obj C [] []) :: rs) e with
  | some (p, e1) => match f p with
    | .ok (.dat .non) p' => match p'[0]? with
      | some (Slot.own v) => .ok (.tmp v) (backE (true :: ms) (.tmp (.obj C [] []) :: rs) p' e1)
      | _ => .bad
    | .ok _ _ => .bad
    | .rs x p' => .rs x (backE (true :: ms) (.tmp (.obj C [] []) :: rs) p' e1)
    | .bad => .bad
  | none => .bad
def mMake (C : Str) (ms : List Bool) (f : M RV) (as : M (List RV)) (ds : List Val) : M RV := as.bind fun rs => runMk C ms f (rs ++ ds.map .dat)
theorem RR.grow {K : PySem.W.Frag} {B : Bg} {F H : Hp} {e : Ev} {σ : Sig} {o : HO} {a : Addr} {r : RV} {u : V} (h : H a = none) (q : RR K B F H e σ r u) : RR K B F (upd H a o) e σ r u := by
  cases r with
  | dat v => exact q
  | bor i => exact q
  | tmp v =>
    obtain ⟨t, z1, z2, z3, z4, z5⟩ := q
    obtain ⟨x, z6⟩ := z3.some
    exact ⟨t, z1, z2, z3.mono (Same.refl _) (upd_ne (ne_of_none z6 h)), z4, z5⟩
theorem RRs.grow {K : PySem.W.Frag} {B : Bg} {F H : Hp} {e : Ev} {σ : Sig} {o : HO} {a : Addr} {rs : List RV} {us : List V} (h : H a = none) (q : RRs K B F H e σ rs us) : RRs K B F (upd H a o) e σ rs us := by
  induction q with
  | nil => exact .nil
  | cons r d _ ih => exact .cons (r.grow h) d ih
theorem make_ok {K : PySem.W.Frag} {B : Bg} {F H : Hp} {e : Ev} {σ : Sig} {C' : Str} {ms : List Bool} {rs : List RV} {us : List V} {Q : VK} {y dx : Addr} (C : Cur K B F H e σ) (q : RRs K B F H e σ rs us) (hy : H y = none) (hx : H dx = none) (ne : dx ≠ y) (hn : ms.length + 1 = n)
    (h : At K W (RR K) B (runMk C' ms mf rs) F e σ H Q) : spG K n mf (.ref y :: us) (upd (upd H dx (.own y)) y (.ins (He.ga K C') dx [])) (fun v H2 => v = .non ∧ Q (.ref y) H2) (WE W σ) := by
  have hy2 : upd H dx (.own y) y = none := by rw [upd_ne (Ne.symm ne)]; exact hy
  obtain ⟨C1, _, _, _⟩ := C.grow (o := .own y) hx
  obtain ⟨C2, n2, f2, m2⟩ := C1.grow (o := .ins (He.ga K C') dx []) hy2
  have q2 : RRs K B F (upd (upd H dx (.own y)) y (.ins (He.ga K C') dx [])) e σ (.tmp (.obj C' [] []) :: rs) (.ref y :: us) := by
    refine .cons ⟨y, rfl, f2, ⟨dx, [], upd_same, rfl, .nil⟩, n2, m2⟩ (fun v z j w h1 h2 => ?_) ((q.grow hx).grow hy2)
    obtain ⟨t, a1, a2, a3, _⟩ := q.mem_tmp h1 h2
    cases a1
    obtain ⟨o, a4⟩ := a3.some
    rw [hy] at a4; cases a4
  unfold At runMk at h
  cases za : argsE (true :: ms) (.tmp (.obj C' [] []) :: rs) e with
  | none => simp only [za] at h
  | some pr =>
    obtain ⟨pe, e1⟩ := pr
    simp only [za] at h
    obtain ⟨len, F1, R1, mid⟩ := call_core C2 q2 za
    refine ⟨len.trans hn, pe.length, F1, pe, R1, ?_⟩
    unfold At
    cases zf : mf pe with
    | bad => simp only [zf] at h
    | rs x p' =>
      simp only [zf] at h
      exact fun F' H' cls d C' X' => h F' H' cls d (mid F' H' p' C').1 X'
    | ok r p' =>
      cases r with
      | bor i => simp only [zf] at h
      | tmp v => simp only [zf] at h
      | dat v => cases v with
        | non =>
          simp only [zf] at h
          cases z0 : p'[0]? with
          | none => simp only [z0] at h
          | some sl => cases sl with
            | un => simp only [z0] at h
            | dat w => simp only [z0] at h
            | own v =>
              simp only [z0] at h
              intro F' H' u C3 r'
              obtain ⟨D1, D2, D3⟩ := mid F' H' p' C3
              have eu : u = .non := by cases r'; rfl
              exact ⟨eu, h F' H' (.ref y) D1 (D3 0 v _ _ rfl rfl z0)⟩
        | _ => simp only [zf] at h
theorem se_make {C' : Str} (ms : List Bool) (Mk : Mk X.K (He.ga X.K C') f) (F : FnG X.prog X.w X.K X.mg X.base k f fd ps (spG X.K n mf)) (G : Good X (k + 1) W) (gl : Gl X x) (at_ : X.mg x = some (.ref (He.ga X.K C'))) (hb : Binds X.K fd ps ds) (hd : Vals dvs ds) (hc : VC X.K dl dvs)
    (ha : SA X W (e :: es) mr) (hn : ms.length + 1 = n := by rfl) (n1 : (x == ("__debug__" : Str)) = false := by decide) (n2 : starEach (e :: es) X.env = (false, eval e X.env) :: starEach es X.env := by rfl)
    (n3 : (backTo pos (starEach es X.env)).any (·.1) = false := by rfl) : SE X W (.Call (.Name x p) (e :: es) [] pos) (mMake C' ms mf mr dl) := by
  refine PE.imp (pg_make Mk F G.room G.gd G.tk gl at_ hb hd ha n1 n2 n3) fun σ H Q h => ?_
  obtain ⟨np, F, e, R, h⟩ := h
  exact use (R1 := RRs X.K) (Cur.refl R) h fun rs e1 F1 H1 us C1 q1 _ h1 y dx hy hx ne => make_ok C1 (q1.app (hc F1)) hy hx ne hn h1
end
end Pu
set_option Elab.async false
set_option linter.all false
set_option maxRecDepth 100000
/-! Pu, part O: append, x[i] = e, attributes, properties, calls with keywords. -/
namespace Pu
open PySem PySem.Spec PyProof.Rows L2
section
variable {K : PySem.W.Frag} {W : WX} {α β : Type} {R1 : Bg → Hp → Hp → Ev → Sig → α → β → Prop} {B : Bg} {F F' H H' : Hp} {e e' : Ev} {σ σ' : Sig} {ws : List Nat}
/-- an expression's part of a target -/
theorem useG [Carry K R1] {m : M α} {f : α → M Unit} {Q : Sig → Hp → Prop} {G : β → Hp → Prop} (C : Cur K B F H e σ) (h : AtG K W ws B (m.bind f) e σ Q)
    (k : ∀ r e1 F1 H1 x, Cur K B F1 H1 e1 σ → R1 B F1 H1 e1 σ r x → Cur K (bg B.np F H e σ) F1 H1 e1 σ → AtG K W ws B (f r) e1 σ Q → G x H1) : tM K W R1 m σ H G := by
  refine ⟨B.np, F, e, C.rel, ?_⟩
  unfold AtG M.bind at h
  unfold At
  cases hm : m e with
  | bad => rw [hm] at h; exact h
  | rs x e' =>
    rw [hm] at h
    intro F' H' cls d C' X'
    exact h F' H' σ cls d (C.trans C') X'
  | ok r e' =>
    rw [hm] at h
    intro F' H' u C' r'
    exact k r e' F' H' u (C.trans C') (Carry.out C r') C' h
theorem AtG.rd {r : RV} {u : V} {f : Val → M Unit} {Q : Sig → Hp → Prop} (R0 : Rel K F H e σ) (h : RR K B F H e σ r u) (q : AtG K W ws B ((M.rd r).bind f) e σ Q) : ∃ v, RdR K F H v u ∧ AtG K W ws B (f v) e σ Q := by
  cases z : Pu.rd r e with
  | none =>
    unfold AtG M.bind M.rd at q
    rw [z] at q
    exact q.elim
  | some v =>
    refine ⟨v, h.rd R0 z, ?_⟩
    unfold AtG M.bind M.rd at q
    rw [z] at q
    exact q
/-- a name's own object is written to -/
theorem Cur.writeOwn {i : Nat} {v w : Val} {t : Addr} {o' : HO} (C : Cur K B F H e σ) (he : e[i]? = some (.own v)) (hs : σ[i]? = some (some (.ref t))) (h : CellR K F (upd H t o') w t) : Cur K B F (upd H t o') (e.set i (.own w)) σ := by
  obtain ⟨a, h1, h2, h3⟩ := C.rel.slot i _ _ he hs
  cases h1
  obtain ⟨o, ho⟩ := h3.some
  have ot : Own e σ t := ⟨i, v, he, hs⟩
  have no : ¬ Own (e.set i .un) σ t := fun ⟨j, w, b1, b2⟩ => by
    rcases getset b1 with ⟨_, z3, _⟩ | ⟨z3, b1⟩
    · cases z3
    · exact z3 (C.rel.inj i j v w t he b1 hs b2)
  have C1 := ((C.forget (i := i)).write (o' := o') h2 no (C.own t ot) ho).again (i := i) (v := w) hs h2 h no (C.own t ot) fun hi => C.par i v hi he
  rw [List.set_set] at C1
  exact C1
end
/-! ### x.append(e) -/
def mApp (mo ma : M RV) : M RV := mo.bind fun r => (M.rd r).bind fun v0 => match r, v0 with
  | .bor i, .lst _ => ma.bind fun s => (M.dt s).bind fun v => fun e => match e[i]? with
    | some (Slot.own (.lst xs)) => if xs.length < sizeLine then .ok (.dat .non) (e.set i (.own (.lst (xs ++ [v])))) else .bad
    | _ => .bad
  | _, _ => M.bad
section
variable {X : Cx} {W : WX} {o e : Expr} {mo ma : M RV} {apos cpos : Pos}
theorem se_app (ho : SE X W o mo) (ha : SE X W e ma) (hbase : attributeBase o "append" X.env (eval o X.env) = eval o X.env := by rfl)
    (hfew : ((backTo cpos (starEach [e] X.env)).all (fun x => !x.1) && (backToKw cpos (keywordEach [] X.env)).all (fun x => x.1.isSome) && decide ([e].length + ([] : List Keyword).length + (if ([] : List Keyword).isEmpty then 0 else 1) < 30)) = true := by rfl)
    (hline : (apos.endLine == cpos.line) = true := by rfl) (hs : starEach [e] X.env = (false, eval e X.env) :: starEach [] X.env := by rfl) (hplain : (backTo cpos (starEach [] X.env)).any (·.1) = false := by rfl) :
    SE X W (.Call (.Attribute o "append" apos) [e] [] cpos) (mApp mo ma) := by
  refine PE.imp (pe_bm PySem.F.plainAttrs_list PySem.F.slot_list_append PySem.F.type_list_append (show MtR X "list.append" rAppend from mt_append) ho (pa_cons ha pa_nil hs) hbase hfew hline hs hplain) fun σ H Q h => ?_
  obtain ⟨np, F, e, R, h⟩ := h
  refine use (R1 := RR X.K) (Cur.refl R) h fun r e1 F1 H1 u C1 q1 _ h1 => ?_
  obtain ⟨v0, rv, h2⟩ := At.rd C1.rel q1 h1
  cases r with
  | dat v => exact h2.elim
  | tmp v => exact h2.elim
  | bor i => cases v0 with
    | lst xs0 =>
      obtain ⟨a, us0, rfl, z1, z2⟩ := rv.lst C1.rel.sub
      refine ⟨.inl ⟨rfl, us0, .inl z1⟩, ?_⟩
      refine use (R1 := RR X.K) C1 h2 fun s e2 F2 H2 y C2 q2 _ h3 => ?_
      obtain ⟨F3, e3, v, C3, _, r3, h4, _⟩ := At.dt C2 q2 h3
      unfold At at h4
      dsimp only at h4
      have hi : σ[i]? = some (some (V.ref a)) := q1
      cases z : e3[i]? with
      | none => simp only [z] at h4
      | some sl => cases sl with
        | un => simp only [z] at h4
        | dat w => simp only [z] at h4
        | own w => cases w with
          | lst xs =>
            simp only [z] at h4
            by_cases hl : xs.length < sizeLine
            · rw [if_pos hl] at h4
              obtain ⟨b, b1, b2, us, b3, b4⟩ := C3.rel.slot i _ _ z hi
              cases b1
              refine ⟨a, us, y, rfl, rfl, b3, by rw [← b4.length]; exact hl, ?_⟩
              exact h4 F3 _ .non (C3.writeOwn z hi ⟨_, upd_same, b4.append (.cons r3 .nil)⟩) VR.non
            · rw [if_neg hl] at h4
              exact h4.elim
          | _ => simp only [z] at h4
    | _ => exact h2.elim
end
/-! ### x[i] = e -/
def gSb (mo mi : M RV) (v : Val) : M Unit := mo.bind fun r => mi.bind fun s => (M.rd s).bind fun k => match r, k with
  | .bor j, .int k => fun e => match e[j]? with
    | some (Slot.own (.lst xs)) => match ixN xs.length k with
      | some n => .ok () (e.set j (.own (.lst (xs.set n v))))
      | none => .bad
    | _ => .bad
  | _, _ => M.bad
section
variable {X : Cx} {W : WX} {o i : Expr} {mo mi : M RV} {pos : Pos} {ws : List Nat}
theorem sg_sb (ho : SE X W o mo) (hi : SE X W i mi)
    (ha : ∀ v, assign (.Subscript o i pos) X.env v = (do
      let ov ← holding [v] (eval o X.env)
      let iv ← holding [v, ov] (eval i X.env)
      standAt pos
      holding [v, ov, iv] (setItem ov iv v)
      release [v, ov, iv] []) := by intro _; rfl) : SG X W ws (.Subscript o i pos) (gSb mo mi) := by
  refine PG.imp (pg_sub ho hi (set_list (X := X)) ha) fun u σ H Q h => ?_
  obtain ⟨np, F, e, v, R, rv, h⟩ := h
  refine useG (R1 := RR X.K) (Cur.refl R) h fun r e1 F1 H1 x C1 q1 _ h1 => ?_
  refine useG (R1 := RR X.K) C1 h1 fun s e2 F2 H2 y C2 q2 c2 h2 => ?_
  obtain ⟨k, rk, h3⟩ := AtG.rd C2.rel q2 h2
  cases r with
  | dat v => exact h3.elim
  | tmp v => exact h3.elim
  | bor j => cases k with
    | int k =>
      have hj : σ[j]? = some (some x) := q1
      unfold AtG at h3
      dsimp only at h3
      cases z : e2[j]? with
      | none => simp only [z] at h3
      | some sl => cases sl with
        | un => simp only [z] at h3
        | dat w => simp only [z] at h3
        | own w => cases w with
          | lst xs =>
            simp only [z] at h3
            obtain ⟨b, b1, b2, us, b3, b4⟩ := C2.rel.slot j _ _ z hj
            cases b1
            cases z2 : ixN xs.length k with
            | none => simp only [z2] at h3
            | some n =>
              simp only [z2] at h3
              refine ⟨b, us, k, n, rfl, rk.int, b3, by rw [← b4.length]; exact z2, ?_⟩
              exact h3 F2 _ σ (C2.writeOwn z hj ⟨_, upd_same, b4.set (rv.mono C2.post.sub) n⟩) Upd.refl
          | _ => simp only [z] at h3
    | _ => exact h3.elim
end
/-! ### attributes -/
def lookV (f : Str) : List Str → List Val → Option Val
  | g :: fs, v :: vs => if g = f then some v else lookV f fs vs
  | _, _ => none
theorem lookV_ok {K : PySem.W.Frag} {F : Hp} {f : Str} {w : Val} : ∀ {fs : List Str} {vs : List Val} {us : List V}, VRs K F vs us → lookV f fs vs = some w → ∃ u, (fs.zip us).lookup f = some u ∧ VR K F w u
  | [], vs, us, _, h => by simp [lookV] at h
  | g :: fs, [], us, _, h => by simp [lookV] at h
  | g :: fs, v :: vs, _, .cons (u := u) (us := us) a b, h => by
    unfold lookV at h
    show ∃ u', (match f == g with | true => some u | false => (fs.zip us).lookup f) = some u' ∧ VR K F w u'
    by_cases hg : g = f
    · rw [if_pos hg] at h
      cases h
      exact ⟨u, by rw [hg, beq_self_eq_true], a⟩
    · rw [if_neg hg] at h
      rw [beq_eq_false_iff_ne.mpr (Ne.symm hg)]
      exact lookV_ok b h
def mGet (C f : Str) (mo : M RV) : M RV := mo.bind fun r => (M.rd r).bind fun v => match v with
  | .obj C' fs vs => if C' = C then (match lookV f fs vs with
    | some w => mV w
    | none => M.bad) else M.bad
  | _ => M.bad
/-- a property -/
def noRs {α : Type} (m : M α) : M α := fun e => match m e with
  | .ok a e' => .ok a e'
  | _ => .bad
def mProp (C : Str) (f : M RV) (mo : M RV) : M RV := mo.bind fun r => (M.rd r).bind fun v => match v with
  | .obj C' _ _ => if C' = C then noRs (runF [true] f [r]) else M.bad
  | _ => M.bad
section
variable {X : Cx} {W : WX} {o : Expr} {mo mf : M RV} {pos : Pos} {C' f : Str} {k : Nat} {g p : Addr} {fd : FuncData} {ps : List Str}
theorem se_get (c : Cls X.K (He.ga X.K C')) (n : NoAttr X.K (He.ga X.K C') f) (ho : SE X W o mo) (hb : attributeBase o f X.env (eval o X.env) = eval o X.env := by rfl) : SE X W (.Attribute o f pos) (mGet C' f mo) := by
  refine PE.imp (pe_fld ho hb) fun σ H Q h => ?_
  obtain ⟨np, F, e, R, h⟩ := h
  refine use (R1 := RR X.K) (Cur.refl R) h fun r e1 F1 H1 u C1 q1 _ h1 => ?_
  obtain ⟨v0, rv, h2⟩ := At.rd C1.rel q1 h1
  cases v0 with
  | obj C2 fs vs =>
    dsimp only at h2
    by_cases hC : C2 = C'
    · rw [if_pos hC] at h2
      subst hC
      obtain ⟨a, dx, us, rfl, z1, z2, z3⟩ := rv.obj C1.rel.sub
      cases z : lookV f fs vs with
      | none => simp only [z] at h2; exact h2.elim
      | some w =>
        simp only [z] at h2
        obtain ⟨u, l1, l2⟩ := lookV_ok z3 z
        exact ⟨a, _, dx, _, u, rfl, z1, c, n, l1, h2.ok rfl C1 l2⟩
    · rw [if_neg hC] at h2
      exact h2.elim
  | _ => exact h2.elim
/-- a getter runs -/
theorem prop_go {C a dx : Addr} {fs : List (Str × V)} {pins : List (Addr × Obj)} {σ : Sig} {H : Hp} {s : Shared} {Q : VK} {b : Bool} {sp : Sp} {E' : Value → Shared → Prop} (I : Inv X pins σ H s) (ea : H a = some (.ins C dx fs)) (c : Cls X.K C) (hp : PropOf X.K C f p g)
    (F : FnG X.prog X.w X.K X.mg X.base k g fd ps sp) (hr : Room (k + 1) X.A) (hG : X.A.guards = some []) (hb : Binds X.K fd ps []) (h : sp [.ref a] H Q (fun _ _ _ => False)) :
    wpAny (model X.prog X.w) X.A (getAttr (.ref a) f b) (EP X pins σ Q) E' s := by
  obtain ⟨mA, O, _⟩ := ins_get I.hok ea
  obtain ⟨od, J, _⟩ := O.look
  obtain ⟨tl, isProp⟩ := hp.rec_
  obtain ⟨plain, look⟩ := PySem.W.plainGet_of (c.get f)
  have known : (PySem.W.clsIn X.K C).isSome = true := by
    obtain ⟨cd, e, -⟩ := PySem.W.any_some c.hd
    rw [e]; rfl
  have I' := I.tok (s.toks + 1)
  have one : Vals [V.ref a] [Value.ref a] := .cons rfl .nil
  have bt := hb { s with toks := s.toks + 1 } [.ref a] I'.kIn (F.many _ _ _ _ h)
  have runs := F.goes X.A.in1 X.stack { s with toks := s.toks + 1 } H ⟨[.ref a], []⟩ [.ref a] [.ref a] Q (fun _ _ _ => False) hr.in1 (by first | exact hG | simpa using hG) I'.env0.in1 bt one h
  refine PySem.W.get_bind I.kIn J plain (PySem.W.findObj_data known hp.at_ hp.get hp.tak) look (wpAny_call (PySem.W.prop_get (s := { s with toks := s.toks + 1 }) I.kIn isProp (codeAny_mono runs fun res s' got => ?_)))
  cases res with
  | error z =>
    obtain ⟨_, _, _, _, _, _, _, _, _, _, _, _, no⟩ := got
    exact no.elim
  | ok fl => cases fl with
    | next => exact got.elim
    | brk => exact got.elim
    | cont => exact got.elim
    | ret u =>
      obtain ⟨v, H', J3, rv, q3⟩ := I'.after got
      show wpAny _ _ (handedOut u) _ _ _
      rw [PySem.W.handedOut_of (handed_of rv)]
      exact wpAny_pure ⟨v, H', J3, rv, q3⟩
def cProp (C : Addr) (sp : Sp) (ta : TE) : TE := fun σ H Q => ta σ H fun x H1 => ∃ a dx fs, x = .ref a ∧ H1 a = some (.ins C dx fs) ∧ sp [.ref a] H1 Q (fun _ _ _ => False)
theorem pg_prop {C : Addr} {ta : TE} {sp : Sp} (he : PE X o ta) (c : Cls X.K C) (hp : PropOf X.K C f p g) (F : FnG X.prog X.w X.K X.mg X.base k g fd ps sp) (hr : Room (k + 1) X.A) (hG : X.A.guards = some []) (hb : Binds X.K fd ps [])
    (plain : attributeBase o f X.env (eval o X.env) = eval o X.env) : PE X (.Attribute o f pos) (cProp C sp ta) := by
  constructor
  intro pins s σ H Q I h
  refine attr_of plain (thn (he.run pins s σ H _ I h) ?_)
  rintro u s1 ⟨y, H1, I1, ry, a, dx, fs, rfl, ea, q⟩
  obtain rfl : u = Value.ref a := ry
  exact prop_go I1 ea c hp F hr hG hb q
theorem se_prop (ho : SE X W o mo) (c : Cls X.K (He.ga X.K C')) (hp : PropOf X.K (He.ga X.K C') f p g) (F : FnG X.prog X.w X.K X.mg X.base k g fd ps (spG X.K 1 mf)) (G : Good X (k + 1) W) (hb : Binds X.K fd ps [])
    (plain : attributeBase o f X.env (eval o X.env) = eval o X.env := by rfl) : SE X W (.Attribute o f pos) (mProp C' mf mo) := by
  refine PE.imp (pg_prop ho c hp F G.room G.gd hb plain) fun σ H Q h => ?_
  obtain ⟨np, F, e, R, h⟩ := h
  refine use (R1 := RR X.K) (Cur.refl R) h fun r e1 F1 H1 u C1 q1 _ h1 => ?_
  obtain ⟨v0, rv, h2⟩ := At.rd C1.rel q1 h1
  cases v0 with
  | obj C2 fs vs =>
    dsimp only at h2
    by_cases hC : C2 = C'
    · rw [if_pos hC] at h2
      subst hC
      obtain ⟨a, dx, us, rfl, z1, z2, z3⟩ := rv.obj C1.rel.sub
      refine ⟨a, dx, _, rfl, z1, ?_⟩
      have h3 : At X.K noW (RR X.K) (bg np F H e σ) (runF [true] mf [r]) F1 e1 σ H1 Q := by
        unfold At noRs at h2
        unfold At
        cases z : runF [true] mf [r] e1 with
        | bad => simp only [z] at h2
        | rs x e' => simp only [z] at h2
        | ok y e' => simp only [z] at h2; exact h2
      exact call_ok (W := noW) C1 (RRs.cons q1 (fun _ _ j w z => by simp at z) RRs.nil) h3 rfl
    · rw [if_neg hC] at h2
      exact h2.elim
  | _ => exact h2.elim
end
/-! ### self.f = e -/
def putFs (f : Str) : List Str → List Str
  | [] => [f]
  | g :: fs => if g = f then g :: fs else g :: putFs f fs
def putVs (f : Str) (v : Val) : List Str → List Val → List Val
  | g :: fs, x :: vs => if g = f then v :: vs else x :: putVs f v fs vs
  | _, _ => [v]
theorem put_ok {K : PySem.W.Frag} {F : Hp} {f : Str} {w : Val} {y : V} (r : VR K F w y) : ∀ {fs : List Str} {vs : List Val} {us : List V}, fs.length = us.length → VRs K F vs us →
    ∃ us', putF f y (fs.zip us) = (putFs f fs).zip us' ∧ (putFs f fs).length = us'.length ∧ VRs K F (putVs f w fs vs) us'
  | [], vs, us, h, q => by
    have : us = [] := List.eq_nil_of_length_eq_zero h.symm
    subst this
    cases q
    exact ⟨[y], rfl, rfl, .cons r .nil⟩
  | g :: fs, [], us0, h, q => by cases q; simp at h
  | g :: fs, v :: vs, us0, h, q => by
    cases q with
    | cons a b =>
    rename_i u us
    have hl : fs.length = us.length := by simpa using h
    show ∃ us', (if g = f then (g, y) :: fs.zip us else (g, u) :: putF f y (fs.zip us)) = (putFs f (g :: fs)).zip us' ∧ _ ∧ _
    unfold putFs putVs
    by_cases hg : g = f
    · rw [if_pos hg, if_pos hg, if_pos hg]
      exact ⟨y :: us, rfl, by simp [hl], .cons r b⟩
    · rw [if_neg hg, if_neg hg, if_neg hg]
      obtain ⟨us', e1, e2, e3⟩ := put_ok r (f := f) hl b
      exact ⟨u :: us', by rw [e1]; rfl, by simp [e2], .cons a e3⟩
def mPut (C f : Str) (mo mv : M RV) : S := mv.bind fun r0 => (M.dt r0).bind fun v => mo.bind fun r => match r with
  | .bor i => fun e => match e[i]? with
    | some (Slot.own (.obj C' fs vs)) => if C' = C ∧ fs.length < 1000 then .ok .nx (e.set i (.own (.obj C (putFs f fs) (putVs f v fs vs)))) else .bad
    | _ => .bad
  | _ => M.bad
section
variable {X : Cx} {W : WX} {o x : Expr} {mo mv : M RV} {pos pos' : Pos} {C' f : Str} {np : Nat}
theorem ss_put (c : Cls X.K (He.ga X.K C')) (n : NoAttr X.K (He.ga X.K C') f) (ho : SE X W o mo) (hv : SE X W x mv) (hs : swapsWith x (some (.Attribute o f pos')) pos.line X.env = pure false := by rfl) : SS X W np (.Assign [.Attribute o f pos'] x pos) (mPut C' f mo mv) := by
  refine PS.imp (ps_fld ho hv hs) fun D σ H h => ?_
  obtain ⟨F, e, R, h⟩ := h
  refine useX (R1 := RR X.K) (Cur.refl R) h fun r e1 F1 H1 u C1 q1 _ h1 => ?_
  obtain ⟨F2, e2, v, C2, _, r2, h2, _⟩ := AtS.dt C1 q1 h1
  refine useX (R1 := RR X.K) C2 h2 fun r3 e3 F3 H3 y C3 q3 c3 h3 => ?_
  cases r3 with
  | dat v => exact h3.elim
  | tmp v => exact h3.elim
  | bor i =>
    have hi : σ[i]? = some (some y) := q3
    unfold AtS at h3
    dsimp only at h3
    cases z : e3[i]? with
    | none => simp only [z] at h3
    | some sl => cases sl with
      | un => simp only [z] at h3
      | dat w => simp only [z] at h3
      | own w => cases w with
        | obj C2 fs vs =>
          simp only [z] at h3
          by_cases hh : C2 = C' ∧ fs.length < 1000
          · rw [if_pos hh] at h3
            obtain ⟨rfl, hl⟩ := hh
            obtain ⟨b, b1, b2, dx, us, b3, b4, b5⟩ := C3.rel.slot i _ _ z hi
            cases b1
            obtain ⟨us', p1, p2, p3⟩ := put_ok (f := f) (r2.mono c3.post.sub) b4 b5
            refine ⟨b, _, dx, _, rfl, b3, c, n, by rw [List.length_zip, ← b4, Nat.min_self]; exact hl, ?_⟩
            exact h3 F3 _ σ (C3.writeOwn z hi ⟨dx, us', by rw [upd_same, p1], p2, p3⟩)
          · rw [if_neg hh] at h3
            exact h3.elim
        | _ => simp only [z] at h3
end
end Pu
set_option Elab.async false
set_option linter.all false
set_option maxRecDepth 100000
/-! Pu, part P: calls with keywords. -/
namespace Pu
open PySem PySem.Spec PyProof.Rows L2
/-- those at these places -/
def sel {α : Type} : List Nat → List α → List α
  | [], _ => []
  | i :: g, xs => match xs[i]? with
    | some a => a :: sel g xs
    | none => sel g xs
structure KB (K : PySem.W.Frag) (fd : FuncData) (ps : List Str) (n : Nat) (ks : List Str) (g : List Nat) : Prop where
  to : ∀ (s : Shared) (us ws : List Value), K.In s.heap → us.length = n → ws.length = ks.length → BindsTo s fd ⟨us, ks.zip ws⟩ (ps.zip (sel g (us ++ ws)))
  nd : g.Nodup
section
theorem kb_of {K : PySem.W.Frag} {x qual : Str} {params : Arguments} {body : List Stmt} {scope : Scope} {kws : List (Str × V)} {f : Addr} {fd : FuncData} {ps ks : List Str} {n : Nat} {g : List Nat} (F : FunD K x qual params body scope [] kws f fd) (nd : g.Nodup)
    (h : ∀ (kV doc pm : Value) (an : Option Addr) (cdv ct : Value) (us ws : List Value), us.length = n → ws.length = ks.length → bindArgs (PySem.W.fnOf x qual params body scope .none kV doc pm an cdv ct) ⟨us, ks.zip ws⟩ = pure (ps.zip (sel g (us ++ ws)))) : KB K fd ps n ks g := by
  obtain ⟨_, _, dV, kV, doc, pm, an, cdv, ct, _, rfl, _, _, none_, -⟩ := F.ex
  rcases none_ with ⟨-, rfl⟩ | ⟨no, -⟩
  · exact ⟨fun s us ws _ l1 l2 => .of_eq (h kV doc pm an cdv ct us ws l1 l2), nd⟩
  · exact absurd rfl no
variable {K : PySem.W.Frag} {W : WX} {B : Bg} {F H : Hp} {σ : Sig} {e : Ev}
theorem sel_rel {α β : Type} {xs : List α} {ys : List β} (hl : xs.length = ys.length) : ∀ {g : List Nat} {j : Nat} {a : α}, (sel g xs)[j]? = some a → ∃ i ∈ g, xs[i]? = some a ∧ (sel g ys)[j]? = ys[i]?
  | [], j, a, h => by simp [sel] at h
  | i :: g, j, a, h => by
    unfold sel at h ⊢
    cases hx : xs[i]? with
    | none =>
      have hy : ys[i]? = none := List.getElem?_eq_none (by rw [← hl]; exact List.getElem?_eq_none_iff.mp hx)
      simp only [hx] at h
      simp only [hy]
      obtain ⟨i', h1, h2, h3⟩ := sel_rel hl h
      exact ⟨i', List.mem_cons_of_mem _ h1, h2, h3⟩
    | some b =>
      have il : i < ys.length := by rw [← hl]; exact (List.getElem?_eq_some_iff.mp hx).1
      have hy : ys[i]? = some ys[i] := List.getElem?_eq_getElem il
      simp only [hx] at h
      simp only [hy]
      cases j with
      | zero => exact ⟨i, List.mem_cons_self .., by rw [hx]; simpa using h, by rw [hy]; rfl⟩
      | succ j =>
        obtain ⟨i', h1, h2, h3⟩ := sel_rel hl (j := j) (by simpa using h)
        exact ⟨i', List.mem_cons_of_mem _ h1, h2, by simpa using h3⟩
theorem RRs.pair {rs : List RV} {us : List V} (h : RRs K B F H e σ rs us) : ∀ {i j : Nat} {v w : Val} {u : V}, i ≠ j → rs[i]? = some (.tmp v) → rs[j]? = some (.tmp w) → us[i]? = some u → us[j]? ≠ some u := by
  induction h with
  | nil => intro i j v w u _ h; simp at h
  | cons r d t ih =>
    intro i j v w u ne h1 h2 h3 h4
    cases i with
    | zero => cases j with
      | zero => exact ne rfl
      | succ j =>
        simp at h1 h3
        exact d v h1 j w (by simpa using h2) (by rw [h3]; simpa using h4)
    | succ i => cases j with
      | zero =>
        simp at h2 h4
        exact d w h2 i v (by simpa using h1) (by rw [h4]; simpa using h3)
      | succ j => exact ih (fun z => ne (congrArg Nat.succ z)) (by simpa using h1) (by simpa using h2) (by simpa using h3) (by simpa using h4)
theorem RRs.get {rs : List RV} {us : List V} (h : RRs K B F H e σ rs us) : ∀ {i : Nat} {r : RV} {u : V}, rs[i]? = some r → us[i]? = some u → RR K B F H e σ r u := by
  induction h with
  | nil => intro i r u a; simp at a
  | cons r d t ih =>
    intro i r' u a b
    cases i with
    | zero => simp at a b; subst a b; exact r
    | succ i => exact ih (by simpa using a) (by simpa using b)
theorem RRs.sel {rs : List RV} {us : List V} (h : RRs K B F H e σ rs us) : ∀ {g : List Nat}, g.Nodup → RRs K B F H e σ (Pu.sel g rs) (Pu.sel g us)
  | [], _ => .nil
  | i :: g, nd => by
    have hl := h.length
    obtain ⟨n1, n2⟩ := List.nodup_cons.mp nd
    unfold Pu.sel
    cases hx : rs[i]? with
    | none =>
      have hy : us[i]? = none := List.getElem?_eq_none (by rw [← hl]; exact List.getElem?_eq_none_iff.mp hx)
      simp only [hy]
      exact RRs.sel h n2
    | some r =>
      have il : i < us.length := by rw [← hl]; exact (List.getElem?_eq_some_iff.mp hx).1
      have hy : us[i]? = some us[i] := List.getElem?_eq_getElem il
      simp only [hy]
      refine .cons (h.get hx hy) (fun v z j w z2 z3 => ?_) (RRs.sel h n2)
      obtain ⟨i', m1, m2, m3⟩ := sel_rel hl z2
      rw [m3] at z3
      exact h.pair (fun z => n1 (by rw [z]; exact m1)) (by rw [hx, z]) m2 hy z3
theorem sel_vals {us : List V} {xs : List Value} (h : Vals us xs) : ∀ {g : List Nat}, Vals (Pu.sel g us) (Pu.sel g xs) := by
  have at_ : ∀ {us : List V} {xs : List Value} {i : Nat} {u : V}, Vals us xs → us[i]? = some u → ∃ x, xs[i]? = some x ∧ RelV u x := fun {us xs i u} h => by
    induction h generalizing i with
    | nil => intro z; simp at z
    | cons a b ih => cases i with
      | zero => intro z; simp at z; subst z; exact ⟨_, rfl, a⟩
      | succ i => intro z; exact ih (by simpa using z)
  intro g
  induction g with
  | nil => exact .nil
  | cons i g ih =>
    unfold Pu.sel
    cases hx : us[i]? with
    | none =>
      have hy : xs[i]? = none := List.getElem?_eq_none (by rw [← h.length]; exact List.getElem?_eq_none_iff.mp hx)
      simp only [hy]
      exact ih
    | some u =>
      obtain ⟨x, hy, r⟩ := at_ h hx
      simp only [hy]
      exact .cons r ih
theorem RRs.join {F1 H1 F2 H2 : Hp} {e1 e2 : Ev} (C1 : Cur K B F1 H1 e1 σ) (c2 : Cur K (bg B.np F1 H1 e1 σ) F2 H2 e2 σ) {zs : List RV} {xs : List V} (q2 : RRs K (bg B.np F1 H1 e1 σ) F2 H2 e2 σ zs xs) {rs : List RV} {us : List V} (q1 : RRs K B F1 H1 e1 σ rs us) :
    RRs K B F2 H2 e2 σ (rs ++ zs) (us ++ xs) := by
  induction q1 with
  | nil => exact Carry.out C1 q2
  | cons r d t ih =>
    rename_i r' u' rs us
    refine .cons (r.carry c2) (fun v z j w h1 h2 => ?_) ih
    replace h1 : (rs ++ zs)[j]? = some (.tmp w) := h1
    replace h2 : (us ++ xs)[j]? = some u' := h2
    have tl := t.length
    by_cases hj : j < rs.length
    · rw [List.getElem?_append_left hj] at h1
      rw [List.getElem?_append_left (by omega)] at h2
      exact d v z j w h1 h2
    · rw [List.getElem?_append_right (by omega)] at h1 h2
      subst z
      obtain ⟨t0, z1, z2, z3, z4, z5⟩ := r
      obtain ⟨o, z6⟩ := z3.some
      subst z1
      rw [← tl] at h2
      obtain ⟨t', y1, y2, y3, y4, y5⟩ := q2.mem_tmp h1 h2
      cases y1
      rcases y5 with y5 | y5
      · exact z4 y5
      · have y6 : H1 t0 = none := y5
        rw [z6] at y6; cases y6
end
abbrev SK (X : Cx) (W : WX) (kws : List Keyword) (m : M (List RV)) : Prop := PK X kws (tA X.K W m)
theorem PK.imp {X : Cx} {kws : List Keyword} {t t' : TA} (h : PK X kws t) (q : ∀ σ H Q, t' σ H Q → t σ H Q) : PK X kws t' := ⟨fun p pins s σ H Q I z => h.run p pins s σ H Q I (q σ H Q z)⟩
theorem sk_nil {X : Cx} {W : WX} : SK X W [] mNil := PK.imp pk_nil fun σ H Q h => by
  obtain ⟨np, F, e, R, h⟩ := h
  exact h.ok rfl (Cur.refl R) .nil
theorem sk_cons {X : Cx} {W : WX} {a : Expr} {nm : Option Str} {kpos : Pos} {kws : List Keyword} {ma : M RV} {mr : M (List RV)} (ha : SE X W a ma) (hr : SK X W kws mr) : SK X W (⟨nm, a, kpos⟩ :: kws) (mCons ma mr) := by
  refine PK.imp (pk_cons ha hr) fun σ H Q h => ?_
  obtain ⟨np, F, e, R, h⟩ := h
  refine use (Cur.refl R) h fun r1 e1 F1 H1 x C1 q1 _ h1 => ?_
  refine useS (R1 := RRs X.K) C1 h1 fun rs e2 F2 H2 xs C2 q2 c2 h2 => ?_
  exact h2.ok rfl C2 (RRs.front C1 q1 c2 q2)
def mCallK (ms : List Bool) (f : M RV) (as ks : M (List RV)) (n m : Nat) (g : List Nat) : M RV := as.bind fun rs => ks.bind fun zs => if rs.length = n ∧ zs.length = m then runF ms f (sel g (rs ++ zs)) else M.bad
def cK (n m : Nat) (sp : Sp) (W : WX) (g : List Nat) (t u : TA) : TE := fun σ H Q => t σ H fun vs H1 => u σ H1 fun zs H2 => vs.length = n ∧ zs.length = m ∧ sp (sel g (vs ++ zs)) H2 Q (WE W σ)
section
variable {X : Cx} {W : WX} {k n : Nat} {f : Addr} {fd : FuncData} {ps ks : List Str} {x : Str} {p pos : Pos} {e : Expr} {es : List Expr} {kws : List Keyword} {mf : M RV} {mr mk : M (List RV)} {sp : Sp} {t u : TA} {g : List Nat}
theorem goK {pins : List (Addr × Obj)} {σ : Sig} {H : Hp} {s : Shared} {Q : VK} {us ws : List Value} {vs zs : List V} (F : FnG X.prog X.w X.K X.mg X.base k f fd ps sp) (hr : Room k X.A) (hG : X.A.guards = some []) (tk : Takes X W) (hb : KB X.K fd ps n ks g)
    (I : Inv X pins σ H s) (r : Vals vs us) (rz : Vals zs ws) (l1 : vs.length = n) (l2 : zs.length = ks.length) (h : sp (sel g (vs ++ zs)) H Q (WE W σ)) : wpAny (model X.prog X.w) X.A (call (.ref f) us (ks.zip ws)) (EP X pins σ Q) X.xe s :=
  goG F hr hG tk I (hb.to s us ws I.kIn (r.length.symm.trans l1) (rz.length.symm.trans l2)) (sel_vals (r.append rz)) h
theorem pg_callKs (F : FnG X.prog X.w X.K X.mg X.base k f fd ps sp) (hr : Room k X.A) (hG : X.A.guards = some []) (tk : Takes X W) (gl : Gl X x)
    (at_ : X.mg x = some (.ref f)) (kp : PySem.W.keepIn X.K (.ref f) = true) (hb : KB X.K fd ps n ks g) (ha : PA X (e :: es) t) (hk : PK X kws u)
    (k1 : (backToKw pos (keywordEach kws X.env)).all (·.1.isSome) = true := by rfl) (k2 : (backToKw pos (keywordEach kws X.env)).filterMap (·.1) = ks := by rfl) (n1 : (x == ("__debug__" : Str)) = false := by decide)
    (n2 : starEach (e :: es) X.env = (false, eval e X.env) :: starEach es X.env := by rfl)
    (n3 : ((backTo pos (starEach (e :: es) X.env)).any (·.1) || (backToKw pos (keywordEach kws X.env)).any (·.1.isNone)) = false := by rfl) : PE X (.Call (.Name x p) (e :: es) kws pos) (cK n ks.length sp W g t u) := by
  constructor
  intro pins s σ H Q I h
  refine wpAny_Call_Name_kw (ld_glob I gl at_ ?_ n1)
  refine PySem.W.callWith_KW (h₀ := X.base) I.ok.mod.kin kp k1 (thn (ha.run pos pins s σ H _ I h) ?_) n3 n2
  rintro us s1 ⟨vs, H1, I1, r, q⟩
  refine thn (hk.run pos pins s1 σ H1 _ I1 q) ?_
  rintro ws s2 ⟨zs, H2, I2, rz, l1, l2, q2⟩
  refine ⟨I2.kIn, ?_⟩
  rw [k2]
  exact goK F hr hG tk hb I2 r rz l1 l2 q2
theorem pg_callK0 (F : FnG X.prog X.w X.K X.mg X.base k f fd ps sp) (hr : Room k X.A) (hG : X.A.guards = some []) (tk : Takes X W) (gl : Gl X x)
    (at_ : X.mg x = some (.ref f)) (kp : PySem.W.keepIn X.K (.ref f) = true) (hb : KB X.K fd ps 0 ks g) (hk : PK X kws u)
    (k1 : (backToKw pos (keywordEach kws X.env)).all (·.1.isSome) = true := by rfl) (k2 : (backToKw pos (keywordEach kws X.env)).filterMap (·.1) = ks := by rfl) (n1 : (x == ("__debug__" : Str)) = false := by decide)
    (n3 : ((backTo pos (starEach [] X.env)).any (·.1) || (backToKw pos (keywordEach kws X.env)).any (·.1.isNone)) = false := by rfl) : PE X (.Call (.Name x p) [] kws pos) (cK 0 ks.length sp W g tNil u) := by
  constructor
  intro pins s σ H Q I h
  refine wpAny_Call_Name_kw (ld_glob I gl at_ ?_ n1)
  refine PySem.W.callWith_KW0 (h₀ := X.base) I.ok.mod.kin kp k1 ?_ n3
  refine thn (hk.run pos pins s σ H _ I h) ?_
  rintro ws s2 ⟨zs, H2, I2, rz, l1, l2, q2⟩
  refine ⟨I2.kIn, ?_⟩
  rw [k2]
  exact goK (us := []) F hr hG tk hb I2 .nil rz l1 l2 q2
theorem kw_ok {K : PySem.W.Frag} {B : Bg} {F F1 F2 H H1 H2 : Hp} {e e1 e2 : Ev} {σ : Sig} {ms : List Bool} {rs zs : List RV} {us xs : List V} {m nn : Nat} {Q : VK} (C1 : Cur K B F1 H1 e1 σ) (q1 : RRs K B F1 H1 e1 σ rs us) (c2 : Cur K (bg B.np F1 H1 e1 σ) F2 H2 e2 σ)
    (q2 : RRs K (bg B.np F1 H1 e1 σ) F2 H2 e2 σ zs xs) (nd : g.Nodup) (hn : ms.length = nn) (h : At K W (RR K) B (if rs.length = n ∧ zs.length = m then runF ms mf (sel g (rs ++ zs)) else M.bad) F2 e2 σ H2 Q) : us.length = n ∧ xs.length = m ∧ spG K nn mf (sel g (us ++ xs)) H2 Q (WE W σ) := by
  by_cases hh : rs.length = n ∧ zs.length = m
  · rw [if_pos hh] at h
    exact ⟨q1.length.symm.trans hh.1, q2.length.symm.trans hh.2, call_ok (C1.trans c2) ((RRs.join C1 c2 q2 q1).sel nd) h hn⟩
  · rw [if_neg hh] at h
    exact h.elim
theorem se_callK {nn : Nat} (ms : List Bool) (F : FnG X.prog X.w X.K X.mg X.base k f fd ps (spG X.K nn mf)) (G : Good X k W) (gl : Gl X x)
    (at_ : X.mg x = some (.ref f)) (kp : PySem.W.keepIn X.K (.ref f) = true) (hb : KB X.K fd ps n ks g) (ha : SA X W (e :: es) mr) (hk : SK X W kws mk) (hn : ms.length = nn := by rfl)
    (k1 : (backToKw pos (keywordEach kws X.env)).all (·.1.isSome) = true := by rfl) (k2 : (backToKw pos (keywordEach kws X.env)).filterMap (·.1) = ks := by rfl) (n1 : (x == ("__debug__" : Str)) = false := by decide)
    (n2 : starEach (e :: es) X.env = (false, eval e X.env) :: starEach es X.env := by rfl)
    (n3 : ((backTo pos (starEach (e :: es) X.env)).any (·.1) || (backToKw pos (keywordEach kws X.env)).any (·.1.isNone)) = false := by rfl) : SE X W (.Call (.Name x p) (e :: es) kws pos) (mCallK ms mf mr mk n ks.length g) := by
  refine PE.imp (pg_callKs F G.room G.gd G.tk gl at_ kp hb ha hk k1 k2 n1 n2 n3) fun σ H Q h => ?_
  obtain ⟨np, F, e, R, h⟩ := h
  refine use (R1 := RRs X.K) (Cur.refl R) h fun rs e1 F1 H1 us C1 q1 _ h1 => ?_
  exact useS (R1 := RRs X.K) C1 h1 fun zs e2 F2 H2 xs C2 q2 c2 h2 => kw_ok (F := F) (H := H) (e := e) C1 q1 c2 q2 hb.nd hn h2
theorem se_callK0 {nn : Nat} (ms : List Bool) (F : FnG X.prog X.w X.K X.mg X.base k f fd ps (spG X.K nn mf)) (G : Good X k W) (gl : Gl X x)
    (at_ : X.mg x = some (.ref f)) (kp : PySem.W.keepIn X.K (.ref f) = true) (hb : KB X.K fd ps 0 ks g) (hk : SK X W kws mk) (hn : ms.length = nn := by rfl)
    (k1 : (backToKw pos (keywordEach kws X.env)).all (·.1.isSome) = true := by rfl) (k2 : (backToKw pos (keywordEach kws X.env)).filterMap (·.1) = ks := by rfl) (n1 : (x == ("__debug__" : Str)) = false := by decide)
    (n3 : ((backTo pos (starEach [] X.env)).any (·.1) || (backToKw pos (keywordEach kws X.env)).any (·.1.isNone)) = false := by rfl) : SE X W (.Call (.Name x p) [] kws pos) (mCallK ms mf mNil mk 0 ks.length g) := by
  refine PE.imp (pg_callK0 F G.room G.gd G.tk gl at_ kp hb hk k1 k2 n1 n3) fun σ H Q h => ?_
  obtain ⟨np, F, e, R, h⟩ := h
  have C := Cur.refl (np := np) R
  have h0 : At X.K W (RR X.K) (bg np F H e σ) (mk.bind fun zs => if ([] : List RV).length = 0 ∧ zs.length = ks.length then runF ms mf (sel g ([] ++ zs)) else M.bad) F e σ H Q := h
  exact useS (R1 := RRs X.K) C h0 fun zs e2 F2 H2 xs C2 q2 c2 h2 => kw_ok (us := []) (F := F) (H := H) (e := e) C .nil c2 q2 hb.nd hn h2
end
end Pu
set_option Elab.async false
set_option linter.all false
set_option maxRecDepth 100000
/-! Pu, part Q: what is not walked; unary minus, chains, slices, several names at once, x op= e, isinstance. -/
namespace Pu
open PySem PySem.Spec PyProof.Rows L2
section
variable {X : Cx} {W : WX} {np : Nat}
/-- what is never reached needs no rule -/
theorem se_bad {e : Expr} : SE X W e M.bad := ⟨fun _ _ _ _ _ _ ⟨_, _, _, _, h⟩ => h.elim⟩
theorem st_bad {e : Expr} : ST X W e M.bad := ⟨fun _ _ _ _ _ _ ⟨_, _, _, _, h⟩ => h.elim⟩
theorem si_bad {t e : Expr} : SI X W t e M.bad := ⟨fun _ _ _ _ _ _ ⟨_, _, _, _, h⟩ => h.elim⟩
theorem sg_bad {ws : List Nat} {e : Expr} : SG X W ws e (fun _ => M.bad) := ⟨fun _ _ _ _ _ _ _ _ _ ⟨_, _, _, _, _, _, h⟩ => h.elim⟩
theorem ss_bad {st : Stmt} : SS X W np st M.bad := ⟨fun _ _ _ _ _ _ ⟨_, _, _, h⟩ => h.elim⟩
theorem sb_bad {b : List Stmt} : SB X W np b M.bad := ⟨fun _ _ _ _ _ _ ⟨_, _, _, h⟩ => h.elim⟩
end
section
variable {K : PySem.W.Frag} {W : WX} {α β α' β' : Type} {R1 : Bg → Hp → Hp → Ev → Sig → α → β → Prop} {R2 : Bg → Hp → Hp → Ev → Sig → α' → β' → Prop} {B : Bg} {F H : Hp} {e : Ev} {σ : Sig}
theorem At.part [Carry K R1] {m : M α} {f : α → M α'} {Q : β' → Hp → Prop} {G : β → Hp → Prop} (C : Cur K B F H e σ) (h : At K W R2 B (m.bind f) F e σ H Q)
    (k : ∀ r e1 F1 H1 x, Cur K B F1 H1 e1 σ → R1 B F1 H1 e1 σ r x → Cur K (bg B.np F H e σ) F1 H1 e1 σ → At K W R2 B (f r) F1 e1 σ H1 Q → G x H1) : At K W R1 (bg B.np F H e σ) m F e σ H G := by
  unfold At M.bind at h
  unfold At
  cases hm : m e with
  | bad => rw [hm] at h; exact h
  | rs x e' =>
    rw [hm] at h
    exact fun F' H' cls d C' X' => h F' H' cls d (C.trans C') X'
  | ok r e' =>
    rw [hm] at h
    exact fun F' H' u C' r' => k r e' F' H' u (C.trans C') (Carry.out C r') C' h
end
/-! ### unary minus -/
def mNeg (a : M RV) : M RV := a.bind fun r => (M.rd r).bind fun v => match v with
  | .int i => mV (.int (-i))
  | _ => M.bad
theorem se_neg {X : Cx} {W : WX} {a : Expr} {ma : M RV} {pos : Pos} (ha : SE X W a ma) : SE X W (.UnaryOp .USub a pos) (mNeg ma) := by
  refine PE.imp (pe_un un_neg ha) fun σ H Q h => ?_
  obtain ⟨np, F, e, R, h⟩ := h
  refine use (R1 := RR X.K) (Cur.refl R) h fun r1 e1 F1 H1 x C1 q1 _ h1 => ?_
  obtain ⟨v, rv, h2⟩ := At.rd C1.rel q1 h1
  cases v with
  | int i => exact ⟨i, rv.int, h2.ok rfl C1 (VR.int _)⟩
  | _ => exact h2.elim
/-! ### a < b < c -/
def mChain (f g : Val → Val → M RV) (a b c : M RV) : M RV := a.bind fun r => b.bind fun s => (M.rd r).bind fun v => (M.rd s).bind fun w => (f v w).bind fun z => (M.rd z).bind fun k => match k with
  | .bl true => c.bind fun t => (M.rd s).bind fun w' => (M.rd t).bind fun x => g w' x
  | .bl false => mV (.bl false)
  | _ => M.bad
section
variable {X : Cx} {W : WX} {a b c : Expr} {ma mb mc : M RV} {pos : Pos} {f g : Val → Val → M RV} {r r' : R2} {op op' : CmpOp}
theorem chain_ok {K : PySem.W.Frag} (hf : OpV K W f r) (hg : OpV K W g r') {σ : Sig} {H : Hp} {Q : VK} (h : tE K W (mChain f g ma mb mc) σ H Q) : tChain r r' (tE K W ma) (tE K W mb) (tE K W mc) σ H Q := by
  obtain ⟨np, F, e, R, h⟩ := h
  refine use (R1 := RR K) (Cur.refl R) h fun r1 e1 F1 H1 x C1 q1 _ h1 => ?_
  refine use (R1 := RR K) C1 h1 fun r2 e2 F2 H2 y C2 q2 c2 h2 => ?_
  obtain ⟨v, rv, h3⟩ := At.rd C2.rel (q1.carry c2) h2
  obtain ⟨w, rw_, h4⟩ := At.rd C2.rel q2 h3
  refine hf (Cur.refl (np := (bg np F H e σ).np) C2.rel) rv rw_ (At.part (R1 := RR K) C2 h4 fun z e3 F3 H3 u C3 q3 c3 h5 => ?_)
  obtain ⟨k, rk, h6⟩ := At.rd C3.rel q3 h5
  cases k with
  | bl k => cases k with
    | true =>
      refine ⟨true, rk.bl, ?_⟩
      rw [if_pos rfl]
      refine use (R1 := RR K) C3 h6 fun r4 e4 F4 H4 w4 C4 q4 c4 h7 => ?_
      obtain ⟨w', rw', h8⟩ := At.rd C4.rel ((q2.carry c3).carry c4) h7
      obtain ⟨x', rx', h9⟩ := At.rd C4.rel q4 h8
      exact hg C4 rw' rx' h9
    | false =>
      refine ⟨false, rk.bl, ?_⟩
      rw [if_neg (by decide)]
      exact h6.ok rfl C3 (VR.bl false)
  | _ => exact h6.elim
theorem se_chain (ho : OpR X (compareOp op) r) (ho' : OpR X (compareOp op') r') (hf : OpV X.K W f r) (hg : OpV X.K W g r') (ha : SE X W a ma) (hb : SE X W b mb) (hc : SE X W c mc)
    (hm : lastMarks [op, op'] [b, c] = false := by with_unfolding_all rfl) : SE X W (.Compare a [op, op'] [b, c] pos) (mChain f g ma mb mc) :=
  PE.imp (pe_chain ho ho' ha hb hc hm) fun _ _ _ h => chain_ok hf hg h
/-- a test by a value that is a bool -/
theorem test_of {K : PySem.W.Frag} {m : M RV} (hb2 : ∀ e r' e', m e = .ok r' e' → ∃ b, r' = .dat (.bl b)) {σ : Sig} {H : Hp} {Q : Bool → Hp → Prop} (h : tT K W (mTru m) σ H Q) : tE K W m σ H fun x H' => ∃ k, x = .bl k ∧ Q k H' := by
  obtain ⟨np, F, e, R, h⟩ := h
  refine ⟨np, F, e, R, ?_⟩
  unfold At mTru M.bind at h
  unfold At
  cases z : m e with
  | bad => rw [z] at h; exact h
  | rs x e' => rw [z] at h; exact h
  | ok r' e' =>
    rw [z] at h
    intro F' H' u C q
    obtain ⟨b, rfl⟩ := hb2 _ _ _ z
    have eu : u = .bl b := by cases q; rfl
    subst eu
    exact ⟨b, rfl, h F' H' b C rfl⟩
theorem bind_ok {α β : Type} {m : M α} {k : α → M β} {e e2 : Ev} {b : β} (h : m.bind k e = .ok b e2) : ∃ a e1, m e = .ok a e1 ∧ k a e1 = .ok b e2 := by
  unfold M.bind at h
  cases z : m e with
  | ok a e1 => simp only [z] at h; exact ⟨a, e1, rfl, h⟩
  | rs _ _ => simp only [z] at h; cases h
  | bad => simp only [z] at h; cases h
theorem chain_bl (hg : ∀ v w e r' e', g v w e = .ok r' e' → ∃ b, r' = .dat (.bl b)) : ∀ e r' e', mChain f g ma mb mc e = .ok r' e' → ∃ b, r' = .dat (.bl b) := by
  intro e r' e' h
  obtain ⟨r1, e1, -, h⟩ := bind_ok h
  obtain ⟨r2, e2, -, h⟩ := bind_ok h
  obtain ⟨v, e3, -, h⟩ := bind_ok h
  obtain ⟨w, e4, -, h⟩ := bind_ok h
  obtain ⟨z, e5, -, h⟩ := bind_ok h
  obtain ⟨k, e6, -, h⟩ := bind_ok h
  cases k with
  | bl k => cases k with
    | false => cases h; exact ⟨false, rfl⟩
    | true =>
      obtain ⟨t, e7, -, h⟩ := bind_ok h
      obtain ⟨w', e8, -, h⟩ := bind_ok h
      obtain ⟨x, e9, -, h⟩ := bind_ok h
      exact hg _ _ _ _ _ h
  | _ => cases h
theorem st_chain (ho : OpR X (compareOp op) r) (ho' : OpR X (compareOp op') r') (hf : OpV X.K W f r) (hg : OpV X.K W g r') (hb2 : ∀ v w e r' e', g v w e = .ok r' e' → ∃ b, r' = .dat (.bl b)) (ha : SE X W a ma) (hb : SE X W b mb) (hc : SE X W c mc)
    (hm : lastMarks [op, op'] [b, c] = false := by with_unfolding_all rfl) : ST X W (.Compare a [op, op'] [b, c] pos) (mTru (mChain f g ma mb mc)) :=
  PT.imp (pt_chain ho ho' ha hb hc hm) fun _ _ _ h => chain_ok hf hg (test_of (chain_bl hb2) h)
end
/-! ### slices -/
def cutA {α : Type} (xs : List α) (lo hi : Option Int) : List α := (xs.drop (HT.sIx xs.length 0 lo)).take (HT.sIx xs.length xs.length hi - HT.sIx xs.length 0 lo)
theorem VRs.cut {K : PySem.W.Frag} {F : Hp} {vs : List Val} {us : List V} (h : VRs K F vs us) (lo hi : Option Int) : VRs K F (cutA vs lo hi) (cutV us lo hi) := by
  unfold cutA cutV
  rw [h.length]
  exact (h.drop _).take _
abbrev SO (X : Cx) (W : WX) (e : Option Expr) (m : M (Option Int)) : Prop := PO X e (tM X.K W (fun _ _ _ _ _ (a b : Option Int) => a = b) m)
instance {K : PySem.W.Frag} : Carry K (fun _ _ _ _ _ (b c : Option Int) => b = c) := ⟨fun _ h => h⟩
def mNoP : M (Option Int) := M.ret none
def mPt (a : M RV) : M (Option Int) := a.bind fun r => (M.rd r).bind fun v => match v with
  | .int i => M.ret (some i)
  | _ => M.bad
def slV (v : Val) (lo hi : Option Int) : M RV := match v with
  | .lst xs => M.ret (.tmp (.lst (cutA xs lo hi)))
  | .tup xs => M.ret (.dat (.tup (cutA xs lo hi)))
  | .str z => if z.length ≤ sizeLine then M.ret (.dat (.str (cutS z lo hi))) else M.bad
  | _ => M.bad
def mSl (a : M RV) (lo hi : M (Option Int)) : M RV := a.bind fun r => lo.bind fun l => hi.bind fun u => (M.rd r).bind fun v => slV v l u
section
variable {X : Cx} {W : WX} {a : Expr} {lo hi : Option Expr} {ma : M RV} {ml mh : M (Option Int)} {pos p2 : Pos}
theorem PO.imp {e : Option Expr} {t t' : TO} (h : PO X e t) (q : ∀ σ H Q, t' σ H Q → t σ H Q) : PO X e t' := ⟨fun pins s σ H Q I z => h.run pins s σ H Q I (q σ H Q z)⟩
theorem so_none : SO X W none mNoP := PO.imp po_none fun σ H Q ⟨np, F, e, R, h⟩ => h.ok rfl (Cur.refl R) rfl
theorem so_some (ha : SE X W a ma) : SO X W (some a) (mPt ma) := by
  refine PO.imp (po_some ha) fun σ H Q h => ?_
  obtain ⟨np, F, e, R, h⟩ := h
  refine use (R1 := RR X.K) (Cur.refl R) h fun r1 e1 F1 H1 x C1 q1 _ h1 => ?_
  obtain ⟨v, rv, h2⟩ := At.rd C1.rel q1 h1
  cases v with
  | int i => exact ⟨i, rv.int, h2.ok rfl C1 rfl⟩
  | _ => exact h2.elim
theorem se_slice (ha : SE X W a ma) (hl : SO X W lo ml) (hh : SO X W hi mh) : SE X W (.Subscript a (.Slice lo hi none p2) pos) (mSl ma ml mh) := by
  refine PE.imp (pe_slice (SlR.or sl_list (SlR.or sl_tupA sl_str)) ha hl hh) fun σ H Q h => ?_
  obtain ⟨np, F, e, R, h⟩ := h
  refine use (R1 := RR X.K) (Cur.refl R) h fun r e1 F1 H1 x C1 q1 _ h1 => ?_
  refine use (R1 := fun _ _ _ _ _ (a b : Option Int) => a = b) C1 h1 fun l e2 F2 H2 l' C2 q2 c2 h2 => ?_
  refine use (R1 := fun _ _ _ _ _ (a b : Option Int) => a = b) C2 h2 fun u e3 F3 H3 u' C3 q3 c3 h3 => ?_
  obtain ⟨v, rv, h4⟩ := At.rd C3.rel ((q1.carry c2).carry c3) h3
  have el : l = l' := q2
  have eu : u = u' := q3
  subst el eu
  cases v with
  | lst xs =>
    obtain ⟨p, us, rfl, z1, z2⟩ := rv.lst C3.rel.sub
    refine .inl ⟨p, us, rfl, .inl z1, fun t ht => ?_⟩
    obtain ⟨C4, n4, f4, m4⟩ := C3.grow (o := .lst (cutV us l u)) ht
    exact h4.ok (r := RV.tmp (.lst (cutA xs l u))) rfl C4 ⟨t, rfl, f4, ⟨_, upd_same, z2.cut l u⟩, n4, m4⟩
  | tup xs =>
    obtain ⟨p, us, rfl, z1, z2⟩ := rv.tup C3.rel.sub
    refine .inr (.inl ⟨p, us, rfl, z1, fun hw => ?_, fun hw t ht => ?_⟩)
    · have e1 : cutA xs l u = xs := by
        unfold cutA
        rw [z2.length, hw.1, hw.2, List.drop_zero, Nat.sub_zero, ← z2.length, List.take_length]
      have h5 := h4
      rw [show slV (.tup xs) l u = M.ret (.dat (.tup (cutA xs l u))) from rfl, e1] at h5
      rcases rv with rv | ⟨_, _, no⟩
      · exact h5.ok rfl C3 rv
      · exact no.elim
    · obtain ⟨C4, s4, e4⟩ := C3.growF (o := .tup (cutV us l u)) ht
      exact h4.ok rfl C4 (VR.tup (SqT.of e4) ((z2.mono s4 |> fun z => z.cut l u)))
  | str z =>
    rw [rv.str]
    by_cases hz : z.length ≤ sizeLine
    · rw [show slV (.str z) l u = M.ret (.dat (.str (cutS z l u))) from by simp only [slV, hz, if_true]] at h4
      exact .inr (.inr ⟨z, rfl, hz, h4.ok rfl C3 (VR.str _)⟩)
    · rw [show slV (.str z) l u = M.bad from by simp only [slV, hz, if_false]] at h4
      exact h4.elim
  | _ => exact h4.elim
end
end Pu
set_option Elab.async false
set_option linter.all false
set_option maxRecDepth 100000
/-! Pu, part R: several names at once, x op= e, isinstance, [..] * n. -/
namespace Pu
open PySem PySem.Spec PyProof.Rows L2
/-! ### a, b = e1, e2 -/
def noBor : List RV → Bool
  | [] => true
  | .bor _ :: _ => false
  | _ :: rs => noBor rs
def slotOf : RV → Slot
  | .dat v => .dat v
  | .tmp v => .own v
  | .bor _ => .un
def setsE : List Nat → List RV → Ev → Ev
  | i :: is, r :: rs, e => setsE is rs (e.set i (slotOf r))
  | _, _, e => e
/-- p: a target among the parameters -/
def mPar (p : Bool) (is : List Nat) (as : M (List RV)) : S := as.bind fun rs => if rs.length = is.length then (if noBor rs = true ∧ p = false then fun e => .ok .nx (setsE is rs e) else (M.dts rs).bind fun vs => fun e => .ok .nx (setsE is (vs.map .dat) e)) else M.bad
def setsS : List Nat → List V → Sig → Sig
  | i :: is, u :: us, σ => setsS is us (σ.set i (some u))
  | _, _, σ => σ
section
variable {K : PySem.W.Frag} {W : WX} {B : Bg} {F H : Hp} {D : Ends}
theorem RRs.setOwn {e : Ev} {σ : Sig} {i : Nat} {t : Addr} {v : Val} {rs : List RV} {us : List V} (h : RRs K B F H e σ rs us) (n : noBor rs = true) (d : ∀ (j : Nat) w, rs[j]? = some (.tmp w) → us[j]? ≠ some (.ref t)) :
    RRs K B F H (e.set i (.own v)) (σ.set i (some (.ref t))) rs us := by
  induction h with
  | nil => exact .nil
  | cons r c q ih =>
    rename_i r' u' rs us
    refine .cons ?_ c (ih ?_ fun j w z => ?_)
    · cases r' with
      | dat w => exact r
      | bor j => cases n
      | tmp w =>
        obtain ⟨t', z1, z2, z3, z4, z5⟩ := r
        refine ⟨t', z1, z2, z3, fun ⟨j, x, y1, y2⟩ => ?_, z5⟩
        rcases getset y1 with ⟨z, _, _⟩ | ⟨z, y1⟩
        · subst z
          rcases getset y2 with ⟨_, y3, _⟩ | ⟨z', _⟩
          · have et : V.ref t' = V.ref t := Option.some.inj y3
            exact d 0 w rfl (by rw [z1, et]; rfl)
          · exact z' rfl
        · rw [List.getElem?_set_ne z] at y2
          exact z4 ⟨j, x, y1, y2⟩
    · cases r' <;> first | exact n | cases n
    · have := d (j + 1) w (by simpa using z)
      simpa using this
theorem RRs.setDat {e : Ev} {σ : Sig} {i : Nat} {u : V} {v : Val} {rs : List RV} {us : List V} (h : RRs K B F H e σ rs us) (n : noBor rs = true) : RRs K B F H (e.set i (.dat v)) (σ.set i (some u)) rs us := by
  induction h with
  | nil => exact .nil
  | cons r c q ih =>
    rename_i r' u' rs us
    refine .cons ?_ c (ih ?_)
    · cases r' with
      | dat w => exact r
      | bor j => cases n
      | tmp w =>
        obtain ⟨t', z1, z2, z3, z4, z5⟩ := r
        exact ⟨t', z1, z2, z3, fun z => z4 (z.unset Slot.dat_ne), z5⟩
    · cases r' <;> first | exact n | cases n
theorem sets_ok : ∀ {is : List Nat} {rs : List RV} {us : List V} {e : Ev} {σ : Sig}, Cur K B F H e σ → RRs K B F H e σ rs us → noBor rs = true → ((∀ i ∈ is, B.np ≤ i) ∨ ∀ r ∈ rs, ∃ v, r = .dat v) → Cur K B F H (setsE is rs e) (setsS is us σ)
  | [], rs, us, e, σ, C, _, _, _ => by cases rs <;> cases us <;> exact C
  | i :: is, _, _, e, σ, C, .nil, _, _ => C
  | i :: is, r :: rs, u :: us, e, σ, C, .cons a d t, n, hp => by
    have n' : noBor rs = true := by cases r <;> first | exact n | cases n
    have hp' : (∀ i ∈ is, B.np ≤ i) ∨ ∀ r ∈ rs, ∃ v, r = .dat v := by
      rcases hp with hp | hp
      · exact .inl fun j hj => hp j (List.mem_cons_of_mem _ hj)
      · exact .inr fun j hj => hp j (List.mem_cons_of_mem _ hj)
    show Cur K B F H (setsE is rs (e.set i (slotOf r))) (setsS is us (σ.set i (some u)))
    cases r with
    | dat v => exact sets_ok (C.setDat a) (t.setDat n') n' hp'
    | bor j => cases n
    | tmp v =>
      have hi : B.np ≤ i := by
        rcases hp with hp | hp
        · exact hp i (List.mem_cons_self ..)
        · obtain ⟨w, z⟩ := hp _ (List.mem_cons_self ..); cases z
      obtain ⟨a0, rfl, x2, x3, x4, x5⟩ := a
      exact sets_ok (C.setOwn x2 x3 x4 x5 hi) (t.setOwn n' fun j w z => d v rfl j w z) n' hp'
theorem AtS.dts : ∀ {rs : List RV} {us : List V} {f : List Val → S} {F : Hp} {e : Ev} {σ : Sig}, Cur K B F H e σ → RRs K B F H e σ rs us → AtS K W B ((M.dts rs).bind f) F e σ H D →
    ∃ F' e' vs, Cur K B F' H e' σ ∧ Same F F' ∧ VRs K F' vs us ∧ AtS K W B (f vs) F' e' σ H D
  | _, _, f, F, e, σ, C, .nil, q => ⟨F, e, [], C, Same.refl _, .nil, q⟩
  | _, _, f, F, e, σ, C, .cons (r := r) (u := u) (rs := rs) (us := us) h d t, q => by
    unfold M.dts at q
    rw [M.bind_assoc] at q
    obtain ⟨F1, e1, v, C1, s1, h1, q, keep⟩ := AtS.dt C h q
    rw [M.bind_assoc] at q
    obtain ⟨F2, e2, vs, C2, s2, h2, q⟩ := AtS.dts C1 (RRs.tail_keep keep t d) q
    exact ⟨F2, e2, v :: vs, C2, s1.trans s2, .cons (h1.mono s2) h2, q⟩
end
theorem noBor_dat : ∀ {vs : List Val}, noBor (vs.map .dat) = true
  | [] => rfl
  | _ :: vs => noBor_dat (vs := vs)
section
variable {X : Cx} {W : WX} {np k : Nat} {a b c : Expr} {ms : M (List RV)} {px py pz pt pos : Pos} {x y z : Str} {kt : Nat}
theorem par_ok {K : PySem.W.Frag} {B : Bg} {F H : Hp} {e : Ev} {σ : Sig} {D : Ends} {p : Bool} {is : List Nat} {rs : List RV} {us : List V} (hp : p = true ∨ ∀ i ∈ is, B.np ≤ i) (C : Cur K B F H e σ) (q : RRs K B F H e σ rs us)
    (h : AtS K W B (if rs.length = is.length then (if noBor rs = true ∧ p = false then fun e => .ok .nx (setsE is rs e) else (M.dts rs).bind fun vs => fun e => .ok .nx (setsE is (vs.map .dat) e)) else M.bad) F e σ H D) : us.length = is.length ∧ D.nx (setsS is us σ) H := by
  by_cases hl : rs.length = is.length
  · rw [if_pos hl] at h
    refine ⟨q.length.symm.trans hl, ?_⟩
    by_cases hb : noBor rs = true ∧ p = false
    · rw [if_pos hb] at h
      refine h.nx rfl (sets_ok C q hb.1 (.inl ?_))
      rcases hp with hp | hp
      · rw [hb.2] at hp; cases hp
      · exact hp
    · rw [if_neg hb] at h
      obtain ⟨F2, e2, vs, C2, _, r2, h2⟩ := AtS.dts C q h
      refine h2.nx rfl (sets_ok C2 (RRs.dats r2) noBor_dat (.inr fun r hr => ?_))
      obtain ⟨v, _, z⟩ := List.mem_map.mp hr
      exact ⟨v, z.symm⟩
  · rw [if_neg hl] at h
    exact h.elim
theorem ss_par (i j : Nat) (p : Bool) {k2 pt2} (G : Good X k W) (ha : SA X W [a, b] ms) (hp : p = true ∨ ∀ n ∈ [i, j], np ≤ n := by decide) (hij : i ≠ j := by decide) (hi : X.N[i]? = some x := by rfl) (hj : X.N[j]? = some y := by rfl)
    (hx : X.env.scope.names.lookup x = some .local := by rfl) (hy : X.env.scope.names.lookup y = some .local := by rfl)
    (hw : swappedStores [.Tuple [.Name x px, .Name y py] kt pt] (.Tuple [a, b] k2 pt2) X.env = pure (some [x, y]) := by rfl)
    (hs : swapsWithSole [.Tuple [.Name x px, .Name y py] kt pt] (.Tuple [a, b] k2 pt2) pos.line X.env = pure false := by rfl) :
    SS X W np (.Assign [.Tuple [.Name x px, .Name y py] kt pt] (.Tuple [a, b] k2 pt2) pos) (mPar p [i, j] ms) := by
  refine PS.imp (ps_par G.calm G.nd hi hj hij hx hy ha hw hs) fun D σ H h => ?_
  obtain ⟨F, e, R, h⟩ := h
  refine useX (R1 := RRs X.K) (Cur.refl R) h fun rs e1 F1 H1 us C1 q1 _ h1 => ?_
  obtain ⟨l, w⟩ := par_ok hp C1 q1 h1
  match us, l, w with
  | [u, v], _, w => exact ⟨u, v, rfl, w⟩
theorem ss_par3 (i j l : Nat) (p : Bool) {k2 pt2} (G : Good X k W) (ha : SA X W [a, b, c] ms) (hp : p = true ∨ ∀ n ∈ [i, j, l], np ≤ n := by decide) (hij : i ≠ j := by decide) (hil : i ≠ l := by decide) (hjl : j ≠ l := by decide) (hi : X.N[i]? = some x := by rfl) (hj : X.N[j]? = some y := by rfl) (hl : X.N[l]? = some z := by rfl)
    (hx : X.env.scope.names.lookup x = some .local := by rfl) (hy : X.env.scope.names.lookup y = some .local := by rfl) (hz : X.env.scope.names.lookup z = some .local := by rfl)
    (hw : swappedStores [.Tuple [.Name x px, .Name y py, .Name z pz] kt pt] (.Tuple [a, b, c] k2 pt2) X.env = pure (some [x, y, z]) := by rfl)
    (hs : swapsWithSole [.Tuple [.Name x px, .Name y py, .Name z pz] kt pt] (.Tuple [a, b, c] k2 pt2) pos.line X.env = pure false := by rfl) :
    SS X W np (.Assign [.Tuple [.Name x px, .Name y py, .Name z pz] kt pt] (.Tuple [a, b, c] k2 pt2) pos) (mPar p [i, j, l] ms) := by
  refine PS.imp (ps_par3 G.calm G.nd hi hj hl hij hil hjl hx hy hz ha hw hs) fun D σ H h => ?_
  obtain ⟨F, e, R, h⟩ := h
  refine useX (R1 := RRs X.K) (Cur.refl R) h fun rs e1 F1 H1 us C1 q1 _ h1 => ?_
  obtain ⟨l, w⟩ := par_ok hp C1 q1 h1
  match us, l, w with
  | [u, v, w'], _, w => exact ⟨u, v, w', rfl, w⟩
end
/-! ### x op= e, on trees -/
def mAug (i : Nat) (f : Val → Val → M RV) (m : M RV) : S := (mVar i).bind fun r => match r with
  | .dat v => m.bind fun s => (M.rd s).bind fun w => (f v w).bind fun z => match z with
    | .dat v' => fun e => .ok .nx (e.set i (.dat v'))
    | _ => M.bad
  | _ => M.bad
def oAddI := oI fun i j => .int (i + j)
theorem v_addI {K : PySem.W.Frag} {W : WX} : OpV K W oAddI (rI0 fun i j => .int (i + j)) := opv_I fun _ _ _ => .int _
section
variable {K : PySem.W.Frag} {W : WX} {α β : Type} {R1 : Bg → Hp → Hp → Ev → Sig → α → β → Prop} {B : Bg} {F H : Hp} {e : Ev} {σ : Sig} {D : Ends}
theorem AtS.part [Carry K R1] {m : M α} {f : α → S} {G : β → Hp → Prop} (C : Cur K B F H e σ) (h : AtS K W B (m.bind f) F e σ H D)
    (k : ∀ r e1 F1 H1 x, Cur K B F1 H1 e1 σ → R1 B F1 H1 e1 σ r x → Cur K (bg B.np F H e σ) F1 H1 e1 σ → AtS K W B (f r) F1 e1 σ H1 D → G x H1) : At K W R1 (bg B.np F H e σ) m F e σ H G := by
  unfold AtS M.bind at h
  unfold At
  cases hm : m e with
  | bad => rw [hm] at h; exact h
  | rs x e' =>
    rw [hm] at h
    exact fun F' H' cls d C' X' => h F' H' σ cls d (C.trans C') X'
  | ok r e' =>
    rw [hm] at h
    exact fun F' H' u C' r' => k r e' F' H' u (C.trans C') (Carry.out C r') C' h
end
theorem ss_aug {X : Cx} {W : WX} {np k : Nat} (i : Nat) {x : Str} {e : Expr} {op : Operator} {f : Val → Val → M RV} {r : R2} {m : M RV} {pos pos' : Pos} (G : Good X k W) (ho : OpR X (inplaceOp op) r) (hv : OpV X.K W f r) (hm : SE X W e m) (hi : X.N[i]? = some x := by rfl) (hx : Loc X.env.scope x := by first | exact Or.inl rfl | exact Or.inr rfl)
    (hf : X.fn x = true ∨ X.env.scope.names.lookup x = some .local := by first | exact .inl rfl | exact .inr rfl) : SS X W np (.AugAssign (.Name x pos') op e pos) (mAug i f m) := by
  refine PS.imp (ps_aug (ti := r) G.nd hi hx hm ho hf) fun D σ H h => ?_
  obtain ⟨F, e, R, h⟩ := h
  cases z : e[i]? with
  | none => unfold AtS mAug M.bind mVar at h; simp only [z] at h
  | some s =>
    have il : i < σ.length := R.len ▸ (List.getElem?_eq_some_iff.mp z).1
    have ho' : σ[i]? = some σ[i] := List.getElem?_eq_getElem il
    cases s with
    | un => unfold AtS mAug M.bind mVar at h; simp only [z] at h
    | own v => unfold AtS mAug M.bind mVar at h; simp only [z] at h; exact h.elim
    | dat v =>
      obtain ⟨u, h1, h2⟩ := R.slot i _ _ z ho'
      have C := Cur.refl (np := np) R
      have h3 : AtS X.K W (bg np F H e σ) (m.bind fun s => (M.rd s).bind fun w => (f v w).bind fun z => match z with
        | .dat v' => fun e => .ok .nx (e.set i (.dat v'))
        | _ => M.bad) F e σ H D := by
        unfold AtS mAug at h
        unfold AtS
        unfold M.bind at h ⊢
        unfold mVar at h
        simp only [z] at h
        exact h
      refine ⟨u, by rw [ho', h1], useX (R1 := RR X.K) C h3 fun s e1 F1 H1 y C1 q1 c1 h4 => ?_⟩
      obtain ⟨w, rw_, h5⟩ := AtS.rd C1.rel q1 h4
      refine hv (Cur.refl (np := (bg np F H e σ).np) C1.rel) (.inl (h2.mono c1.post.sub)) rw_ (AtS.part (R1 := RR X.K) C1 h5 fun z e2 F2 H2 t C2 q2 c2 h6 => ?_)
      cases z with
      | dat v' => exact h6.nx rfl (C2.setDat q2)
      | _ => exact h6.elim
/-! ### [..] * n -/
def mRep (a b : M RV) : M RV := a.bind fun r => b.bind fun s => (M.rd s).bind fun k => match r, k with
  | .tmp (.lst xs), .int n => if -9223372036854775808 ≤ n ∧ n < 9223372036854775808 ∧ xs.length * n.toNat ≤ sizeLine then M.ret (.tmp (.lst (List.replicate n.toNat xs).flatten)) else M.bad
  | _, _ => M.bad
theorem VRs.rep {K : PySem.W.Frag} {F : Hp} {vs : List Val} {us : List V} (h : VRs K F vs us) : ∀ n : Nat, VRs K F (List.replicate n vs).flatten (List.replicate n us).flatten
  | 0 => .nil
  | n + 1 => by
    rw [List.replicate_succ, List.replicate_succ, List.flatten_cons, List.flatten_cons]
    exact h.append (VRs.rep h n)
theorem se_rep {X : Cx} {W : WX} {a b : Expr} {ma mb : M RV} {pos : Pos} (ha : SE X W a ma) (hb : SE X W b mb) : SE X W (.BinOp a .Mult b pos) (mRep ma mb) := by
  refine PE.imp (pe_op op_rep ha hb) fun σ H Q h => ?_
  obtain ⟨np, F, e, R, h⟩ := h
  refine use (R1 := RR X.K) (Cur.refl R) h fun r e1 F1 H1 x C1 q1 _ h1 => ?_
  refine use (R1 := RR X.K) C1 h1 fun s e2 F2 H2 y C2 q2 c2 h2 => ?_
  obtain ⟨k, rk, h3⟩ := At.rd C2.rel q2 h2
  have q1' := q1.carry c2
  cases r with
  | tmp v => cases v with
    | lst xs => cases k with
      | int n =>
        dsimp only at h3
        by_cases hh : -9223372036854775808 ≤ n ∧ n < 9223372036854775808 ∧ xs.length * n.toNat ≤ sizeLine
        · rw [if_pos hh] at h3
          obtain ⟨t, rfl, z2, ⟨us, z3, z4⟩, z5, z6⟩ := q1'
          refine ⟨t, n, us, rfl, rk.int, z3, by simpa using hh.1, by simpa using hh.2.1, by rw [← z4.length]; exact hh.2.2, fun p hp => ?_⟩
          obtain ⟨C3, n3, f3, m3⟩ := C2.grow (o := .lst (List.replicate n.toNat us).flatten) hp
          exact h3.ok (r := RV.tmp (.lst (List.replicate n.toNat xs).flatten)) rfl C3 ⟨p, rfl, f3, ⟨_, upd_same, z4.rep _⟩, n3, m3⟩
        · rw [if_neg hh] at h3
          exact h3.elim
      | _ => exact h3.elim
    | _ => cases k <;> exact h3.elim
  | dat v => cases k <;> exact h3.elim
  | bor i => cases k <;> exact h3.elim
/-! ### isinstance -/
abbrev Tg := String ⊕ Str
def tagV : Val → Option Tg
  | .non => some (.inl "NoneType")
  | .bl _ => some (.inl "bool")
  | .int _ => some (.inl "int")
  | .str _ => some (.inl "str")
  | .lst _ => some (.inl "list")
  | .tup _ => some (.inl "tuple")
  | .obj C _ _ => some (.inr C)
  | _ => none
def tagC : Val → Option Tg
  | .ty n => some (.inl n)
  | .glo C => some (.inr C)
  | _ => none
def tagT (K : PySem.W.Frag) : Tg → Value
  | .inl n => .type n
  | .inr C => .ref (He.ga K C)
structure Isi (K : PySem.W.Frag) (C : Addr) : Prop where
  cls : Cls K C
  at_ : PySem.W.findIn K (.ref C) "__class__" = some (some (.builtin "object.__class__"))
  get : PySem.W.specialIn K (.builtin "object.__class__") "__get__" = some (some (.builtin "getset_descriptor.__get__"))
  tak : PySem.W.takesIn K (.builtin "object.__class__") = some true
  obj : PySem.W.mroIn K C (.type "object") = some true
structure TOk (K : PySem.W.Frag) (T : List (Tg × Tg × Bool)) : Prop where
  ans : ∀ e ∈ T, PySem.W.kitOne K (tagT K e.1) (tagT K e.2.1) = some e.2.2
  own : ∀ e ∈ T, ∀ C, e.1 = .inr C → Isi K (He.ga K C)
def fIsi (T : List (Tg × Tg × Bool)) (vs : List Val) : M RV := match vs with
  | [v, c] => match tagV v, tagC c with
    | some a, some b => match T.find? fun e => decide (e.1 = a ∧ e.2.1 = b) with
      | some e => mV (.bl e.2.2)
      | none => M.bad
    | _, _ => M.bad
  | _ => M.bad
theorem tag_of {K : PySem.W.Frag} {F H : Hp} {v : Val} {u : V} {a : Tg} (s : Same F H) (r : RdR K F H v u) (h : tagV v = some a) (own : ∀ C, a = .inr C → Isi K (He.ga K C)) : TyX K H u (tagT K a) := by
  cases v with
  | non => cases h; rw [r.non]; exact .base .non
  | bl b => cases h; rw [r.bl]; exact .base (.bl b)
  | int i => cases h; rw [r.int]; exact .base (.int i)
  | str x => cases h; rw [r.str]; exact .base (.str x)
  | ty n => cases h
  | glo x => cases h
  | tup xs =>
    cases h
    obtain ⟨p, us, rfl, z, _⟩ := r.tup s
    rcases z with (z | ⟨o, z⟩) | ⟨o, its, n, z1, z2, _⟩
    · exact .base (.tup z)
    · exact .fTuple z
    · exact .kTuple z1 z2
  | lst xs =>
    cases h
    obtain ⟨p, us, rfl, z, _⟩ := r.lst s
    rcases z with z | ⟨o, z⟩
    · exact .base (.lst z)
    · exact .base (.frz z)
  | obj C fs vs =>
    cases h
    obtain ⟨p, dx, us, rfl, z, _⟩ := r.obj s
    obtain ⟨i1, i2, i3, i4, i5⟩ := own C rfl
    exact .base (.ins z i1 i2 i3 i4 i5)
theorem v_isi {K : PySem.W.Frag} {W : WX} {T : List (Tg × Tg × Bool)} (hT : TOk K T) : FnV K W (fIsi T) (rIsi K) := by
  intro B F H e σ vs us Q C r h
  unfold fIsi at h
  split at h
  · rename_i v c
    split at h
    · rename_i a b ha hb
      cases z : T.find? fun e => decide (e.1 = a ∧ e.2.1 = b) with
      | none => simp only [z] at h; exact h.elim
      | some en =>
        simp only [z] at h
        obtain ⟨u, w, rfl, r1, r2⟩ := r.two
        have m := List.mem_of_find?_eq_some z
        have p := List.find?_some z
        have p' : en.1 = a ∧ en.2.1 = b := of_decide_eq_true p
        obtain ⟨rfl, rfl⟩ := p'
        refine ⟨u, w, _, tagT K en.2.1, en.2.2, rfl, ?_, tag_of C.rel.sub r1 ha (hT.own en m), hT.ans en m, h.ok rfl C (VR.bl _)⟩
        cases c with
        | ty n => cases hb' : en.2.1 with
          | inl n' =>
            rw [hb'] at hb
            cases hb
            rw [r2.ty]
            exact .ty n
          | inr C' => rw [hb'] at hb; cases hb
        | glo D => cases hb' : en.2.1 with
          | inr C' =>
            rw [hb'] at hb
            cases hb
            rw [r2.glo]
            exact .own _
          | inl n' => rw [hb'] at hb; cases hb
        | _ => cases hb
    · exact h.elim
  · exact h.elim
end Pu
set_option Elab.async false
set_option linter.all false
set_option maxRecDepth 100000
set_option maxHeartbeats 2000000
/-! Pu, part S: a law's end, over defs that are called where no guard runs. -/
namespace Pu
open PySem PySem.Spec PyProof.Rows L2
theorem law_goes {P : Program} {w : World} {K : PySem.W.Frag} {mg mb : Str → Option Value} {k : Nat} {fa a : Addr} {fd : FuncData} {x : Str} {sp : Sp} {s : Shared} {vs : List Value} {ns : List Int}
    (inK : K.In s.heap) (nl : ∀ b o, K.lookup b = some o → o.cls ≠ .type "list") (globals : s.heap.Ns mainGlobals mg) (blts : s.heap.Ns builtinsNs mb) (boots : ∀ y : Str, y ≠ "__name__" → mb y = bootBuiltins y) (unlimited : s.heap.NoLimit) (calm : s.gens = #[])
    (script : s.heap.get? a = some { cls := .type "list", data := .seq vs.toArray }) (allInt : IntsAre vs ns) (few : ns.length ≤ sizeLine) (room : Room k callerA)
    (F : ∀ base : Heap, K.In base → base.Ns mainGlobals mg → FnG P w K mg base k fa fd [x] sp) (bt : ∀ (s : Shared) (u : Value), BindsTo s fd ⟨[u], []⟩ [(x, u)])
    (wish : ∀ H : Hp, Rd H a (.lst (ns.map V.int)) → sp [.ref a] H (fun v _ => v = .bl true) fun _ _ _ => False) :
    codeAny (model P w) callerA (.call (.ref fa) ⟨[.ref a], []⟩) (fun r s' => r = .ok (.ret (.bool true)) ∧ OldK s.heap s'.heap ∧ s'.os = s.os ∧ AllBare s'.gens) s := by
  have outK : K.lookup a = none := by
    cases q : K.lookup a with
    | none => rfl
    | some o =>
      have := inK a o q
      rw [script] at this
      cases this
      exact absurd rfl (nl a _ q)
  -- the script alone is tracked, and nobody writes it
  obtain ⟨H, here, only⟩ : ∃ H : Hp, H a = some (.frz { cls := .type "list", data := .seq vs.toArray } (.lst (ns.map V.int))) ∧ ∀ b, b ≠ a → H b = none := ⟨fun b => if b = a then some (.frz { cls := .type "list", data := .seq vs.toArray } (.lst (ns.map V.int))) else none, if_pos rfl, fun b ne => if_neg ne⟩
  have sound : HOk P w H s.heap := fun b u z => by
    by_cases ne : b = a
    · subst ne
      rw [here] at z
      cases z
      exact ⟨script, by rw [List.length_map]; exact few, vs, _, vals_ints allInt, script⟩
    · rw [only b ne] at z; cases z
  have under : ∀ {b : Addr} {o : Obj}, s.heap.get? b = some o → b ≠ a → (hidT s.heap H).get? b = some o := fun e ne => hidT_get e (only _ ne)
  have table : ∀ {b : Addr} {m : Str → Option Value}, s.heap.Ns b m → (hidT s.heap H).Ns b m := fun {b m} h => by
    obtain ⟨o, es, ep, e, d, r⟩ := h
    refine ⟨o, es, ep, under e fun z => ?_, d, r⟩
    subst z
    rw [script] at e
    cases e
    cases (show Data.seq vs.toArray _ = Data.dict es ep from d)
  have inB : K.In (hidT s.heap H) := fun b o e => under (inK b o e) fun z => by rw [z, outK] at e; cases e
  have module_ : Mod K mg (hidT s.heap H) := by
    obtain ⟨mc, u1, u2⟩ := unlimited
    exact ⟨inB, table globals, ⟨mb, table blts, boots⟩, ⟨mc, table u1, u2⟩⟩
  have noFrame : ∀ b, b ∈ frs ([] : List Env) → False := fun b hb => by
    have : b ∈ ([] : List Addr) := hb
    simp at this
  have start : Env0 P w K mg (hidT s.heap H) callerA [] s H := ⟨rfl, module_, fun _ _ e => of_hidT e, Nat.le_of_eq (hidT_size _ _), trivial, fun b hb => (noFrame b hb).elim, sound, .of_eq calm⟩
  have runs := (F _ inB (table globals)).goes callerA [] s H ⟨[.ref a], []⟩ [.ref a] [.ref a] _ _ room rfl start (bt s (.ref a)) (.cons rfl .nil) (wish H (.inr ⟨_, here⟩))
  refine codeAny_mono runs fun res s' got => ?_
  match res, got with
  | .error z, got =>
    obtain ⟨_, _, _, _, _, _, _, _, _, _, _, _, no⟩ := got
    exact no.elim
  | .ok (.ret u), got =>
    obtain ⟨v, H', sameOs, bare, kept, sound', rel, isTrue⟩ := got
    have isTrue' : v = .bl true := isTrue
    subst isTrue'
    have eu : u = Value.bool true := rel
    refine ⟨by rw [eu], OldK.of_keep fun b o e => ?_, sameOs, bare⟩
    by_cases ne : b = a
    · subst ne
      have still := (sound' b _ (kept.frzs b _ _ here)).1
      rw [script] at e
      cases e
      exact still
    · exact kept.keep b o e (only b ne) (fun hb => noFrame b hb) (by simp)
/-! ### the Hook: facts by names, defs, a check of one's own -/
/-- more facts: a property; what isinstance asks of a class, its answers; a tuple of the module's -/
inductive Fy where
  | prop (C f : Str)
  | isi (C : Str)
  | kit (a b : Tg) (r : Bool)
  | tup (x : Str) (vs : List He.Dv)
  | gen (f : PySem.W.Frag → Bool)
/-- a property's getter -/
def gA (K : PySem.W.Frag) (C f : Str) : Addr := match PySem.W.recIn K (He.ma K (He.ga K C) f) "property" with
  | some (.ref g :: _) => g
  | _ => 0
def Fy.ok (K : PySem.W.Frag) : Fy → Bool
  | .prop C f => He.eqO (PySem.W.findIn K (.ref (He.ga K C)) f) (some (some (.ref (He.ma K (He.ga K C) f)))) && (He.eqO (PySem.W.specialIn K (.ref (He.ma K (He.ga K C) f)) "__get__") (some (some (.builtin "property.__get__"))) && (decide (PySem.W.takesIn K (.ref (He.ma K (He.ga K C) f)) = some true) &&
      match PySem.W.recIn K (He.ma K (He.ga K C) f) "property" with
      | some (.ref _ :: _) => true
      | _ => false))
  | .isi C => He.eqO (PySem.W.findIn K (.ref (He.ga K C)) "__class__") (some (some (.builtin "object.__class__"))) && (He.eqO (PySem.W.specialIn K (.builtin "object.__class__") "__get__") (some (some (.builtin "getset_descriptor.__get__"))) &&
      (decide (PySem.W.takesIn K (.builtin "object.__class__") = some true) && (decide (PySem.W.mroIn K (He.ga K C) (.type "object") = some true) && (He.Fa.cls C).ok K)))
  | .kit a b r => decide (PySem.W.kitOne K (tagT K a) (tagT K b) = some r)
  | .tup x vs => He.tupB K x vs
  | .gen f => f K
theorem prop_ok {K : PySem.W.Frag} {C f : Str} (h : (Fy.prop C f).ok K = true) : PropOf K (He.ga K C) f (He.ma K (He.ga K C) f) (gA K C f) := by
  unfold Fy.ok at h
  simp only [Bool.and_eq_true, decide_eq_true_eq] at h
  obtain ⟨h1, h2, h3, h4⟩ := h
  refine ⟨He.eqO_ok h1, He.eqO_ok h2, h3, ?_⟩
  unfold gA
  split at h4
  · rename_i g rest e
    exact ⟨rest, by rw [e]⟩
  · cases h4
theorem isi_ok {K : PySem.W.Frag} {C : Str} (h : (Fy.isi C).ok K = true) : Isi K (He.ga K C) := by
  unfold Fy.ok at h
  simp only [Bool.and_eq_true, decide_eq_true_eq] at h
  obtain ⟨h1, h2, h3, h4, h5⟩ := h
  exact ⟨He.cls_ok h5, He.eqO_ok h1, He.eqO_ok h2, h3, h4⟩
theorem kit_ok {K : PySem.W.Frag} {a b : Tg} {r : Bool} (h : (Fy.kit a b r).ok K = true) : PySem.W.kitOne K (tagT K a) (tagT K b) = some r := of_decide_eq_true h
abbrev AlP : Type := He.AlD × Bool
def noLists (K : PySem.W.Frag) : Bool := K.all fun q => match q.2.cls with
  | .type c => c != "list"
  | _ => true
def obsP (n : Nat) (fa : List He.Fa) (fn : List He5.DefA) (fy : List Fy) (g : Addr → Option Obj) : AlP := (He5.obsA fa fn (He.frG g (He5.asA g n)), (fy.all fun f => f.ok (He.frG g (He5.asA g n))) && noLists (He.frG g (He5.asA g n)))
structure SaysP (fa : List He.Fa) (fn : List He5.DefA) (fy : List Fy) (K : PySem.W.Frag) : Prop where
  a : He5.SaysA fa fn K
  y : ∀ f ∈ fy, f.ok K = true
  nl : noLists K = true
def hookP (n : Nat) (fa : List He.Fa) (fn : List He5.DefA) (fy : List Fy) : PySem.W.Hook where
  α := AlP
  obs := fun s => obsP n fa fn fy s.heap.get?
  val := fun _ => (He5.valA fn, true)
  says := fun _ h => ∃ K : PySem.W.Frag, K.In h ∧ SaysP fa fn fy K
  of := fun _ _ e => by
    have e1 := congrArg (fun z : AlP => z.1) e
    have e2 := Bool.and_eq_true_iff.mp (congrArg (fun z : AlP => z.2) e)
    exact ⟨_, He.frG_in, e1, List.all_eq_true.mp e2.1, e2.2⟩
  keeps := fun _ _ _ q kp => by
    obtain ⟨K, inK, c⟩ := q
    exact ⟨K, PySem.W.Frag.In.keeps inK kp, c⟩
theorem obsP_eq {n : Nat} {fa : List He.Fa} {fn : List He5.DefA} {fy : List Fy} {g : Addr → Option Obj} {s : Shared} (h : ∀ a, g a = s.heap.get? a) : obsP n fa fn fy g = (hookP n fa fn fy).obs s := by
  obtain rfl : g = s.heap.get? := funext h
  rfl
theorem noLists_ok {K : PySem.W.Frag} (h : noLists K = true) : ∀ b o, K.lookup b = some o → o.cls ≠ .type "list" := by
  intro b o e z
  have go : ∀ {l : List (Addr × Obj)}, l.lookup b = some o → (b, o) ∈ l := fun {l} => by
    induction l with
    | nil => intro q; cases q
    | cons p l ih =>
      intro q
      obtain ⟨c, d⟩ := p
      by_cases hc : b = c
      · subst hc
        rw [List.lookup_cons_self] at q
        cases q
        exact List.mem_cons_self ..
      · rw [List.lookup_cons, beq_eq_false_iff_ne.mpr hc] at q
        exact List.mem_cons_of_mem _ (ih q)
  have := List.all_eq_true.mp h _ (go e)
  simp only [z] at this
  simp at this
/-- a law: F gives the written part, the function object, the promise over every base -/
theorem walk_goes {l : PySem.W.OpenLaw} {n k : Nat} {q : Program} {loose : List Str} {XP : (Str → Option Value) → Heap → Prop} {YP : World → Heap → Prop} {d : DefRec} {x : Str}
    (hn : l.most = some n) (hn2 : n ≤ sizeLine) (hdf : d.params.defaults = []) (room : Room k callerA)
    (F : ∀ (w : World) (mg : Str → Option Value) (fa : Addr) (h : Heap), YP w h → h.Ns mainGlobals mg → mg d.name = some (.ref fa) →
      ∃ (K : PySem.W.Frag) (fd : FuncData) (f : M RV), K.In h ∧ noLists K = true ∧ (∀ (s : Shared) (u : Value), BindsTo s fd ⟨[u], []⟩ [(x, u)]) ∧
        (∀ ns : List Int, ns.length ≤ n → ∃ e', f [.dat (.lst (ns.map .int))] = .ok (.dat (.bl true)) e') ∧
        ∀ base : Heap, K.In base → base.Ns mainGlobals mg → FnG l.prog w K mg base k fa fd [x] (spG K 1 f)) :
    PySem.W.WalkO q loose XP YP l.row.toRowW d [] (fun f vs => PySem.call f vs) := by
  refine Att.attach_call hn hdf fun w s₀ s₁ mg mb fa o pm cd doc a vs ns G Y ho hd hcd hmg script allInt hlen calm => ?_
  obtain ⟨K, fd, f, inK, nl, bt, good, prom⟩ := F w mg fa _ Y G.T.g hmg
  refine law_goes inK (noLists_ok nl) G.T.g G.T.b G.T.builtins G.T.nolimit calm script allInt (Nat.le_trans hlen hn2) room prom bt fun H rd => ?_
  have iv : ∀ {F : Hp} {ns : List Int}, VRs K F (ns.map .int) (ns.map V.int) := fun {F ns} => by
    induction ns with
    | nil => exact .nil
    | cons i ns ih => exact .cons (.int i) ih
  have rel : Rel K H H [.dat (.lst (ns.map .int))] [some (V.ref a)] := by
    refine ⟨Same.refl _, rfl, fun i sl o h1 h2 => ?_, fun i j v w b h1 => ?_⟩
    · cases i with
      | zero => cases h1; cases h2; exact ⟨_, rfl, .lst rd iv⟩
      | succ i => simp at h1
    · cases i with
      | zero => cases h1
      | succ i => simp at h1
  obtain ⟨e', he⟩ := good ns hlen
  refine ⟨rfl, 1, H, _, rel, ?_⟩
  unfold At
  rw [he]
  intro F' H' u C r
  cases r
  rfl
end Pu
set_option Elab.async false
set_option linter.all false
set_option maxRecDepth 100000
/-! Pu, part T: defs by their data; calls of them; the module's names. -/
namespace Pu
open PySem PySem.Spec PyProof.Rows L2
theorem noTakes {X : Cx} : Takes X noW := by
  intro u s' q
  obtain ⟨_, _, _, _, _, _, _, _, _, _, _, _, _, _, _, _, _, no⟩ := q
theorem Good.blk {X : Cx} {k : Nat} {W : WX} (G : Good X k W) {s : Shared} {H : Hp} {scope : Scope} {cenv : Env} {fp : List Addr} : Good (X.blk s H scope cenv fp) k noW :=
  ⟨G.nd, G.calm, G.room, G.gd, noTakes, PassesOwn.never⟩
/-- the def's promise, and its data -/
structure FnB (P : Program) (w : World) (K : PySem.W.Frag) (mg : Str → Option Value) (base : Heap) (k : Nat) (d : He5.DefA) (ps : List Str) (n : Nat) (m : M RV) : Prop where
  ex : ∃ fd, FunD K d.name d.qual d.params d.body d.scope (d.dvs K) (d.kws K) (d.at_ K) fd ∧ FnG P w K mg base k (d.at_ K) fd ps (spG K n m)
structure BindD (d : He5.DefA) (ps : List Str) : Prop where
  dfl : d.dfl = []
  kwd : d.kwd = []
  all : ∀ (kV doc pm : Value) (an : Option Addr) (cdv ct : Value) (us : List Value), us.length = ps.length → bindArgs (PySem.W.fnOf d.name d.qual d.params d.body d.scope .none kV doc pm an cdv ct) ⟨us, []⟩ = pure (ps.zip us)
structure BindK (d : He5.DefA) (ps : List Str) (n : Nat) (ks : List Str) (g : List Nat) : Prop where
  dfl : d.dfl = []
  nd : g.Nodup
  all : ∀ (kV doc pm : Value) (an : Option Addr) (cdv ct : Value) (us ws : List Value), us.length = n → ws.length = ks.length → bindArgs (PySem.W.fnOf d.name d.qual d.params d.body d.scope .none kV doc pm an cdv ct) ⟨us, ks.zip ws⟩ = pure (ps.zip (sel g (us ++ ws)))
section
variable {P : Program} {w : World} {K : PySem.W.Frag} {mg : Str → Option Value} {base : Heap} {k j n : Nat} {d : He5.DefA} {ps : List Str} {m : M RV}
theorem FnB.up (B : FnB P w K mg base j d ps n m) (h : j ≤ k := by decide) : FnB P w K mg base k d ps n m := by
  obtain ⟨fd, D, F⟩ := B.ex
  exact ⟨fd, D, F.up h⟩
theorem FnB.parts (B : FnB P w K mg base k d ps n m) (bd : BindD d ps) : ∃ fd, FnG P w K mg base k (d.at_ K) fd ps (spG K n m) ∧ Binds K fd ps [] ∧ PySem.W.keepIn K (.ref (d.at_ K)) = true := by
  obtain ⟨fd, D, F⟩ := B.ex
  refine ⟨fd, F, ?_, D.kp⟩
  have e : d.dvs K = [] := by unfold He5.DefA.dvs; rw [bd.dfl]; rfl
  rw [e] at D
  exact D.bindsN bd.all
theorem FnB.partsK {ks : List Str} {g : List Nat} {c : Nat} (B : FnB P w K mg base k d ps n m) (bd : BindK d ps c ks g) : ∃ fd, FnG P w K mg base k (d.at_ K) fd ps (spG K n m) ∧ KB K fd ps c ks g ∧ PySem.W.keepIn K (.ref (d.at_ K)) = true := by
  obtain ⟨fd, D, F⟩ := B.ex
  refine ⟨fd, F, ?_, D.kp⟩
  have e : d.dvs K = [] := by unfold He5.DefA.dvs; rw [bd.dfl]; rfl
  rw [e] at D
  exact kb_of D bd.nd bd.all
/-- a def by its body -/
theorem fnB_of {N : List Str} {nn : Nat} {mb : S} (D : ∃ fd, FunD K d.name d.qual d.params d.body d.scope (d.dvs K) (d.kws K) (d.at_ K) fd) (S : FnScope N ps d.scope) (h1 : ps.length = n) (h2 : N.length = nn)
    (hb : ∀ (cdv : Value) (A : Around) (outer : List Env) (s : Shared) (H : Hp) (E : XK), Good (cxOf (L2.CX P w) P w K mg base N d.qual d.scope (d.at_ K) cdv A outer s H E) k (fun c d _ H => E c d H) →
      SB (cxOf (L2.CX P w) P w K mg base N d.qual d.scope (d.at_ K) cdv A outer s H E) (fun c d _ H => E c d H) n d.body mb) : FnB P w K mg base (k + 1) d ps n (fnDen n nn mb) := by
  obtain ⟨fd, D⟩ := D
  exact ⟨fd, D, fn_ok D S h1 h2 hb⟩
end
section
variable {X : Cx} {W : WX} {k n : Nat} {d : He5.DefA} {ps : List Str} {x m : Str} {p pos apos : Pos} {e o : Expr} {es : List Expr} {mf mo : M RV} {mr mk : M (List RV)} {kws : List Keyword}
theorem se_callD (ms : List Bool) (B : FnB X.prog X.w X.K X.mg X.base k d ps n mf) (bd : BindD d ps) (G : Good X k W) (gl : Gl X x) (at_ : X.mg x = some (.ref (d.at_ X.K))) (ha : SA X W (e :: es) mr) (hn : ms.length = n := by rfl) (n1 : (x == ("__debug__" : Str)) = false := by decide)
    (n2 : starEach (e :: es) X.env = (false, eval e X.env) :: starEach es X.env := by rfl) (n3 : (backTo pos (starEach es X.env)).any (·.1) = false := by rfl) : SE X W (.Call (.Name x p) (e :: es) [] pos) (mCall ms mf mr []) := by
  obtain ⟨fd, F, hb, kp⟩ := B.parts bd
  exact se_call ms F G gl at_ kp hb .nil VC.nil ha hn n1 n2 n3
theorem se_callD0 (B : FnB X.prog X.w X.K X.mg X.base k d ps 0 mf) (bd : BindD d ps) (G : Good X k W) (gl : Gl X x) (at_ : X.mg x = some (.ref (d.at_ X.K))) (n1 : (x == ("__debug__" : Str)) = false := by decide) : SE X W (.Call (.Name x p) [] [] pos) (mCall [] mf mNil []) := by
  obtain ⟨fd, F, hb, kp⟩ := B.parts bd
  exact se_call0 [] F G gl at_ kp hb .nil VC.nil rfl n1
theorem se_callDK {ks : List Str} {g : List Nat} {c : Nat} (ms : List Bool) (B : FnB X.prog X.w X.K X.mg X.base k d ps n mf) (bd : BindK d ps c ks g) (G : Good X k W) (gl : Gl X x) (at_ : X.mg x = some (.ref (d.at_ X.K))) (ha : SA X W (e :: es) mr) (hk : SK X W kws mk) (hn : ms.length = n := by rfl)
    (k1 : (backToKw pos (keywordEach kws X.env)).all (·.1.isSome) = true := by rfl) (k2 : (backToKw pos (keywordEach kws X.env)).filterMap (·.1) = ks := by rfl) (n1 : (x == ("__debug__" : Str)) = false := by decide)
    (n2 : starEach (e :: es) X.env = (false, eval e X.env) :: starEach es X.env := by rfl) (n3 : ((backTo pos (starEach (e :: es) X.env)).any (·.1) || (backToKw pos (keywordEach kws X.env)).any (·.1.isNone)) = false := by rfl) : SE X W (.Call (.Name x p) (e :: es) kws pos) (mCallK ms mf mr mk c ks.length g) := by
  obtain ⟨fd, F, hb, kp⟩ := B.partsK bd
  exact se_callK ms F G gl at_ kp hb ha hk hn k1 k2 n1 n2 n3
theorem se_callDK0 {ks : List Str} {g : List Nat} (ms : List Bool) (B : FnB X.prog X.w X.K X.mg X.base k d ps n mf) (bd : BindK d ps 0 ks g) (G : Good X k W) (gl : Gl X x) (at_ : X.mg x = some (.ref (d.at_ X.K))) (hk : SK X W kws mk) (hn : ms.length = n := by rfl)
    (k1 : (backToKw pos (keywordEach kws X.env)).all (·.1.isSome) = true := by rfl) (k2 : (backToKw pos (keywordEach kws X.env)).filterMap (·.1) = ks := by rfl) (n1 : (x == ("__debug__" : Str)) = false := by decide)
    (n3 : ((backTo pos (starEach [] X.env)).any (·.1) || (backToKw pos (keywordEach kws X.env)).any (·.1.isNone)) = false := by rfl) : SE X W (.Call (.Name x p) [] kws pos) (mCallK ms mf mNil mk 0 ks.length g) := by
  obtain ⟨fd, F, hb, kp⟩ := B.partsK bd
  exact se_callK0 ms F G gl at_ kp hb hk hn k1 k2 n1 n3
theorem se_makeD {C : Str} (ms : List Bool) (Mk : Mk X.K (He.ga X.K C) (d.at_ X.K)) (B : FnB X.prog X.w X.K X.mg X.base k d ps n mf) (bd : BindD d ps) (G : Good X (k + 1) W) (gl : Gl X x) (at_ : X.mg x = some (.ref (He.ga X.K C))) (ha : SA X W (e :: es) mr) (hn : ms.length + 1 = n := by rfl) (n1 : (x == ("__debug__" : Str)) = false := by decide)
    (n2 : starEach (e :: es) X.env = (false, eval e X.env) :: starEach es X.env := by rfl) (n3 : (backTo pos (starEach es X.env)).any (·.1) = false := by rfl) : SE X W (.Call (.Name x p) (e :: es) [] pos) (mMake C ms mf mr []) := by
  obtain ⟨fd, F, hb, kp⟩ := B.parts bd
  exact se_make ms Mk F G gl at_ hb .nil VC.nil ha hn n1 n2 n3
theorem se_methD {pl : Sem Bool} {C : Str} (ms : List Bool) (ho : SE X W o mo) (c : Cls X.K (He.ga X.K C)) (hm : Meth X.K (He.ga X.K C) m (d.at_ X.K)) (B : FnB X.prog X.w X.K X.mg X.base k d ps n mf) (bd : BindD d ps) (G : Good X k W) (ha : SA X W (e :: es) mr) (hn : ms.length = n := by rfl)
    (n2 : starEach (e :: es) X.env = (false, eval e X.env) :: starEach es X.env := by rfl) (n3 : (backTo pos (starEach es X.env)).any (·.1) = false := by rfl)
    (look : eval (.Call (.Attribute o m apos) (e :: es) [] pos) X.env = (do
      let ov ← eval o X.env
      standAt apos.atName
      let (f, first) ← holding [ov] (getMethod ov m pl)
      callWith pos f first (backTo pos (starEach (e :: es) X.env)) (backToKw pos (keywordEach [] X.env))) := by rfl) : SE X W (.Call (.Attribute o m apos) (e :: es) [] pos) (mMeth C m ms mf mo mr []) := by
  obtain ⟨fd, F, hb, kp⟩ := B.parts bd
  exact se_meth ms ho c hm F G rfl hb .nil VC.nil ha hn n2 n3 look
theorem se_methD0 {pl : Sem Bool} {C : Str} (ms : List Bool) (ho : SE X W o mo) (c : Cls X.K (He.ga X.K C)) (hm : Meth X.K (He.ga X.K C) m (d.at_ X.K)) (B : FnB X.prog X.w X.K X.mg X.base k d ps n mf) (bd : BindD d ps) (G : Good X k W) (hn : ms.length = n := by rfl)
    (look : eval (.Call (.Attribute o m apos) [] [] pos) X.env = (do
      let ov ← eval o X.env
      standAt apos.atName
      let (f, first) ← holding [ov] (getMethod ov m pl)
      callWith pos f first (backTo pos (starEach [] X.env)) (backToKw pos (keywordEach [] X.env))) := by rfl) : SE X W (.Call (.Attribute o m apos) [] [] pos) (mMeth C m ms mf mo mNil []) := by
  obtain ⟨fd, F, hb, kp⟩ := B.parts bd
  exact se_meth0 ms ho c hm F G rfl hb .nil VC.nil hn look
theorem se_propD {C f : Str} (ho : SE X W o mo) (c : Cls X.K (He.ga X.K C)) {p : Addr} (hp : PropOf X.K (He.ga X.K C) f p (d.at_ X.K)) (B : FnB X.prog X.w X.K X.mg X.base k d ps 1 mf) (bd : BindD d ps) (G : Good X (k + 1) W)
    (plain : attributeBase o f X.env (eval o X.env) = eval o X.env := by rfl) : SE X W (.Attribute o f pos) (mProp C mf mo) := by
  obtain ⟨fd, F, hb, kp⟩ := B.parts bd
  exact se_prop ho c hp F G hb plain
end
/-! ### the module's names -/
section
variable {X : Cx} {W : WX} {x : Str} {pos : Pos}
theorem se_gInt {i : Int} (gl : Gl X x) (h : ∃ t, X.mg x = some (.int i t)) (hd : (x == ("__debug__" : Str)) = false := by decide) : SE X W (.Name x pos) (mV (.int i)) := by
  obtain ⟨t, e⟩ := h
  exact se_gloV (u := .int i) gl e ⟨t, rfl⟩ (fun _ => .int i) hd
theorem se_gStr {z : Str} (gl : Gl X x) (h : ∃ t, X.mg x = some (.str z t)) (hd : (x == ("__debug__" : Str)) = false := by decide) : SE X W (.Name x pos) (mV (.str z)) := by
  obtain ⟨t, e⟩ := h
  exact se_gloV (u := .str z) gl e ⟨t, rfl⟩ (fun _ => .str z) hd
/-- a value of the module's written part, by name -/
def gv : Val → He.Dv
  | .non => .non
  | .bl b => .bl b
  | .int i => .int i
  | .str x => .str x
  | .ty n => .ty n
  | .glo x => .glo x
  | _ => .non
def flatG : Val → Bool
  | .non | .bl _ | .int _ | .str _ | .ty _ | .glo _ => true
  | _ => false
theorem gv_ok {K : PySem.W.Frag} {F : Hp} : ∀ {vs : List Val}, vs.all flatG = true → VRs K F vs ((vs.map gv).map (He.Dv.v K))
  | [], _ => .nil
  | v :: vs, h => by
    rw [List.all_cons, Bool.and_eq_true] at h
    refine .cons ?_ (gv_ok h.2)
    have h1 := h.1
    cases v with
    | non => exact .non
    | bl b => exact .bl b
    | int i => exact .int i
    | str z => exact .str z
    | ty n => exact .ty n
    | glo z => exact .glo z
    | _ => cases h1
theorem se_gTup {vs : List Val} (gl : Gl X x) (at_ : X.mg x = some (.ref (He.ga X.K x))) (h : He.tupB X.K x (vs.map gv) = true) (hf : vs.all flatG = true := by rfl) (hd : (x == ("__debug__" : Str)) = false := by decide) : SE X W (.Name x pos) (mV (.tup vs)) :=
  se_gloV (u := .ref (He.ga X.K x)) gl at_ rfl (fun F => .tup (He.tupB_ok h F) (gv_ok hf)) hd
end
theorem funD_fd {K : PySem.W.Frag} {x x' q q' : Str} {p p' : Arguments} {b b' : List Stmt} {sc sc' : Scope} {dvs dvs' : List V} {kws kws' : List (Str × V)} {f : Addr} {fd fd' : FuncData} (F : FunD K x q p b sc dvs kws f fd) (F' : FunD K x' q' p' b' sc' dvs' kws' f fd') : fd = fd' := by
  obtain ⟨_, _, _, _, _, _, _, _, _, _, _, l1, _⟩ := F.ex
  obtain ⟨_, _, _, _, _, _, _, _, _, _, _, l2, _⟩ := F'.ex
  rw [l1] at l2
  cases l2
  rfl
end Pu
set_option Elab.async false
set_option linter.all false
set_option maxRecDepth 100000
/-! Pu, part W: what a combinator gives, as a wish about its end. No heap, no program in sight. -/
namespace Pu.O
open PySem PySem.Spec PyProof.Rows L2 Pu
def Ok {α : Type} (m : M α) (e : Ev) (Q : α → Ev → Prop) : Prop := match m e with
  | .ok a e' => Q a e'
  | _ => False
section
variable {α β : Type} {m : M α} {e : Ev} {Q Q' : α → Ev → Prop} {R : β → Ev → Prop}
theorem Ok.mono (h : Ok m e Q) (k : ∀ a e', Q a e' → Q' a e') : Ok m e Q' := by
  unfold Ok at h ⊢
  cases q : m e with
  | ok a e' => rw [q] at h; exact k _ _ h
  | _ => rw [q] at h; exact h.elim
theorem ok_ex : Ok m e Q ↔ ∃ a e', m e = .ok a e' ∧ Q a e' := by
  unfold Ok
  cases h : m e with
  | ok a e' => exact ⟨fun z => ⟨a, e', rfl, z⟩, fun ⟨b, f, z, y⟩ => by cases z; exact y⟩
  | _ => exact ⟨fun z => z.elim, fun ⟨b, f, z, y⟩ => nomatch z⟩
theorem ok_bind {f : α → M β} : Ok (m.bind f) e R ↔ Ok m e fun a e' => Ok (f a) e' R := by
  unfold Ok M.bind
  cases m e <;> rfl
theorem ok_ret {a : α} : Ok (M.ret a) e Q ↔ Q a e := Iff.rfl
theorem ok_bad : Ok M.bad e Q ↔ False := Iff.rfl
theorem ok_ite {c : Prop} [Decidable c] {a b : M α} : Ok (if c then a else b) e Q ↔ (c → Ok a e Q) ∧ (¬c → Ok b e Q) := by
  by_cases h : c <;> simp [h]
end
variable {e : Ev}
theorem ok_mV {v : Val} {Q : RV → Ev → Prop} : Ok (mV v) e Q ↔ Q (.dat v) e := Iff.rfl
theorem ok_var {i : Nat} {Q : RV → Ev → Prop} : Ok (mVar i) e Q ↔ match e[i]? with
    | some (.dat v) => Q (.dat v) e
    | some (.own _) => Q (.bor i) e
    | _ => False := by
  unfold Ok mVar
  cases e[i]? with
  | none => exact Iff.rfl
  | some s => cases s <;> exact Iff.rfl
theorem ok_rdD {v : Val} {Q : Val → Ev → Prop} : Ok (M.rd (.dat v)) e Q ↔ Q v e := Iff.rfl
theorem ok_rdT {v : Val} {Q : Val → Ev → Prop} : Ok (M.rd (.tmp v)) e Q ↔ Q v e := Iff.rfl
theorem ok_rdB {i : Nat} {Q : Val → Ev → Prop} : Ok (M.rd (.bor i)) e Q ↔ match e[i]? with
    | some (.own v) => Q v e
    | some (.dat v) => Q v e
    | _ => False := by
  unfold Ok M.rd rd
  cases h : e[i]? with
  | none => simp [h]
  | some s => cases s <;> simp [h]
theorem ok_dtD {v : Val} {Q : Val → Ev → Prop} : Ok (M.dt (.dat v)) e Q ↔ Q v e := Iff.rfl
theorem ok_dtT {v : Val} {Q : Val → Ev → Prop} : Ok (M.dt (.tmp v)) e Q ↔ Q v e := Iff.rfl
theorem ok_dtB {i : Nat} {Q : Val → Ev → Prop} : Ok (M.dt (.bor i)) e Q ↔ match e[i]? with
    | some (.own v) => Q v (e.set i (.dat v))
    | some (.dat v) => Q v e
    | _ => False := by
  unfold Ok M.dt
  cases h : e[i]? with
  | none => simp [h]
  | some s => cases s <;> simp [h]
theorem ok_rds0 {Q : List Val → Ev → Prop} : Ok (M.rds []) e Q ↔ Q [] e := Iff.rfl
theorem ok_rdsC {r : RV} {rs : List RV} {Q : List Val → Ev → Prop} : Ok (M.rds (r :: rs)) e Q ↔ Ok (M.rd r) e fun v e1 => Ok (M.rds rs) e1 fun vs e2 => Q (v :: vs) e2 := by
  show Ok ((M.rd r).bind fun v => (M.rds rs).bind fun vs => M.ret (v :: vs)) e Q ↔ _
  rw [ok_bind]
  simp only [ok_bind, ok_ret]
theorem ok_dts0 {Q : List Val → Ev → Prop} : Ok (M.dts []) e Q ↔ Q [] e := Iff.rfl
theorem ok_dtsC {r : RV} {rs : List RV} {Q : List Val → Ev → Prop} : Ok (M.dts (r :: rs)) e Q ↔ Ok (M.dt r) e fun v e1 => Ok (M.dts rs) e1 fun vs e2 => Q (v :: vs) e2 := by
  show Ok ((M.dt r).bind fun v => (M.dts rs).bind fun vs => M.ret (v :: vs)) e Q ↔ _
  rw [ok_bind]
  simp only [ok_bind, ok_ret]
theorem ok_nil {Q : List RV → Ev → Prop} : Ok mNil e Q ↔ Q [] e := Iff.rfl
theorem ok_cons {a : M RV} {r : M (List RV)} {Q : List RV → Ev → Prop} : Ok (mCons a r) e Q ↔ Ok a e fun x e1 => Ok r e1 fun xs e2 => Q (x :: xs) e2 := by
  unfold mCons; simp only [ok_bind, ok_ret]
theorem ok_bin {f : Val → Val → M RV} {a b : M RV} {Q : RV → Ev → Prop} : Ok (mBin f a b) e Q ↔ Ok a e fun r e1 => Ok b e1 fun s e2 => Ok (M.rd r) e2 fun v e3 => Ok (M.rd s) e3 fun w e4 => Ok (f v w) e4 Q := by
  unfold mBin; simp only [ok_bind]
theorem ok_cb {f : List Val → M RV} {ms : M (List RV)} {Q : RV → Ev → Prop} : Ok (mCB f ms) e Q ↔ Ok ms e fun rs e1 => Ok (M.rds rs) e1 fun vs e2 => Ok (f vs) e2 Q := by
  unfold mCB; simp only [ok_bind]
theorem ok_tup {r : M (List RV)} {Q : RV → Ev → Prop} : Ok (mTup r) e Q ↔ Ok r e fun rs e1 => Ok (M.dts rs) e1 fun vs e2 => vs.length ≤ sizeLine ∧ Q (.dat (.tup vs)) e2 := by
  unfold mTup
  simp only [ok_bind, ok_ite, ok_ret, ok_bad]
  apply iff_of_eq; congr 1; funext rs e1; congr 1; funext vs e2
  apply propext
  by_cases h : vs.length ≤ sizeLine <;> simp [h]
theorem ok_lst {r : M (List RV)} {Q : RV → Ev → Prop} : Ok (mLst r) e Q ↔ Ok r e fun rs e1 => Ok (M.dts rs) e1 fun vs e2 => vs.length ≤ sizeLine ∧ Q (.tmp (.lst vs)) e2 := by
  unfold mLst
  simp only [ok_bind, ok_ite, ok_ret, ok_bad]
  apply iff_of_eq; congr 1; funext rs e1; congr 1; funext vs e2
  apply propext
  by_cases h : vs.length ≤ sizeLine <;> simp [h]
theorem ok_tru {m : M RV} {Q : Bool → Ev → Prop} : Ok (mTru m) e Q ↔ Ok m e fun r e1 => Ok (M.rd r) e1 fun v e2 => Ok (truV v) e2 Q := by
  unfold mTru; simp only [ok_bind]
theorem ok_truB {b : Bool} {Q : Bool → Ev → Prop} : Ok (truV (.bl b)) e Q ↔ Q b e := Iff.rfl
theorem ok_truI {i : Int} {Q : Bool → Ev → Prop} : Ok (truV (.int i)) e Q ↔ Q (i != 0) e := Iff.rfl
theorem ok_truN {Q : Bool → Ev → Prop} : Ok (truV .non) e Q ↔ Q false e := Iff.rfl
theorem ok_truL {xs : List Val} {Q : Bool → Ev → Prop} : Ok (truV (.lst xs)) e Q ↔ Q (!xs.isEmpty) e := Iff.rfl
theorem ok_truT {xs : List Val} {Q : Bool → Ev → Prop} : Ok (truV (.tup xs)) e Q ↔ Q (!xs.isEmpty) e := Iff.rfl
theorem ok_and {a b : M Bool} {Q : Bool → Ev → Prop} : Ok (mAnd a b) e Q ↔ Ok a e fun c e1 => (c = true → Ok b e1 Q) ∧ (¬ c = true → Q false e1) := by
  unfold mAnd; simp only [ok_bind, ok_ite, ok_ret]
theorem ok_or {a b : M Bool} {Q : Bool → Ev → Prop} : Ok (mOr a b) e Q ↔ Ok a e fun c e1 => (c = true → Q true e1) ∧ (¬ c = true → Ok b e1 Q) := by
  unfold mOr; simp only [ok_bind, ok_ite, ok_ret]
theorem ok_not {a : M Bool} {Q : Bool → Ev → Prop} : Ok (mNot a) e Q ↔ Ok a e fun c e1 => Q (!c) e1 := by
  unfold mNot; simp only [ok_bind, ok_ret]
theorem ok_ifE {c : M Bool} {a b : M RV} {Q : RV → Ev → Prop} : Ok (mIfE c a b) e Q ↔ Ok c e fun k e1 => (k = true → Ok a e1 Q) ∧ (¬ k = true → Ok b e1 Q) := by
  unfold mIfE; simp only [ok_bind, ok_ite]
theorem ok_andV {a b : M RV} {Q : RV → Ev → Prop} : Ok (mAndV a b) e Q ↔ Ok a e fun r e1 => Ok (M.rd r) e1 fun v e2 => match v with
    | .bl c => (c = true → Ok b e2 Q) ∧ (¬ c = true → Q (.dat (.bl false)) e2)
    | _ => False := by
  unfold mAndV; simp only [ok_bind]
  apply iff_of_eq; congr 1; funext r e1; congr 1; funext v e2
  cases v <;> simp only [ok_ite, ok_mV, ok_bad]
theorem ok_orV {a b : M RV} {Q : RV → Ev → Prop} : Ok (mOrV a b) e Q ↔ Ok a e fun r e1 => Ok (M.rd r) e1 fun v e2 => match v with
    | .bl c => (c = true → Q (.dat (.bl true)) e2) ∧ (¬ c = true → Ok b e2 Q)
    | _ => False := by
  unfold mOrV; simp only [ok_bind]
  apply iff_of_eq; congr 1; funext r e1; congr 1; funext v e2
  cases v <;> simp only [ok_ite, ok_mV, ok_bad]
theorem ok_notV {a : M RV} {Q : RV → Ev → Prop} : Ok (mNotV a) e Q ↔ Ok a e fun r e1 => Ok (M.rd r) e1 fun v e2 => match v with
    | .bl c => Q (.dat (.bl (!c))) e2
    | _ => False := by
  unfold mNotV; simp only [ok_bind]
  apply iff_of_eq; congr 1; funext r e1; congr 1; funext v e2
  cases v <;> simp only [ok_mV, ok_bad]
theorem ok_neg {a : M RV} {Q : RV → Ev → Prop} : Ok (mNeg a) e Q ↔ Ok a e fun r e1 => Ok (M.rd r) e1 fun v e2 => match v with
    | .int i => Q (.dat (.int (-i))) e2
    | _ => False := by
  unfold mNeg; simp only [ok_bind]
  apply iff_of_eq; congr 1; funext r e1; congr 1; funext v e2
  cases v <;> simp only [ok_mV, ok_bad]
theorem ok_chain {f g : Val → Val → M RV} {a b c : M RV} {Q : RV → Ev → Prop} : Ok (mChain f g a b c) e Q ↔ Ok a e fun r e1 => Ok b e1 fun s e2 => Ok (M.rd r) e2 fun v e3 => Ok (M.rd s) e3 fun w e4 => Ok (f v w) e4 fun z e5 => Ok (M.rd z) e5 fun k e6 => match k with
    | .bl k => (k = true → Ok c e6 fun t e7 => Ok (M.rd s) e7 fun w' e8 => Ok (M.rd t) e8 fun x e9 => Ok (g w' x) e9 Q) ∧ (¬ k = true → Q (.dat (.bl false)) e6)
    | _ => False := by
  unfold mChain; simp only [ok_bind]
  apply iff_of_eq; congr 1; funext r e1; congr 1; funext s e2; congr 1; funext v e3; congr 1; funext w e4; congr 1; funext z e5; congr 1; funext k e6
  cases k with
  | bl k => cases k <;> simp [ok_bind, ok_mV]
  | _ => simp only [ok_bad]
/-! statements -/
theorem ok_seq {a b : S} {Q : Out → Ev → Prop} : Ok (mSeq a b) e Q ↔ Ok a e fun o e1 => match o with
    | .nx => Ok b e1 Q
    | .bk => Q .bk e1
    | .ct => Q .ct e1
    | .rt r => Q (.rt r) e1 := by
  unfold Ok mSeq
  cases a e with
  | ok o e' => cases o <;> exact Iff.rfl
  | _ => exact Iff.rfl
theorem ok_skip {Q : Out → Ev → Prop} : Ok mSkip e Q ↔ Q .nx e := Iff.rfl
theorem ok_retS {m : M RV} {Q : Out → Ev → Prop} : Ok (mRet m) e Q ↔ Ok m e fun r e1 => Q (.rt r) e1 := by
  unfold mRet; rw [ok_bind]; exact Iff.rfl
theorem ok_retN {Q : Out → Ev → Prop} : Ok mRetN e Q ↔ Q (.rt (.dat .non)) e := Iff.rfl
theorem ok_bk {Q : Out → Ev → Prop} : Ok mBk e Q ↔ Q .bk e := Iff.rfl
theorem ok_ct {Q : Out → Ev → Prop} : Ok mCt e Q ↔ Q .ct e := Iff.rfl
theorem ok_ex1 {m : M RV} {Q : Out → Ev → Prop} : Ok (mEx m) e Q ↔ Ok m e fun _ e1 => Q .nx e1 := by
  unfold mEx; rw [ok_bind]; exact Iff.rfl
theorem ok_if {c : M Bool} {a b : S} {Q : Out → Ev → Prop} : Ok (mIf c a b) e Q ↔ Ok c e fun k e1 => (k = true → Ok a e1 Q) ∧ (¬ k = true → Ok b e1 Q) := by
  unfold mIf; simp only [ok_bind, ok_ite]
theorem ok_set {i : Nat} {m : M RV} {Q : Out → Ev → Prop} : Ok (mSet i m) e Q ↔ Ok m e fun r e1 => match r with
    | .dat v => Q .nx (e1.set i (.dat v))
    | .tmp v => Q .nx (e1.set i (.own v))
    | .bor j => Ok (M.dt (.bor j)) e1 fun v e2 => Q .nx (e2.set i (.dat v)) := by
  unfold mSet; rw [ok_bind]
  apply iff_of_eq; congr 1; funext r e1
  cases r with
  | dat v => rfl
  | tmp v => rfl
  | bor j => exact propext (by show Ok ((M.dt (.bor j)).bind _) e1 Q ↔ _; rw [ok_bind]; exact Iff.rfl)
theorem ok_setP {i : Nat} {m : M RV} {Q : Out → Ev → Prop} : Ok (mSetP i m) e Q ↔ Ok m e fun r e1 => Ok (M.dt r) e1 fun v e2 => Q .nx (e2.set i (.dat v)) := by
  unfold mSetP; simp only [ok_bind]; exact Iff.rfl
theorem ok_asg {mg : Val → M Unit} {m : M RV} {Q : Out → Ev → Prop} : Ok (mAsg mg m) e Q ↔ Ok m e fun r e1 => Ok (M.dt r) e1 fun v e2 => Ok (mg v) e2 fun _ e3 => Q .nx e3 := by
  unfold mAsg; simp only [ok_bind]; exact Iff.rfl
theorem ok_gN {i : Nat} {v : Val} {Q : Unit → Ev → Prop} : Ok (gN i v) e Q ↔ Q () (e.set i (.dat v)) := Iff.rfl
theorem ok_gsN {Q : Unit → Ev → Prop} : Ok (gsN []) e Q ↔ Q () e := Iff.rfl
theorem ok_gsC {m : Val → M Unit} {ms : List Val → M Unit} {v : Val} {vs : List Val} {Q : Unit → Ev → Prop} : Ok (gsC m ms (v :: vs)) e Q ↔ Ok (m v) e fun _ e1 => Ok (ms vs) e1 Q := by
  show Ok ((m v).bind fun _ => ms vs) e Q ↔ _
  rw [ok_bind]
theorem ok_gT {n : Nat} {ms : List Val → M Unit} {xs : List Val} {Q : Unit → Ev → Prop} : Ok (gT n ms (.tup xs)) e Q ↔ xs.length = n ∧ Ok (ms xs) e Q := by
  show Ok (if xs.length = n then ms xs else M.bad) e Q ↔ _
  by_cases h : xs.length = n <;> simp [h, ok_bad]
theorem ok_gSb {mo mi : M RV} {v : Val} {Q : Unit → Ev → Prop} : Ok (gSb mo mi v) e Q ↔ Ok mo e fun r e1 => Ok mi e1 fun s e2 => Ok (M.rd s) e2 fun k e3 => match r, k with
    | .bor j, .int k => (match e3[j]? with
      | some (.own (.lst xs)) => (match ixN xs.length k with
        | some n => Q () (e3.set j (.own (.lst (xs.set n v))))
        | none => False)
      | _ => False)
    | _, _ => False := by
  unfold gSb; simp only [ok_bind]
  apply iff_of_eq; congr 1; funext r e1; congr 1; funext s e2; congr 1; funext k e3
  cases r with
  | bor j => cases k with
    | int k =>
      apply propext
      unfold Ok
      dsimp only
      cases e3[j]? with
      | none => exact Iff.rfl
      | some sl => cases sl with
        | own w => cases w with
          | lst xs =>
            dsimp only
            cases ixN xs.length k <;> exact Iff.rfl
          | _ => exact Iff.rfl
        | _ => exact Iff.rfl
    | _ => rfl
  | _ => cases k <;> rfl
theorem ok_par {p : Bool} {is : List Nat} {as : M (List RV)} {Q : Out → Ev → Prop} : Ok (mPar p is as) e Q ↔ Ok as e fun rs e1 => rs.length = is.length ∧ ((noBor rs = true ∧ p = false → Q .nx (setsE is rs e1)) ∧ (¬ (noBor rs = true ∧ p = false) → Ok (M.dts rs) e1 fun vs e2 => Q .nx (setsE is (vs.map .dat) e2))) := by
  unfold mPar; rw [ok_bind]
  apply iff_of_eq; congr 1; funext rs e1
  apply propext
  by_cases h : rs.length = is.length
  · rw [if_pos h]
    by_cases hb : noBor rs = true ∧ p = false
    · rw [if_pos hb]
      exact ⟨fun z => ⟨h, fun _ => z, fun y => absurd hb y⟩, fun z => z.2.1 hb⟩
    · rw [if_neg hb]
      simp only [ok_bind]
      refine ⟨fun z => ⟨h, fun y => absurd y hb, fun _ => z⟩, fun z => z.2.2 hb⟩
  · rw [if_neg h]
    simp [h, ok_bad]
theorem ok_put {C f : Str} {mo mv : M RV} {Q : Out → Ev → Prop} : Ok (mPut C f mo mv) e Q ↔ Ok mv e fun r0 e1 => Ok (M.dt r0) e1 fun v e2 => Ok mo e2 fun r e3 => match r with
    | .bor i => (match e3[i]? with
      | some (.own (.obj C' fs vs)) => C' = C ∧ fs.length < 1000 ∧ Q .nx (e3.set i (.own (.obj C (putFs f fs) (putVs f v fs vs))))
      | _ => False)
    | _ => False := by
  unfold mPut; simp only [ok_bind]
  apply iff_of_eq; congr 1; funext r0 e1; congr 1; funext v e2; congr 1; funext r e3
  cases r with
  | bor i =>
    apply propext
    unfold Ok
    dsimp only
    cases e3[i]? with
    | none => exact Iff.rfl
    | some sl => cases sl with
      | own w => cases w with
        | obj C' fs vs =>
          dsimp only
          by_cases h : C' = C ∧ fs.length < 1000
          · simp [h]
          · rw [if_neg h]
            exact ⟨fun z => z.elim, fun z => h ⟨z.1, z.2.1⟩⟩
        | _ => exact Iff.rfl
      | _ => exact Iff.rfl
  | _ => rfl
theorem ok_get {C f : Str} {mo : M RV} {Q : RV → Ev → Prop} : Ok (mGet C f mo) e Q ↔ Ok mo e fun r e1 => Ok (M.rd r) e1 fun v e2 => match v with
    | .obj C' fs vs => C' = C ∧ (match lookV f fs vs with
      | some w => Q (.dat w) e2
      | none => False)
    | _ => False := by
  unfold mGet; simp only [ok_bind]
  apply iff_of_eq; congr 1; funext r e1; congr 1; funext v e2
  cases v with
  | obj C' fs vs =>
    apply propext
    dsimp only
    by_cases h : C' = C
    · simp only [h, if_true, true_and]
      cases lookV f fs vs <;> exact Iff.rfl
    · simp [h, ok_bad]
  | _ => rfl
/-! calls -/
theorem ok_run {ms : List Bool} {f : M RV} {rs : List RV} {Q : RV → Ev → Prop} : Ok (runF ms f rs) e Q ↔ match argsE ms rs e with
    | some (p, e1) => Ok f p fun r p' => match r with
      | .dat v => Q (.dat v) (backE ms rs p' e1)
      | .tmp v => Q (.tmp v) (backE ms rs p' e1)
      | .bor _ => False
    | none => False := by
  unfold Ok runF
  cases argsE ms rs e with
  | none => exact Iff.rfl
  | some pr =>
    obtain ⟨p, e1⟩ := pr
    dsimp only
    cases f p with
    | ok r p' => cases r <;> exact Iff.rfl
    | _ => exact Iff.rfl
theorem ok_call {ms : List Bool} {f : M RV} {as : M (List RV)} {Q : RV → Ev → Prop} : Ok (mCall ms f as []) e Q ↔ Ok as e fun rs e1 => Ok (runF ms f rs) e1 Q := by
  unfold mCall; simp only [ok_bind, List.map_nil, List.append_nil]
theorem ok_callK {ms : List Bool} {f : M RV} {as ks : M (List RV)} {n m : Nat} {g : List Nat} {Q : RV → Ev → Prop} : Ok (mCallK ms f as ks n m g) e Q ↔ Ok as e fun rs e1 => Ok ks e1 fun zs e2 => (rs.length = n ∧ zs.length = m) ∧ Ok (runF ms f (sel g (rs ++ zs))) e2 Q := by
  unfold mCallK; simp only [ok_bind]
  apply iff_of_eq; congr 1; funext rs e1; congr 1; funext zs e2
  apply propext
  by_cases h : rs.length = n ∧ zs.length = m <;> simp [h, ok_bad]
theorem ok_make {C : Str} {ms : List Bool} {f : M RV} {as : M (List RV)} {Q : RV → Ev → Prop} : Ok (mMake C ms f as []) e Q ↔ Ok as e fun rs e1 => match argsE (true :: ms) (.tmp (.obj C [] []) :: rs) e1 with
    | some (p, e2) => Ok f p fun r p' => match r with
      | .dat .non => (match p'[0]? with
        | some (Slot.own v) => Q (.tmp v) (backE (true :: ms) (.tmp (.obj C [] []) :: rs) p' e2)
        | _ => False)
      | _ => False
    | none => False := by
  unfold mMake; simp only [ok_bind, List.map_nil, List.append_nil]
  apply iff_of_eq; congr 1; funext rs e1
  apply propext
  unfold Ok runMk
  cases argsE (true :: ms) (.tmp (.obj C [] []) :: rs) e1 with
  | none => exact Iff.rfl
  | some pr =>
    obtain ⟨p, e2⟩ := pr
    dsimp only
    cases f p with
    | ok r p' => cases r with
      | dat v => cases v with
        | non =>
          dsimp only
          cases p'[0]? with
          | none => exact Iff.rfl
          | some sl => cases sl <;> exact Iff.rfl
        | _ => exact Iff.rfl
      | _ => exact Iff.rfl
    | _ => exact Iff.rfl
theorem ok_prop {C : Str} {f mo : M RV} {Q : RV → Ev → Prop} : Ok (mProp C f mo) e Q ↔ Ok mo e fun r e1 => Ok (M.rd r) e1 fun v e2 => match v with
    | .obj C' _ _ => C' = C ∧ Ok (runF [true] f [r]) e2 Q
    | _ => False := by
  unfold mProp; simp only [ok_bind]
  apply iff_of_eq; congr 1; funext r e1; congr 1; funext v e2
  cases v with
  | obj C' fs vs =>
    apply propext
    dsimp only
    by_cases h : C' = C
    · simp only [h, if_true, true_and]
      unfold Ok noRs
      cases runF [true] f [r] e2 <;> exact Iff.rfl
    · simp [h, ok_bad]
  | _ => rfl
theorem ok_den {n nn : Nat} {b : S} {Q : RV → Ev → Prop} (h : e.length = n) : Ok (fnDen n nn b) e Q ↔ Ok b (e ++ List.replicate (nn - n) Slot.un) fun o e' => match o with
    | .nx => Q (.dat .non) (outE (e'.take n))
    | .rt (.dat v) => Q (.dat v) (outE (e'.take n))
    | .rt (.tmp v) => Q (.tmp v) (outE (e'.take n))
    | .rt (.bor i) => (match e'[i]? with
      | some (.own v) => Q (.tmp v) (outE ((e'.set i .un).take n))
      | some (.dat v) => Q (.dat v) (outE (e'.take n))
      | _ => False)
    | _ => False := by
  unfold Ok fnDen
  rw [if_pos h]
  cases b (e ++ List.replicate (nn - n) Slot.un) with
  | ok o e' => cases o with
    | rt r => cases r with
      | bor i =>
        dsimp only [retV]
        cases e'[i]? with
        | none => exact Iff.rfl
        | some sl => cases sl <;> exact Iff.rfl
      | _ => exact Iff.rfl
    | _ => exact Iff.rfl
  | _ => exact Iff.rfl
/-! loops -/
theorem ok_for {mi : M (List Val)} {mt : Val → M Unit} {mb : S} {Q : Out → Ev → Prop} : Ok (mFor mi mt mb) e Q ↔ Ok mi e fun vs e1 => Ok (loopS mt mb vs) e1 Q := by
  unfold mFor; rw [ok_bind]
theorem ok_loop0 {mt : Val → M Unit} {mb : S} {Q : Out → Ev → Prop} : Ok (loopS mt mb []) e Q ↔ Q .nx e := Iff.rfl
theorem ok_loopC {mt : Val → M Unit} {mb : S} {v : Val} {vs : List Val} {Q : Out → Ev → Prop} : Ok (loopS mt mb (v :: vs)) e Q ↔ Ok (mt v) e fun _ e1 => Ok mb e1 fun o e2 => match o with
    | .nx => Ok (loopS mt mb vs) e2 Q
    | .ct => Ok (loopS mt mb vs) e2 Q
    | .bk => Q .nx e2
    | .rt r => Q (.rt r) e2 := by
  unfold Ok
  conv => lhs; unfold loopS
  cases mt v e with
  | ok u e1 =>
    dsimp only
    cases mb e1 with
    | ok o e2 => cases o <;> exact Iff.rfl
    | _ => exact Iff.rfl
  | _ => exact Iff.rfl
/-- by an invariant: P i behind the i first turns -/
theorem Ok.loop {mt : Val → M Unit} {mb : S} (P : Nat → Ev → Prop) : ∀ {vs : List Val} {e : Ev} {i : Nat}, P i e → (∀ (j : Nat) (v : Val) (e : Ev), vs[j]? = some v → P (i + j) e → Ok (mt v) e fun _ e1 => Ok mb e1 fun o e2 => (o = .nx ∨ o = .ct) ∧ P (i + j + 1) e2) →
    Ok (loopS mt mb vs) e fun o e' => o = .nx ∧ P (i + vs.length) e'
  | [], e, i, h, _ => by rw [ok_loop0]; exact ⟨rfl, h⟩
  | v :: vs, e, i, h, st => by
    rw [ok_loopC]
    refine Ok.mono (st 0 v e rfl h) fun _ e1 h1 => Ok.mono h1 fun o e2 h2 => ?_
    have go : Ok (loopS mt mb vs) e2 fun o e' => o = .nx ∧ P (i + (v :: vs).length) e' := by
      have := Ok.loop (i := i + 1) P (vs := vs) (e := e2) h2.2 fun j w e3 hj hp => by
        have := st (j + 1) w e3 (by simpa using hj) (by rw [show i + (j + 1) = i + 1 + j by omega]; exact hp)
        rw [show i + 1 + j + 1 = i + (j + 1) + 1 by omega]; exact this
      refine Ok.mono this fun o e' q => ⟨q.1, ?_⟩
      rw [List.length_cons, show i + (vs.length + 1) = i + 1 + vs.length by omega]; exact q.2
    rcases h2.1 with q | q <;> subst q <;> exact go
theorem ok_items {m : M RV} {Q : List Val → Ev → Prop} : Ok (mItems m) e Q ↔ Ok m e fun r e1 => Ok (M.dt r) e1 fun v e2 => match v with
    | .lst xs => Q xs e2
    | .tup xs => Q xs e2
    | _ => False := by
  unfold mItems; simp only [ok_bind]
  apply iff_of_eq; congr 1; funext r e1; congr 1; funext v e2
  cases v <;> rfl
theorem ok_rng1 {m : M RV} {Q : List Val → Ev → Prop} : Ok (mRng1 m) e Q ↔ Ok m e fun r e1 => Ok (M.rd r) e1 fun v e2 => match v with
    | .int j => (-4611686018427387904 ≤ j ∧ j < 4611686018427387904) ∧ Q (rangeV 0 j) e2
    | _ => False := by
  unfold mRng1; simp only [ok_bind]
  apply iff_of_eq; congr 1; funext r e1; congr 1; funext v e2
  cases v with
  | int j =>
    apply propext
    dsimp only
    by_cases h : -4611686018427387904 ≤ j ∧ j < 4611686018427387904 <;> simp [h, ok_bad, ok_ret]
  | _ => rfl
theorem ok_rng2 {a b : M RV} {Q : List Val → Ev → Prop} : Ok (mRng2 a b) e Q ↔ Ok a e fun r e1 => Ok b e1 fun s e2 => Ok (M.rd r) e2 fun v e3 => Ok (M.rd s) e3 fun w e4 => match v, w with
    | .int i, .int j => (-4611686018427387904 ≤ i ∧ i < 4611686018427387904 ∧ -4611686018427387904 ≤ j ∧ j < 4611686018427387904) ∧ Q (rangeV i j) e4
    | _, _ => False := by
  unfold mRng2; simp only [ok_bind]
  apply iff_of_eq; congr 1; funext r e1; congr 1; funext s e2; congr 1; funext v e3; congr 1; funext w e4
  cases v with
  | int i => cases w with
    | int j =>
      apply propext
      dsimp only
      by_cases h : -4611686018427387904 ≤ i ∧ i < 4611686018427387904 ∧ -4611686018427387904 ≤ j ∧ j < 4611686018427387904
      · rw [if_pos h]; exact ⟨fun z => ⟨h, z⟩, fun z => z.2⟩
      · rw [if_neg h]; exact ⟨fun z => z.elim, fun z => h z.1⟩
    | _ => rfl
  | _ => cases w <;> rfl
theorem ok_comp {ws : List Nat} {mi : M (List Val)} {mt : Val → M Unit} {mc : M Bool} {me : M RV} {Q : RV → Ev → Prop} : Ok (mComp ws mi mt mc me) e Q ↔ Ok mi e fun vs e1 => Ok (compS ws mt mc me vs []) (wipeE e1 ws) fun acc e2 => Q (.tmp (.lst acc)) e2 := by
  unfold mComp; rw [ok_bind]
  apply iff_of_eq; congr 1; funext vs e1
  apply propext
  unfold Ok
  dsimp only
  cases compS ws mt mc me vs [] (wipeE e1 ws) <;> exact Iff.rfl
theorem ok_compS0 {ws : List Nat} {mt : Val → M Unit} {mc : M Bool} {me : M RV} {acc : List Val} {Q : List Val → Ev → Prop} : Ok (compS ws mt mc me [] acc) e Q ↔ Q acc e := Iff.rfl
theorem ok_compSC {ws : List Nat} {mt : Val → M Unit} {mc : M Bool} {me : M RV} {v : Val} {vs acc : List Val} {Q : List Val → Ev → Prop} : Ok (compS ws mt mc me (v :: vs) acc) e Q ↔ Ok (mt v) e fun _ e1 => Ok mc e1 fun k e2 =>
    (k = true → Ok me e2 fun x e3 => Ok (M.dt x) e3 fun w e4 => acc.length < sizeLine ∧ Ok (compS ws mt mc me vs (acc ++ [w])) (wipeE e4 ws) Q) ∧ (¬ k = true → Ok (compS ws mt mc me vs acc) (wipeE e2 ws) Q) := by
  unfold Ok
  conv => lhs; unfold compS
  cases mt v e with
  | ok u e1 =>
    dsimp only
    cases mc e1 with
    | ok k e2 => cases k with
      | true =>
        dsimp only
        simp only [true_implies, not_true_eq_false, false_implies, and_true]
        cases me e2 with
        | ok x e3 =>
          dsimp only
          cases M.dt x e3 with
          | ok w e4 =>
            dsimp only
            by_cases h : acc.length < sizeLine <;> simp [h]
          | _ => exact Iff.rfl
        | _ => exact Iff.rfl
      | false => simp
    | _ => exact Iff.rfl
  | _ => exact Iff.rfl
/-- every item told -/
theorem Ok.compS {ws : List Nat} {mt : Val → M Unit} {me : M RV} (I : Ev → Prop) (P : Val → Val → Prop) : ∀ {vs acc : List Val} {e : Ev}, I e → acc.length + vs.length ≤ sizeLine →
    (∀ (v : Val) (e : Ev), v ∈ vs → I e → Ok (mt v) e fun _ e1 => Ok me e1 fun x e3 => Ok (M.dt x) e3 fun w e4 => P v w ∧ I (wipeE e4 ws)) →
    Ok (Pu.compS ws mt mYes me vs acc) e fun r e' => I e' ∧ ∃ rs, r = acc ++ rs ∧ rs.length = vs.length ∧ ∀ (j : Nat) (v w : Val), vs[j]? = some v → rs[j]? = some w → P v w
  | [], acc, e, h, _, _ => by
    rw [ok_compS0]
    exact ⟨h, [], by simp, rfl, fun j v w z => by simp at z⟩
  | v :: vs, acc, e, h, hl, st => by
    rw [ok_compSC]
    refine Ok.mono (st v e (List.mem_cons_self ..) h) fun _ e1 h1 => ?_
    show Ok (M.ret true) e1 _
    rw [ok_ret]
    refine ⟨fun _ => ?_, fun z => absurd rfl z⟩
    refine Ok.mono h1 fun x e3 h3 => Ok.mono h3 fun w e4 h4 => ?_
    rw [List.length_cons] at hl
    refine ⟨by omega, Ok.mono (Ok.compS I P (vs := vs) h4.2 (by simp; omega) fun v' e' m => st v' e' (List.mem_cons_of_mem _ m)) fun r e' q => ?_⟩
    obtain ⟨q1, rs, rfl, q3, q4⟩ := q
    refine ⟨q1, w :: rs, by simp, by simp [q3], fun j v' w' z1 z2 => ?_⟩
    cases j with
    | zero => simp at z1 z2; subst z1 z2; exact h4.1
    | succ j => exact q4 j v' w' (by simpa using z1) (by simpa using z2)
theorem ok_yes {Q : Bool → Ev → Prop} : Ok mYes e Q ↔ Q true e := Iff.rfl
theorem ok_sl {a : M RV} {lo hi : M (Option Int)} {Q : RV → Ev → Prop} : Ok (mSl a lo hi) e Q ↔ Ok a e fun r e1 => Ok lo e1 fun l e2 => Ok hi e2 fun u e3 => Ok (M.rd r) e3 fun v e4 => Ok (slV v l u) e4 Q := by
  unfold mSl; simp only [ok_bind]
theorem ok_noP {Q : Option Int → Ev → Prop} : Ok mNoP e Q ↔ Q none e := Iff.rfl
theorem ok_pt {a : M RV} {Q : Option Int → Ev → Prop} : Ok (mPt a) e Q ↔ Ok a e fun r e1 => Ok (M.rd r) e1 fun v e2 => match v with
    | .int i => Q (some i) e2
    | _ => False := by
  unfold mPt; simp only [ok_bind]
  apply iff_of_eq; congr 1; funext r e1; congr 1; funext v e2
  cases v <;> rfl
theorem ok_slL {xs : List Val} {l u : Option Int} {Q : RV → Ev → Prop} : Ok (slV (.lst xs) l u) e Q ↔ Q (.tmp (.lst (cutA xs l u))) e := Iff.rfl
theorem ok_slT {xs : List Val} {l u : Option Int} {Q : RV → Ev → Prop} : Ok (slV (.tup xs) l u) e Q ↔ Q (.dat (.tup (cutA xs l u))) e := Iff.rfl
theorem ok_rep {a b : M RV} {Q : RV → Ev → Prop} : Ok (mRep a b) e Q ↔ Ok a e fun r e1 => Ok b e1 fun s e2 => Ok (M.rd s) e2 fun k e3 => match r, k with
    | .tmp (.lst xs), .int n => (-9223372036854775808 ≤ n ∧ n < 9223372036854775808 ∧ xs.length * n.toNat ≤ sizeLine) ∧ Q (.tmp (.lst (List.replicate n.toNat xs).flatten)) e3
    | _, _ => False := by
  unfold mRep; simp only [ok_bind]
  apply iff_of_eq; congr 1; funext r e1; congr 1; funext s e2; congr 1; funext k e3
  cases r with
  | tmp v => cases v with
    | lst xs => cases k with
      | int n =>
        apply propext
        dsimp only
        by_cases h : -9223372036854775808 ≤ n ∧ n < 9223372036854775808 ∧ xs.length * n.toNat ≤ sizeLine
        · rw [if_pos h]; exact ⟨fun z => ⟨h, z⟩, fun z => z.2⟩
        · rw [if_neg h]; exact ⟨fun z => z.elim, fun z => h z.1⟩
      | _ => rfl
    | _ => cases k <;> rfl
  | _ => cases k <;> rfl
theorem ok_app {mo ma : M RV} {Q : RV → Ev → Prop} : Ok (mApp mo ma) e Q ↔ Ok mo e fun r e1 => Ok (M.rd r) e1 fun v0 e2 => match r, v0 with
    | .bor i, .lst _ => Ok ma e2 fun s e3 => Ok (M.dt s) e3 fun v e4 => (match e4[i]? with
      | some (.own (.lst xs)) => xs.length < sizeLine ∧ Q (.dat .non) (e4.set i (.own (.lst (xs ++ [v]))))
      | _ => False)
    | _, _ => False := by
  unfold mApp; simp only [ok_bind]
  apply iff_of_eq; congr 1; funext r e1; congr 1; funext v0 e2
  cases r with
  | bor i => cases v0 with
    | lst xs0 =>
      apply propext
      dsimp only
      simp only [ok_bind]
      apply iff_of_eq; congr 1; funext s e3; congr 1; funext v e4
      apply propext
      unfold Ok
      dsimp only
      cases e4[i]? with
      | none => exact Iff.rfl
      | some sl => cases sl with
        | own w => cases w with
          | lst xs =>
            dsimp only
            by_cases h : xs.length < sizeLine <;> simp [h]
          | _ => exact Iff.rfl
        | _ => exact Iff.rfl
    | _ => rfl
  | _ => cases v0 <;> rfl
end Pu.O
namespace Pu
open PySem PySem.Spec PyProof.Rows L2
/-- (so that simp leaves a wish alone until it is reached) -/
inductive Tag {α : Type} (Q : α → Ev → Prop) : Type where
  | tag
def Ok {α : Type} (m : M α) (e : Ev) (Q : α → Ev → Prop) (_u : Tag Q := .tag) : Prop := O.Ok m e Q
section
variable {α β : Type} {m : M α} {e : Ev} {Q Q' : α → Ev → Prop} {R : β → Ev → Prop}
theorem Ok.mono (h : Ok m e Q) (k : ∀ a e', Q a e' → Q' a e') : Ok m e Q' := O.Ok.mono h k
theorem ok_ex : Ok m e Q ↔ ∃ a e', m e = .ok a e' ∧ Q a e' := O.ok_ex
theorem ok_bind {f : α → M β} : Ok (m.bind f) e R ↔ Ok m e fun a e' => Ok (f a) e' R := O.ok_bind
theorem ok_ret {a : α} : Ok (M.ret a) e Q ↔ Q a e := O.ok_ret
theorem ok_bad : Ok M.bad e Q ↔ False := O.ok_bad
theorem ok_ite {c : Prop} [Decidable c] {a b : M α} : Ok (if c then a else b) e Q ↔ (c → Ok a e Q) ∧ (¬c → Ok b e Q) := O.ok_ite
end
variable {e : Ev}
theorem ok_mV {v : Val} {Q : RV → Ev → Prop} : Ok (mV v) e Q ↔ Q (.dat v) e := O.ok_mV
theorem ok_var {i : Nat} {Q : RV → Ev → Prop} : Ok (mVar i) e Q ↔ match e[i]? with
    | some (.dat v) => Q (.dat v) e
    | some (.own _) => Q (.bor i) e
    | _ => False := O.ok_var
theorem ok_rdD {v : Val} {Q : Val → Ev → Prop} : Ok (M.rd (.dat v)) e Q ↔ Q v e := O.ok_rdD
theorem ok_rdT {v : Val} {Q : Val → Ev → Prop} : Ok (M.rd (.tmp v)) e Q ↔ Q v e := O.ok_rdT
theorem ok_rdB {i : Nat} {Q : Val → Ev → Prop} : Ok (M.rd (.bor i)) e Q ↔ match e[i]? with
    | some (.own v) => Q v e
    | some (.dat v) => Q v e
    | _ => False := O.ok_rdB
theorem ok_dtD {v : Val} {Q : Val → Ev → Prop} : Ok (M.dt (.dat v)) e Q ↔ Q v e := O.ok_dtD
theorem ok_dtT {v : Val} {Q : Val → Ev → Prop} : Ok (M.dt (.tmp v)) e Q ↔ Q v e := O.ok_dtT
theorem ok_dtB {i : Nat} {Q : Val → Ev → Prop} : Ok (M.dt (.bor i)) e Q ↔ match e[i]? with
    | some (.own v) => Q v (e.set i (.dat v))
    | some (.dat v) => Q v e
    | _ => False := O.ok_dtB
theorem ok_rds0 {Q : List Val → Ev → Prop} : Ok (M.rds []) e Q ↔ Q [] e := O.ok_rds0
theorem ok_rdsC {r : RV} {rs : List RV} {Q : List Val → Ev → Prop} : Ok (M.rds (r :: rs)) e Q ↔ Ok (M.rd r) e fun v e1 => Ok (M.rds rs) e1 fun vs e2 => Q (v :: vs) e2 := O.ok_rdsC
theorem ok_dts0 {Q : List Val → Ev → Prop} : Ok (M.dts []) e Q ↔ Q [] e := O.ok_dts0
theorem ok_dtsC {r : RV} {rs : List RV} {Q : List Val → Ev → Prop} : Ok (M.dts (r :: rs)) e Q ↔ Ok (M.dt r) e fun v e1 => Ok (M.dts rs) e1 fun vs e2 => Q (v :: vs) e2 := O.ok_dtsC
theorem ok_nil {Q : List RV → Ev → Prop} : Ok mNil e Q ↔ Q [] e := O.ok_nil
theorem ok_cons {a : M RV} {r : M (List RV)} {Q : List RV → Ev → Prop} : Ok (mCons a r) e Q ↔ Ok a e fun x e1 => Ok r e1 fun xs e2 => Q (x :: xs) e2 := O.ok_cons
theorem ok_bin {f : Val → Val → M RV} {a b : M RV} {Q : RV → Ev → Prop} : Ok (mBin f a b) e Q ↔ Ok a e fun r e1 => Ok b e1 fun s e2 => Ok (M.rd r) e2 fun v e3 => Ok (M.rd s) e3 fun w e4 => Ok (f v w) e4 Q := O.ok_bin
theorem ok_cb {f : List Val → M RV} {ms : M (List RV)} {Q : RV → Ev → Prop} : Ok (mCB f ms) e Q ↔ Ok ms e fun rs e1 => Ok (M.rds rs) e1 fun vs e2 => Ok (f vs) e2 Q := O.ok_cb
theorem ok_tup {r : M (List RV)} {Q : RV → Ev → Prop} : Ok (mTup r) e Q ↔ Ok r e fun rs e1 => Ok (M.dts rs) e1 fun vs e2 => vs.length ≤ sizeLine ∧ Q (.dat (.tup vs)) e2 := O.ok_tup
theorem ok_lst {r : M (List RV)} {Q : RV → Ev → Prop} : Ok (mLst r) e Q ↔ Ok r e fun rs e1 => Ok (M.dts rs) e1 fun vs e2 => vs.length ≤ sizeLine ∧ Q (.tmp (.lst vs)) e2 := O.ok_lst
theorem ok_tru {m : M RV} {Q : Bool → Ev → Prop} : Ok (mTru m) e Q ↔ Ok m e fun r e1 => Ok (M.rd r) e1 fun v e2 => Ok (truV v) e2 Q := O.ok_tru
theorem ok_truB {b : Bool} {Q : Bool → Ev → Prop} : Ok (truV (.bl b)) e Q ↔ Q b e := O.ok_truB
theorem ok_truI {i : Int} {Q : Bool → Ev → Prop} : Ok (truV (.int i)) e Q ↔ Q (i != 0) e := O.ok_truI
theorem ok_truN {Q : Bool → Ev → Prop} : Ok (truV .non) e Q ↔ Q false e := O.ok_truN
theorem ok_truL {xs : List Val} {Q : Bool → Ev → Prop} : Ok (truV (.lst xs)) e Q ↔ Q (!xs.isEmpty) e := O.ok_truL
theorem ok_truT {xs : List Val} {Q : Bool → Ev → Prop} : Ok (truV (.tup xs)) e Q ↔ Q (!xs.isEmpty) e := O.ok_truT
theorem ok_and {a b : M Bool} {Q : Bool → Ev → Prop} : Ok (mAnd a b) e Q ↔ Ok a e fun c e1 => (c = true → Ok b e1 Q) ∧ (¬ c = true → Q false e1) := O.ok_and
theorem ok_or {a b : M Bool} {Q : Bool → Ev → Prop} : Ok (mOr a b) e Q ↔ Ok a e fun c e1 => (c = true → Q true e1) ∧ (¬ c = true → Ok b e1 Q) := O.ok_or
theorem ok_not {a : M Bool} {Q : Bool → Ev → Prop} : Ok (mNot a) e Q ↔ Ok a e fun c e1 => Q (!c) e1 := O.ok_not
theorem ok_ifE {c : M Bool} {a b : M RV} {Q : RV → Ev → Prop} : Ok (mIfE c a b) e Q ↔ Ok c e fun k e1 => (k = true → Ok a e1 Q) ∧ (¬ k = true → Ok b e1 Q) := O.ok_ifE
theorem ok_andV {a b : M RV} {Q : RV → Ev → Prop} : Ok (mAndV a b) e Q ↔ Ok a e fun r e1 => Ok (M.rd r) e1 fun v e2 => match v with
    | .bl c => (c = true → Ok b e2 Q) ∧ (¬ c = true → Q (.dat (.bl false)) e2)
    | _ => False := O.ok_andV
theorem ok_orV {a b : M RV} {Q : RV → Ev → Prop} : Ok (mOrV a b) e Q ↔ Ok a e fun r e1 => Ok (M.rd r) e1 fun v e2 => match v with
    | .bl c => (c = true → Q (.dat (.bl true)) e2) ∧ (¬ c = true → Ok b e2 Q)
    | _ => False := O.ok_orV
theorem ok_notV {a : M RV} {Q : RV → Ev → Prop} : Ok (mNotV a) e Q ↔ Ok a e fun r e1 => Ok (M.rd r) e1 fun v e2 => match v with
    | .bl c => Q (.dat (.bl (!c))) e2
    | _ => False := O.ok_notV
theorem ok_neg {a : M RV} {Q : RV → Ev → Prop} : Ok (mNeg a) e Q ↔ Ok a e fun r e1 => Ok (M.rd r) e1 fun v e2 => match v with
    | .int i => Q (.dat (.int (-i))) e2
    | _ => False := O.ok_neg
theorem ok_chain {f g : Val → Val → M RV} {a b c : M RV} {Q : RV → Ev → Prop} : Ok (mChain f g a b c) e Q ↔ Ok a e fun r e1 => Ok b e1 fun s e2 => Ok (M.rd r) e2 fun v e3 => Ok (M.rd s) e3 fun w e4 => Ok (f v w) e4 fun z e5 => Ok (M.rd z) e5 fun k e6 => match k with
    | .bl k => (k = true → Ok c e6 fun t e7 => Ok (M.rd s) e7 fun w' e8 => Ok (M.rd t) e8 fun x e9 => Ok (g w' x) e9 Q) ∧ (¬ k = true → Q (.dat (.bl false)) e6)
    | _ => False := O.ok_chain
theorem ok_seq {a b : S} {Q : Out → Ev → Prop} : Ok (mSeq a b) e Q ↔ Ok a e fun o e1 => match o with
    | .nx => Ok b e1 Q
    | .bk => Q .bk e1
    | .ct => Q .ct e1
    | .rt r => Q (.rt r) e1 := O.ok_seq
theorem ok_skip {Q : Out → Ev → Prop} : Ok mSkip e Q ↔ Q .nx e := O.ok_skip
theorem ok_retS {m : M RV} {Q : Out → Ev → Prop} : Ok (mRet m) e Q ↔ Ok m e fun r e1 => Q (.rt r) e1 := O.ok_retS
theorem ok_retN {Q : Out → Ev → Prop} : Ok mRetN e Q ↔ Q (.rt (.dat .non)) e := O.ok_retN
theorem ok_bk {Q : Out → Ev → Prop} : Ok mBk e Q ↔ Q .bk e := O.ok_bk
theorem ok_ct {Q : Out → Ev → Prop} : Ok mCt e Q ↔ Q .ct e := O.ok_ct
theorem ok_ex1 {m : M RV} {Q : Out → Ev → Prop} : Ok (mEx m) e Q ↔ Ok m e fun _ e1 => Q .nx e1 := O.ok_ex1
theorem ok_if {c : M Bool} {a b : S} {Q : Out → Ev → Prop} : Ok (mIf c a b) e Q ↔ Ok c e fun k e1 => (k = true → Ok a e1 Q) ∧ (¬ k = true → Ok b e1 Q) := O.ok_if
theorem ok_set {i : Nat} {m : M RV} {Q : Out → Ev → Prop} : Ok (mSet i m) e Q ↔ Ok m e fun r e1 => match r with
    | .dat v => Q .nx (e1.set i (.dat v))
    | .tmp v => Q .nx (e1.set i (.own v))
    | .bor j => Ok (M.dt (.bor j)) e1 fun v e2 => Q .nx (e2.set i (.dat v)) := O.ok_set
theorem ok_setP {i : Nat} {m : M RV} {Q : Out → Ev → Prop} : Ok (mSetP i m) e Q ↔ Ok m e fun r e1 => Ok (M.dt r) e1 fun v e2 => Q .nx (e2.set i (.dat v)) := O.ok_setP
theorem ok_asg {mg : Val → M Unit} {m : M RV} {Q : Out → Ev → Prop} : Ok (mAsg mg m) e Q ↔ Ok m e fun r e1 => Ok (M.dt r) e1 fun v e2 => Ok (mg v) e2 fun _ e3 => Q .nx e3 := O.ok_asg
theorem ok_gN {i : Nat} {v : Val} {Q : Unit → Ev → Prop} : Ok (gN i v) e Q ↔ Q () (e.set i (.dat v)) := O.ok_gN
theorem ok_gsN {Q : Unit → Ev → Prop} : Ok (gsN []) e Q ↔ Q () e := O.ok_gsN
theorem ok_gsC {m : Val → M Unit} {ms : List Val → M Unit} {v : Val} {vs : List Val} {Q : Unit → Ev → Prop} : Ok (gsC m ms (v :: vs)) e Q ↔ Ok (m v) e fun _ e1 => Ok (ms vs) e1 Q := O.ok_gsC
theorem ok_gT {n : Nat} {ms : List Val → M Unit} {xs : List Val} {Q : Unit → Ev → Prop} : Ok (gT n ms (.tup xs)) e Q ↔ xs.length = n ∧ Ok (ms xs) e Q := O.ok_gT
theorem ok_gSb {mo mi : M RV} {v : Val} {Q : Unit → Ev → Prop} : Ok (gSb mo mi v) e Q ↔ Ok mo e fun r e1 => Ok mi e1 fun s e2 => Ok (M.rd s) e2 fun k e3 => match r, k with
    | .bor j, .int k => (match e3[j]? with
      | some (.own (.lst xs)) => (match ixN xs.length k with
        | some n => Q () (e3.set j (.own (.lst (xs.set n v))))
        | none => False)
      | _ => False)
    | _, _ => False := O.ok_gSb
theorem ok_par {p : Bool} {is : List Nat} {as : M (List RV)} {Q : Out → Ev → Prop} : Ok (mPar p is as) e Q ↔ Ok as e fun rs e1 => rs.length = is.length ∧ ((noBor rs = true ∧ p = false → Q .nx (setsE is rs e1)) ∧ (¬ (noBor rs = true ∧ p = false) → Ok (M.dts rs) e1 fun vs e2 => Q .nx (setsE is (vs.map .dat) e2))) := O.ok_par
theorem ok_put {C f : Str} {mo mv : M RV} {Q : Out → Ev → Prop} : Ok (mPut C f mo mv) e Q ↔ Ok mv e fun r0 e1 => Ok (M.dt r0) e1 fun v e2 => Ok mo e2 fun r e3 => match r with
    | .bor i => (match e3[i]? with
      | some (.own (.obj C' fs vs)) => C' = C ∧ fs.length < 1000 ∧ Q .nx (e3.set i (.own (.obj C (putFs f fs) (putVs f v fs vs))))
      | _ => False)
    | _ => False := O.ok_put
theorem ok_get {C f : Str} {mo : M RV} {Q : RV → Ev → Prop} : Ok (mGet C f mo) e Q ↔ Ok mo e fun r e1 => Ok (M.rd r) e1 fun v e2 => match v with
    | .obj C' fs vs => C' = C ∧ (match lookV f fs vs with
      | some w => Q (.dat w) e2
      | none => False)
    | _ => False := O.ok_get
theorem ok_run {ms : List Bool} {f : M RV} {rs : List RV} {Q : RV → Ev → Prop} : Ok (runF ms f rs) e Q ↔ match argsE ms rs e with
    | some (p, e1) => Ok f p fun r p' => match r with
      | .dat v => Q (.dat v) (backE ms rs p' e1)
      | .tmp v => Q (.tmp v) (backE ms rs p' e1)
      | .bor _ => False
    | none => False := O.ok_run
theorem ok_call {ms : List Bool} {f : M RV} {as : M (List RV)} {Q : RV → Ev → Prop} : Ok (mCall ms f as []) e Q ↔ Ok as e fun rs e1 => Ok (runF ms f rs) e1 Q := O.ok_call
theorem ok_callK {ms : List Bool} {f : M RV} {as ks : M (List RV)} {n m : Nat} {g : List Nat} {Q : RV → Ev → Prop} : Ok (mCallK ms f as ks n m g) e Q ↔ Ok as e fun rs e1 => Ok ks e1 fun zs e2 => (rs.length = n ∧ zs.length = m) ∧ Ok (runF ms f (sel g (rs ++ zs))) e2 Q := O.ok_callK
theorem ok_make {C : Str} {ms : List Bool} {f : M RV} {as : M (List RV)} {Q : RV → Ev → Prop} : Ok (mMake C ms f as []) e Q ↔ Ok as e fun rs e1 => match argsE (true :: ms) (.tmp (.obj C [] []) :: rs) e1 with
    | some (p, e2) => Ok f p fun r p' => match r with
      | .dat .non => (match p'[0]? with
        | some (Slot.own v) => Q (.tmp v) (backE (true :: ms) (.tmp (.obj C [] []) :: rs) p' e2)
        | _ => False)
      | _ => False
    | none => False := O.ok_make
theorem ok_prop {C : Str} {f mo : M RV} {Q : RV → Ev → Prop} : Ok (mProp C f mo) e Q ↔ Ok mo e fun r e1 => Ok (M.rd r) e1 fun v e2 => match v with
    | .obj C' _ _ => C' = C ∧ Ok (runF [true] f [r]) e2 Q
    | _ => False := O.ok_prop
theorem ok_den {n nn : Nat} {b : S} {Q : RV → Ev → Prop} (h : e.length = n) : Ok (fnDen n nn b) e Q ↔ Ok b (e ++ List.replicate (nn - n) Slot.un) fun o e' => match o with
    | .nx => Q (.dat .non) (outE (e'.take n))
    | .rt (.dat v) => Q (.dat v) (outE (e'.take n))
    | .rt (.tmp v) => Q (.tmp v) (outE (e'.take n))
    | .rt (.bor i) => (match e'[i]? with
      | some (.own v) => Q (.tmp v) (outE ((e'.set i .un).take n))
      | some (.dat v) => Q (.dat v) (outE (e'.take n))
      | _ => False)
    | _ => False := O.ok_den h
theorem ok_for {mi : M (List Val)} {mt : Val → M Unit} {mb : S} {Q : Out → Ev → Prop} : Ok (mFor mi mt mb) e Q ↔ Ok mi e fun vs e1 => Ok (loopS mt mb vs) e1 Q := O.ok_for
theorem ok_loop0 {mt : Val → M Unit} {mb : S} {Q : Out → Ev → Prop} : Ok (loopS mt mb []) e Q ↔ Q .nx e := O.ok_loop0
theorem ok_loopC {mt : Val → M Unit} {mb : S} {v : Val} {vs : List Val} {Q : Out → Ev → Prop} : Ok (loopS mt mb (v :: vs)) e Q ↔ Ok (mt v) e fun _ e1 => Ok mb e1 fun o e2 => match o with
    | .nx => Ok (loopS mt mb vs) e2 Q
    | .ct => Ok (loopS mt mb vs) e2 Q
    | .bk => Q .nx e2
    | .rt r => Q (.rt r) e2 := O.ok_loopC
theorem Ok.loop {mt : Val → M Unit} {mb : S} (P : Nat → Ev → Prop) : ∀ {vs : List Val} {e : Ev} {i : Nat}, P i e → (∀ (j : Nat) (v : Val) (e : Ev), vs[j]? = some v → P (i + j) e → Ok (mt v) e fun _ e1 => Ok mb e1 fun o e2 => (o = .nx ∨ o = .ct) ∧ P (i + j + 1) e2) →
    Ok (loopS mt mb vs) e fun o e' => o = .nx ∧ P (i + vs.length) e' := O.Ok.loop P
theorem ok_items {m : M RV} {Q : List Val → Ev → Prop} : Ok (mItems m) e Q ↔ Ok m e fun r e1 => Ok (M.dt r) e1 fun v e2 => match v with
    | .lst xs => Q xs e2
    | .tup xs => Q xs e2
    | _ => False := O.ok_items
theorem ok_rng1 {m : M RV} {Q : List Val → Ev → Prop} : Ok (mRng1 m) e Q ↔ Ok m e fun r e1 => Ok (M.rd r) e1 fun v e2 => match v with
    | .int j => (-4611686018427387904 ≤ j ∧ j < 4611686018427387904) ∧ Q (rangeV 0 j) e2
    | _ => False := O.ok_rng1
theorem ok_rng2 {a b : M RV} {Q : List Val → Ev → Prop} : Ok (mRng2 a b) e Q ↔ Ok a e fun r e1 => Ok b e1 fun s e2 => Ok (M.rd r) e2 fun v e3 => Ok (M.rd s) e3 fun w e4 => match v, w with
    | .int i, .int j => (-4611686018427387904 ≤ i ∧ i < 4611686018427387904 ∧ -4611686018427387904 ≤ j ∧ j < 4611686018427387904) ∧ Q (rangeV i j) e4
    | _, _ => False := O.ok_rng2
theorem ok_comp {ws : List Nat} {mi : M (List Val)} {mt : Val → M Unit} {mc : M Bool} {me : M RV} {Q : RV → Ev → Prop} : Ok (mComp ws mi mt mc me) e Q ↔ Ok mi e fun vs e1 => Ok (compS ws mt mc me vs []) (wipeE e1 ws) fun acc e2 => Q (.tmp (.lst acc)) e2 := O.ok_comp
theorem ok_compS0 {ws : List Nat} {mt : Val → M Unit} {mc : M Bool} {me : M RV} {acc : List Val} {Q : List Val → Ev → Prop} : Ok (compS ws mt mc me [] acc) e Q ↔ Q acc e := O.ok_compS0
theorem ok_compSC {ws : List Nat} {mt : Val → M Unit} {mc : M Bool} {me : M RV} {v : Val} {vs acc : List Val} {Q : List Val → Ev → Prop} : Ok (compS ws mt mc me (v :: vs) acc) e Q ↔ Ok (mt v) e fun _ e1 => Ok mc e1 fun k e2 =>
    (k = true → Ok me e2 fun x e3 => Ok (M.dt x) e3 fun w e4 => acc.length < sizeLine ∧ Ok (compS ws mt mc me vs (acc ++ [w])) (wipeE e4 ws) Q) ∧ (¬ k = true → Ok (compS ws mt mc me vs acc) (wipeE e2 ws) Q) := O.ok_compSC
theorem Ok.compS {ws : List Nat} {mt : Val → M Unit} {me : M RV} (I : Ev → Prop) (P : Val → Val → Prop) : ∀ {vs acc : List Val} {e : Ev}, I e → acc.length + vs.length ≤ sizeLine →
    (∀ (v : Val) (e : Ev), v ∈ vs → I e → Ok (mt v) e fun _ e1 => Ok me e1 fun x e3 => Ok (M.dt x) e3 fun w e4 => P v w ∧ I (wipeE e4 ws)) →
    Ok (Pu.compS ws mt mYes me vs acc) e fun r e' => I e' ∧ ∃ rs, r = acc ++ rs ∧ rs.length = vs.length ∧ ∀ (j : Nat) (v w : Val), vs[j]? = some v → rs[j]? = some w → P v w := O.Ok.compS I P
theorem ok_yes {Q : Bool → Ev → Prop} : Ok mYes e Q ↔ Q true e := O.ok_yes
theorem ok_sl {a : M RV} {lo hi : M (Option Int)} {Q : RV → Ev → Prop} : Ok (mSl a lo hi) e Q ↔ Ok a e fun r e1 => Ok lo e1 fun l e2 => Ok hi e2 fun u e3 => Ok (M.rd r) e3 fun v e4 => Ok (slV v l u) e4 Q := O.ok_sl
theorem ok_noP {Q : Option Int → Ev → Prop} : Ok mNoP e Q ↔ Q none e := O.ok_noP
theorem ok_pt {a : M RV} {Q : Option Int → Ev → Prop} : Ok (mPt a) e Q ↔ Ok a e fun r e1 => Ok (M.rd r) e1 fun v e2 => match v with
    | .int i => Q (some i) e2
    | _ => False := O.ok_pt
theorem ok_slL {xs : List Val} {l u : Option Int} {Q : RV → Ev → Prop} : Ok (slV (.lst xs) l u) e Q ↔ Q (.tmp (.lst (cutA xs l u))) e := O.ok_slL
theorem ok_slT {xs : List Val} {l u : Option Int} {Q : RV → Ev → Prop} : Ok (slV (.tup xs) l u) e Q ↔ Q (.dat (.tup (cutA xs l u))) e := O.ok_slT
theorem ok_rep {a b : M RV} {Q : RV → Ev → Prop} : Ok (mRep a b) e Q ↔ Ok a e fun r e1 => Ok b e1 fun s e2 => Ok (M.rd s) e2 fun k e3 => match r, k with
    | .tmp (.lst xs), .int n => (-9223372036854775808 ≤ n ∧ n < 9223372036854775808 ∧ xs.length * n.toNat ≤ sizeLine) ∧ Q (.tmp (.lst (List.replicate n.toNat xs).flatten)) e3
    | _, _ => False := O.ok_rep
theorem ok_app {mo ma : M RV} {Q : RV → Ev → Prop} : Ok (mApp mo ma) e Q ↔ Ok mo e fun r e1 => Ok (M.rd r) e1 fun v0 e2 => match r, v0 with
    | .bor i, .lst _ => Ok ma e2 fun s e3 => Ok (M.dt s) e3 fun v e4 => (match e4[i]? with
      | some (.own (.lst xs)) => xs.length < sizeLine ∧ Q (.dat .non) (e4.set i (.own (.lst (xs ++ [v]))))
      | _ => False)
    | _, _ => False := O.ok_app
end Pu
set_option Elab.async false
set_option linter.all false
set_option maxRecDepth 100000
/-! Pu, part V: operators as wishes. -/
namespace Pu
open PySem PySem.Spec PyProof.Rows L2
variable {e : Ev} {Q : RV → Ev → Prop}
theorem ok_ic {c : Int → Int → Prop} [∀ i j, Decidable (c i j)] {g : Int → Int → Val} {i j : Int} : Ok (oIC c g (.int i) (.int j)) e Q ↔ c i j ∧ Q (.dat (g i j)) e := by
  unfold oIC
  dsimp only
  by_cases h : c i j
  · rw [if_pos h]; exact ⟨fun z => ⟨h, z⟩, fun z => z.2⟩
  · rw [if_neg h]; exact ⟨fun z => z.elim, fun z => h z.1⟩
theorem ok_oSub {i j : Int} : Ok (oSub (.int i) (.int j)) e Q ↔ Q (.dat (.int (i - j))) e := Iff.rfl
theorem ok_oMul {i j : Int} : Ok (oMul (.int i) (.int j)) e Q ↔ cMul i j ∧ Q (.dat (.int (i * j))) e := ok_ic
theorem ok_oDiv {i j : Int} : Ok (oDiv (.int i) (.int j)) e Q ↔ cDiv i j ∧ Q (.dat (.int (i / j))) e := ok_ic
theorem ok_oMod {i j : Int} : Ok (oMod (.int i) (.int j)) e Q ↔ cMod i j ∧ Q (.dat (.int (i % j))) e := ok_ic
theorem ok_oPow {i j : Int} : Ok (oPow (.int i) (.int j)) e Q ↔ cPow i j ∧ Q (.dat (.int (i ^ j.toNat))) e := ok_ic
theorem ok_oLt {i j : Int} : Ok (oLt (.int i) (.int j)) e Q ↔ Q (.dat (.bl (decide (i < j)))) e := Iff.rfl
theorem ok_oLe {i j : Int} : Ok (oLe (.int i) (.int j)) e Q ↔ Q (.dat (.bl (decide (i ≤ j)))) e := Iff.rfl
theorem ok_oGt {i j : Int} : Ok (oGt (.int i) (.int j)) e Q ↔ Q (.dat (.bl (decide (j < i)))) e := Iff.rfl
theorem ok_oGe {i j : Int} : Ok (oGe (.int i) (.int j)) e Q ↔ Q (.dat (.bl (decide (j ≤ i)))) e := Iff.rfl
theorem ok_oAdd {i j : Int} : Ok (oAdd (.int i) (.int j)) e Q ↔ Q (.dat (.int (i + j))) e := Iff.rfl
theorem ok_oAddL {a b : List Val} : Ok (oAdd (.lst a) (.lst b)) e Q ↔ a.length + b.length ≤ sizeLine ∧ Q (.tmp (.lst (a ++ b))) e := by
  show Ok (if _ then _ else _) e Q ↔ _
  by_cases h : a.length + b.length ≤ sizeLine
  · rw [if_pos h]; exact ⟨fun z => ⟨h, z⟩, fun z => z.2⟩
  · rw [if_neg h]; exact ⟨fun z => z.elim, fun z => h z.1⟩
theorem ok_oAddI {i j : Int} : Ok (oAddI (.int i) (.int j)) e Q ↔ Q (.dat (.int (i + j))) e := Iff.rfl
theorem ok_oEqI {i j : Int} : Ok (oEq (.int i) (.int j)) e Q ↔ (dOk (.int i) = true ∧ dOk (.int j) = true) ∧ Q (.dat (.bl (veq (.int i) (.int j)))) e := by
  show Ok (if (dOk (.int i) && dOk (.int j)) = true then mV (.bl (veq (.int i) (.int j))) else M.bad) e Q ↔ _
  by_cases h : (dOk (.int i) && dOk (.int j)) = true
  · rw [if_pos h]; rw [Bool.and_eq_true] at h; exact ⟨fun z => ⟨h, z⟩, fun z => z.2⟩
  · rw [if_neg h]; rw [Bool.and_eq_true] at h; exact ⟨fun z => z.elim, fun z => h z.1⟩
theorem ok_oEqL {xs ys : List Val} : Ok (oEq (.lst xs) (.lst ys)) e Q ↔ (dOk (.lst xs) = true ∧ dOk (.lst ys) = true) ∧ Q (.dat (.bl (veq (.lst xs) (.lst ys)))) e := by
  show Ok (if (dOk (.lst xs) && dOk (.lst ys)) = true then mV (.bl (veq (.lst xs) (.lst ys))) else M.bad) e Q ↔ _
  by_cases h : (dOk (.lst xs) && dOk (.lst ys)) = true
  · rw [if_pos h]; rw [Bool.and_eq_true] at h; exact ⟨fun z => ⟨h, z⟩, fun z => z.2⟩
  · rw [if_neg h]; rw [Bool.and_eq_true] at h; exact ⟨fun z => z.elim, fun z => h z.1⟩
theorem ok_oEqT {xs ys : List Val} : Ok (oEq (.tup xs) (.tup ys)) e Q ↔ (dOk (.tup xs) = true ∧ dOk (.tup ys) = true) ∧ Q (.dat (.bl (veq (.tup xs) (.tup ys)))) e := by
  show Ok (if (dOk (.tup xs) && dOk (.tup ys)) = true then mV (.bl (veq (.tup xs) (.tup ys))) else M.bad) e Q ↔ _
  by_cases h : (dOk (.tup xs) && dOk (.tup ys)) = true
  · rw [if_pos h]; rw [Bool.and_eq_true] at h; exact ⟨fun z => ⟨h, z⟩, fun z => z.2⟩
  · rw [if_neg h]; rw [Bool.and_eq_true] at h; exact ⟨fun z => z.elim, fun z => h z.1⟩
theorem ok_oEqB {i j : Bool} : Ok (oEq (.bl i) (.bl j)) e Q ↔ (dOk (.bl i) = true ∧ dOk (.bl j) = true) ∧ Q (.dat (.bl (veq (.bl i) (.bl j)))) e := by
  show Ok (if (dOk (.bl i) && dOk (.bl j)) = true then mV (.bl (veq (.bl i) (.bl j))) else M.bad) e Q ↔ _
  by_cases h : (dOk (.bl i) && dOk (.bl j)) = true
  · rw [if_pos h]; rw [Bool.and_eq_true] at h; exact ⟨fun z => ⟨h, z⟩, fun z => z.2⟩
  · rw [if_neg h]; rw [Bool.and_eq_true] at h; exact ⟨fun z => z.elim, fun z => h z.1⟩
theorem ok_oEqN {i : Int} : Ok (oEq (.int i) (.non)) e Q ↔ (dOk (.int i) = true ∧ dOk (.non) = true) ∧ Q (.dat (.bl (veq (.int i) (.non)))) e := by
  show Ok (if (dOk (.int i) && dOk (.non)) = true then mV (.bl (veq (.int i) (.non))) else M.bad) e Q ↔ _
  by_cases h : (dOk (.int i) && dOk (.non)) = true
  · rw [if_pos h]; rw [Bool.and_eq_true] at h; exact ⟨fun z => ⟨h, z⟩, fun z => z.2⟩
  · rw [if_neg h]; rw [Bool.and_eq_true] at h; exact ⟨fun z => z.elim, fun z => h z.1⟩
theorem ok_oEqS {a b : Str} : Ok (oEq (.str a) (.str b)) e Q ↔ Q (.dat (.bl (decide (a = b)))) e := Iff.rfl
theorem ok_oNeI {i j : Int} : Ok (oNe (.int i) (.int j)) e Q ↔ (dOk (.int i) = true ∧ dOk (.int j) = true) ∧ Q (.dat (.bl (!veq (.int i) (.int j)))) e := by
  show Ok (if (dOk (.int i) && dOk (.int j)) = true then mV (.bl (!veq (.int i) (.int j))) else M.bad) e Q ↔ _
  by_cases h : (dOk (.int i) && dOk (.int j)) = true
  · rw [if_pos h]; rw [Bool.and_eq_true] at h; exact ⟨fun z => ⟨h, z⟩, fun z => z.2⟩
  · rw [if_neg h]; rw [Bool.and_eq_true] at h; exact ⟨fun z => z.elim, fun z => h z.1⟩
theorem ok_oNeL {xs ys : List Val} : Ok (oNe (.lst xs) (.lst ys)) e Q ↔ (dOk (.lst xs) = true ∧ dOk (.lst ys) = true) ∧ Q (.dat (.bl (!veq (.lst xs) (.lst ys)))) e := by
  show Ok (if (dOk (.lst xs) && dOk (.lst ys)) = true then mV (.bl (!veq (.lst xs) (.lst ys))) else M.bad) e Q ↔ _
  by_cases h : (dOk (.lst xs) && dOk (.lst ys)) = true
  · rw [if_pos h]; rw [Bool.and_eq_true] at h; exact ⟨fun z => ⟨h, z⟩, fun z => z.2⟩
  · rw [if_neg h]; rw [Bool.and_eq_true] at h; exact ⟨fun z => z.elim, fun z => h z.1⟩
theorem ok_oNeT {xs ys : List Val} : Ok (oNe (.tup xs) (.tup ys)) e Q ↔ (dOk (.tup xs) = true ∧ dOk (.tup ys) = true) ∧ Q (.dat (.bl (!veq (.tup xs) (.tup ys)))) e := by
  show Ok (if (dOk (.tup xs) && dOk (.tup ys)) = true then mV (.bl (!veq (.tup xs) (.tup ys))) else M.bad) e Q ↔ _
  by_cases h : (dOk (.tup xs) && dOk (.tup ys)) = true
  · rw [if_pos h]; rw [Bool.and_eq_true] at h; exact ⟨fun z => ⟨h, z⟩, fun z => z.2⟩
  · rw [if_neg h]; rw [Bool.and_eq_true] at h; exact ⟨fun z => z.elim, fun z => h z.1⟩
theorem ok_oNeB {i j : Bool} : Ok (oNe (.bl i) (.bl j)) e Q ↔ (dOk (.bl i) = true ∧ dOk (.bl j) = true) ∧ Q (.dat (.bl (!veq (.bl i) (.bl j)))) e := by
  show Ok (if (dOk (.bl i) && dOk (.bl j)) = true then mV (.bl (!veq (.bl i) (.bl j))) else M.bad) e Q ↔ _
  by_cases h : (dOk (.bl i) && dOk (.bl j)) = true
  · rw [if_pos h]; rw [Bool.and_eq_true] at h; exact ⟨fun z => ⟨h, z⟩, fun z => z.2⟩
  · rw [if_neg h]; rw [Bool.and_eq_true] at h; exact ⟨fun z => z.elim, fun z => h z.1⟩
theorem ok_oNeN {i : Int} : Ok (oNe (.int i) (.non)) e Q ↔ (dOk (.int i) = true ∧ dOk (.non) = true) ∧ Q (.dat (.bl (!veq (.int i) (.non)))) e := by
  show Ok (if (dOk (.int i) && dOk (.non)) = true then mV (.bl (!veq (.int i) (.non))) else M.bad) e Q ↔ _
  by_cases h : (dOk (.int i) && dOk (.non)) = true
  · rw [if_pos h]; rw [Bool.and_eq_true] at h; exact ⟨fun z => ⟨h, z⟩, fun z => z.2⟩
  · rw [if_neg h]; rw [Bool.and_eq_true] at h; exact ⟨fun z => z.elim, fun z => h z.1⟩
theorem ok_oNeS {a b : Str} : Ok (oNe (.str a) (.str b)) e Q ↔ Q (.dat (.bl (!decide (a = b)))) e := Iff.rfl
theorem ok_oIs {x : Val} : Ok (oIs x .non) e Q ↔ Q (.dat (.bl (isNon x))) e := Iff.rfl
theorem ok_oIsN {x : Val} : Ok (oIsN x .non) e Q ↔ Q (.dat (.bl (!isNon x))) e := Iff.rfl
theorem ok_ixL {xs : List Val} {i : Int} : Ok (oIx (.lst xs) (.int i)) e Q ↔ ∃ v, atI xs i = some v ∧ Q (.dat v) e := by
  show Ok (match atI xs i with
    | some v => mV v
    | none => M.bad) e Q ↔ _
  cases atI xs i with
  | none => simp [ok_bad]
  | some v => simp [ok_mV]
theorem ok_ixT {xs : List Val} {i : Int} : Ok (oIx (.tup xs) (.int i)) e Q ↔ ∃ v, atI xs i = some v ∧ Q (.dat v) e := by
  show Ok (match atI xs i with
    | some v => mV v
    | none => M.bad) e Q ↔ _
  cases atI xs i with
  | none => simp [ok_bad]
  | some v => simp [ok_mV]
theorem atI_lit {α : Type} {xs : List α} (k : Nat) {a : α} (h : xs[k]? = some a) : atI xs (k : Int) = some a := by
  have hl : k < xs.length := (List.getElem?_eq_some_iff.mp h).1
  unfold atI ixN
  rw [if_pos (by omega), if_pos (by omega)]
  simpa using h
theorem ixn_lit {n : Nat} (k : Nat) (h : k < n) : ixN n (k : Int) = some k := by
  unfold ixN
  rw [if_pos (by omega), if_pos (by omega)]
  simp
section
variable {a b c d f : Val} {l : List Val}
theorem ix_0 : Ok (oIx (.lst (a :: l)) (.int 0)) e Q ↔ Q (.dat a) e := by rw [ok_ixL, show atI (a :: l) 0 = some a from atI_lit 0 rfl]; simp
theorem ix_1 : Ok (oIx (.lst (a :: b :: l)) (.int 1)) e Q ↔ Q (.dat b) e := by rw [ok_ixL, show atI (a :: b :: l) 1 = some b from atI_lit 1 rfl]; simp
theorem ix_2 : Ok (oIx (.lst (a :: b :: c :: l)) (.int 2)) e Q ↔ Q (.dat c) e := by rw [ok_ixL, show atI (a :: b :: c :: l) 2 = some c from atI_lit 2 rfl]; simp
theorem ix_3 : Ok (oIx (.lst (a :: b :: c :: d :: l)) (.int 3)) e Q ↔ Q (.dat d) e := by rw [ok_ixL, show atI (a :: b :: c :: d :: l) 3 = some d from atI_lit 3 rfl]; simp
theorem ix_4 : Ok (oIx (.lst (a :: b :: c :: d :: f :: l)) (.int 4)) e Q ↔ Q (.dat f) e := by rw [ok_ixL, show atI (a :: b :: c :: d :: f :: l) 4 = some f from atI_lit 4 rfl]; simp
theorem it_0 : Ok (oIx (.tup (a :: l)) (.int 0)) e Q ↔ Q (.dat a) e := by rw [ok_ixT, show atI (a :: l) 0 = some a from atI_lit 0 rfl]; simp
theorem it_1 : Ok (oIx (.tup (a :: b :: l)) (.int 1)) e Q ↔ Q (.dat b) e := by rw [ok_ixT, show atI (a :: b :: l) 1 = some b from atI_lit 1 rfl]; simp
theorem it_2 : Ok (oIx (.tup (a :: b :: c :: l)) (.int 2)) e Q ↔ Q (.dat c) e := by rw [ok_ixT, show atI (a :: b :: c :: l) 2 = some c from atI_lit 2 rfl]; simp
theorem it_3 : Ok (oIx (.tup (a :: b :: c :: d :: l)) (.int 3)) e Q ↔ Q (.dat d) e := by rw [ok_ixT, show atI (a :: b :: c :: d :: l) 3 = some d from atI_lit 3 rfl]; simp
end
theorem ixn_0 {n : Nat} : ixN (n + 1) 0 = some 0 := ixn_lit 0 (by omega)
theorem ixn_1 {n : Nat} : ixN (n + 1 + 1) 1 = some 1 := ixn_lit 1 (by omega)
theorem ixn_2 {n : Nat} : ixN (n + 1 + 1 + 1) 2 = some 2 := ixn_lit 2 (by omega)
/-- some item, by any index that fits -/
theorem atI_mem {xs : List Val} {i : Int} (h0 : 0 ≤ i) (h1 : i < xs.length) : ∃ v ∈ xs, atI xs i = some v := by
  have hl : i.toNat < xs.length := by omega
  refine ⟨xs[i.toNat], List.getElem_mem hl, ?_⟩
  unfold atI ixN
  rw [if_pos h0, if_pos h1]
  simp [List.getElem?_eq_getElem hl]
theorem ok_d1 {nn : Nat} {b : S} {s0 : Slot} : Ok (fnDen 1 nn b) [s0] Q ↔ Ok b ([s0] ++ List.replicate (nn - 1) Slot.un) fun o e' => match o with
    | .nx => Q (.dat .non) (outE (e'.take 1))
    | .rt (.dat v) => Q (.dat v) (outE (e'.take 1))
    | .rt (.tmp v) => Q (.tmp v) (outE (e'.take 1))
    | .rt (.bor i) => (match e'[i]? with
      | some (.own v) => Q (.tmp v) (outE ((e'.set i .un).take 1))
      | some (.dat v) => Q (.dat v) (outE (e'.take 1))
      | _ => False)
    | _ => False := ok_den rfl
theorem ok_d2 {nn : Nat} {b : S} {s0 s1 : Slot} : Ok (fnDen 2 nn b) [s0, s1] Q ↔ Ok b ([s0, s1] ++ List.replicate (nn - 2) Slot.un) fun o e' => match o with
    | .nx => Q (.dat .non) (outE (e'.take 2))
    | .rt (.dat v) => Q (.dat v) (outE (e'.take 2))
    | .rt (.tmp v) => Q (.tmp v) (outE (e'.take 2))
    | .rt (.bor i) => (match e'[i]? with
      | some (.own v) => Q (.tmp v) (outE ((e'.set i .un).take 2))
      | some (.dat v) => Q (.dat v) (outE (e'.take 2))
      | _ => False)
    | _ => False := ok_den rfl
theorem ok_d3 {nn : Nat} {b : S} {s0 s1 s2 : Slot} : Ok (fnDen 3 nn b) [s0, s1, s2] Q ↔ Ok b ([s0, s1, s2] ++ List.replicate (nn - 3) Slot.un) fun o e' => match o with
    | .nx => Q (.dat .non) (outE (e'.take 3))
    | .rt (.dat v) => Q (.dat v) (outE (e'.take 3))
    | .rt (.tmp v) => Q (.tmp v) (outE (e'.take 3))
    | .rt (.bor i) => (match e'[i]? with
      | some (.own v) => Q (.tmp v) (outE ((e'.set i .un).take 3))
      | some (.dat v) => Q (.dat v) (outE (e'.take 3))
      | _ => False)
    | _ => False := ok_den rfl
theorem ok_d4 {nn : Nat} {b : S} {s0 s1 s2 s3 : Slot} : Ok (fnDen 4 nn b) [s0, s1, s2, s3] Q ↔ Ok b ([s0, s1, s2, s3] ++ List.replicate (nn - 4) Slot.un) fun o e' => match o with
    | .nx => Q (.dat .non) (outE (e'.take 4))
    | .rt (.dat v) => Q (.dat v) (outE (e'.take 4))
    | .rt (.tmp v) => Q (.tmp v) (outE (e'.take 4))
    | .rt (.bor i) => (match e'[i]? with
      | some (.own v) => Q (.tmp v) (outE ((e'.set i .un).take 4))
      | some (.dat v) => Q (.dat v) (outE (e'.take 4))
      | _ => False)
    | _ => False := ok_den rfl
theorem ok_d5 {nn : Nat} {b : S} {s0 s1 s2 s3 s4 : Slot} : Ok (fnDen 5 nn b) [s0, s1, s2, s3, s4] Q ↔ Ok b ([s0, s1, s2, s3, s4] ++ List.replicate (nn - 5) Slot.un) fun o e' => match o with
    | .nx => Q (.dat .non) (outE (e'.take 5))
    | .rt (.dat v) => Q (.dat v) (outE (e'.take 5))
    | .rt (.tmp v) => Q (.tmp v) (outE (e'.take 5))
    | .rt (.bor i) => (match e'[i]? with
      | some (.own v) => Q (.tmp v) (outE ((e'.set i .un).take 5))
      | some (.dat v) => Q (.dat v) (outE (e'.take 5))
      | _ => False)
    | _ => False := ok_den rfl
theorem ok_d6 {nn : Nat} {b : S} {s0 s1 s2 s3 s4 s5 : Slot} : Ok (fnDen 6 nn b) [s0, s1, s2, s3, s4, s5] Q ↔ Ok b ([s0, s1, s2, s3, s4, s5] ++ List.replicate (nn - 6) Slot.un) fun o e' => match o with
    | .nx => Q (.dat .non) (outE (e'.take 6))
    | .rt (.dat v) => Q (.dat v) (outE (e'.take 6))
    | .rt (.tmp v) => Q (.tmp v) (outE (e'.take 6))
    | .rt (.bor i) => (match e'[i]? with
      | some (.own v) => Q (.tmp v) (outE ((e'.set i .un).take 6))
      | some (.dat v) => Q (.dat v) (outE (e'.take 6))
      | _ => False)
    | _ => False := ok_den rfl
theorem ok_d7 {nn : Nat} {b : S} {s0 s1 s2 s3 s4 s5 s6 : Slot} : Ok (fnDen 7 nn b) [s0, s1, s2, s3, s4, s5, s6] Q ↔ Ok b ([s0, s1, s2, s3, s4, s5, s6] ++ List.replicate (nn - 7) Slot.un) fun o e' => match o with
    | .nx => Q (.dat .non) (outE (e'.take 7))
    | .rt (.dat v) => Q (.dat v) (outE (e'.take 7))
    | .rt (.tmp v) => Q (.tmp v) (outE (e'.take 7))
    | .rt (.bor i) => (match e'[i]? with
      | some (.own v) => Q (.tmp v) (outE ((e'.set i .un).take 7))
      | some (.dat v) => Q (.dat v) (outE (e'.take 7))
      | _ => False)
    | _ => False := ok_den rfl
section
variable {l : List Slot} {v : Val} {P : Val → Ev → Prop}
theorem vD_0 : Ok (mVar 0) (.dat v :: l) Q ↔ Q (.dat v) (.dat v :: l) := Iff.rfl
theorem vO_0 : Ok (mVar 0) (.own v :: l) Q ↔ Q (.bor 0) (.own v :: l) := Iff.rfl
theorem rD_0 : Ok (M.rd (.bor 0)) (.dat v :: l) P ↔ P v (.dat v :: l) := Iff.rfl
theorem rO_0 : Ok (M.rd (.bor 0)) (.own v :: l) P ↔ P v (.own v :: l) := Iff.rfl
theorem kD_0 : Ok (M.dt (.bor 0)) (.dat v :: l) P ↔ P v (.dat v :: l) := Iff.rfl
theorem kO_0 : Ok (M.dt (.bor 0)) (.own v :: l) P ↔ P v (.dat v :: l) := Iff.rfl
theorem vD_1 {s0 : Slot} : Ok (mVar 1) (s0 :: .dat v :: l) Q ↔ Q (.dat v) (s0 :: .dat v :: l) := Iff.rfl
theorem vO_1 {s0 : Slot} : Ok (mVar 1) (s0 :: .own v :: l) Q ↔ Q (.bor 1) (s0 :: .own v :: l) := Iff.rfl
theorem rD_1 {s0 : Slot} : Ok (M.rd (.bor 1)) (s0 :: .dat v :: l) P ↔ P v (s0 :: .dat v :: l) := Iff.rfl
theorem rO_1 {s0 : Slot} : Ok (M.rd (.bor 1)) (s0 :: .own v :: l) P ↔ P v (s0 :: .own v :: l) := Iff.rfl
theorem kD_1 {s0 : Slot} : Ok (M.dt (.bor 1)) (s0 :: .dat v :: l) P ↔ P v (s0 :: .dat v :: l) := Iff.rfl
theorem kO_1 {s0 : Slot} : Ok (M.dt (.bor 1)) (s0 :: .own v :: l) P ↔ P v (s0 :: .dat v :: l) := Iff.rfl
theorem vD_2 {s0 s1 : Slot} : Ok (mVar 2) (s0 :: s1 :: .dat v :: l) Q ↔ Q (.dat v) (s0 :: s1 :: .dat v :: l) := Iff.rfl
theorem vO_2 {s0 s1 : Slot} : Ok (mVar 2) (s0 :: s1 :: .own v :: l) Q ↔ Q (.bor 2) (s0 :: s1 :: .own v :: l) := Iff.rfl
theorem rD_2 {s0 s1 : Slot} : Ok (M.rd (.bor 2)) (s0 :: s1 :: .dat v :: l) P ↔ P v (s0 :: s1 :: .dat v :: l) := Iff.rfl
theorem rO_2 {s0 s1 : Slot} : Ok (M.rd (.bor 2)) (s0 :: s1 :: .own v :: l) P ↔ P v (s0 :: s1 :: .own v :: l) := Iff.rfl
theorem kD_2 {s0 s1 : Slot} : Ok (M.dt (.bor 2)) (s0 :: s1 :: .dat v :: l) P ↔ P v (s0 :: s1 :: .dat v :: l) := Iff.rfl
theorem kO_2 {s0 s1 : Slot} : Ok (M.dt (.bor 2)) (s0 :: s1 :: .own v :: l) P ↔ P v (s0 :: s1 :: .dat v :: l) := Iff.rfl
theorem vD_3 {s0 s1 s2 : Slot} : Ok (mVar 3) (s0 :: s1 :: s2 :: .dat v :: l) Q ↔ Q (.dat v) (s0 :: s1 :: s2 :: .dat v :: l) := Iff.rfl
theorem vO_3 {s0 s1 s2 : Slot} : Ok (mVar 3) (s0 :: s1 :: s2 :: .own v :: l) Q ↔ Q (.bor 3) (s0 :: s1 :: s2 :: .own v :: l) := Iff.rfl
theorem rD_3 {s0 s1 s2 : Slot} : Ok (M.rd (.bor 3)) (s0 :: s1 :: s2 :: .dat v :: l) P ↔ P v (s0 :: s1 :: s2 :: .dat v :: l) := Iff.rfl
theorem rO_3 {s0 s1 s2 : Slot} : Ok (M.rd (.bor 3)) (s0 :: s1 :: s2 :: .own v :: l) P ↔ P v (s0 :: s1 :: s2 :: .own v :: l) := Iff.rfl
theorem kD_3 {s0 s1 s2 : Slot} : Ok (M.dt (.bor 3)) (s0 :: s1 :: s2 :: .dat v :: l) P ↔ P v (s0 :: s1 :: s2 :: .dat v :: l) := Iff.rfl
theorem kO_3 {s0 s1 s2 : Slot} : Ok (M.dt (.bor 3)) (s0 :: s1 :: s2 :: .own v :: l) P ↔ P v (s0 :: s1 :: s2 :: .dat v :: l) := Iff.rfl
theorem vD_4 {s0 s1 s2 s3 : Slot} : Ok (mVar 4) (s0 :: s1 :: s2 :: s3 :: .dat v :: l) Q ↔ Q (.dat v) (s0 :: s1 :: s2 :: s3 :: .dat v :: l) := Iff.rfl
theorem vO_4 {s0 s1 s2 s3 : Slot} : Ok (mVar 4) (s0 :: s1 :: s2 :: s3 :: .own v :: l) Q ↔ Q (.bor 4) (s0 :: s1 :: s2 :: s3 :: .own v :: l) := Iff.rfl
theorem rD_4 {s0 s1 s2 s3 : Slot} : Ok (M.rd (.bor 4)) (s0 :: s1 :: s2 :: s3 :: .dat v :: l) P ↔ P v (s0 :: s1 :: s2 :: s3 :: .dat v :: l) := Iff.rfl
theorem rO_4 {s0 s1 s2 s3 : Slot} : Ok (M.rd (.bor 4)) (s0 :: s1 :: s2 :: s3 :: .own v :: l) P ↔ P v (s0 :: s1 :: s2 :: s3 :: .own v :: l) := Iff.rfl
theorem kD_4 {s0 s1 s2 s3 : Slot} : Ok (M.dt (.bor 4)) (s0 :: s1 :: s2 :: s3 :: .dat v :: l) P ↔ P v (s0 :: s1 :: s2 :: s3 :: .dat v :: l) := Iff.rfl
theorem kO_4 {s0 s1 s2 s3 : Slot} : Ok (M.dt (.bor 4)) (s0 :: s1 :: s2 :: s3 :: .own v :: l) P ↔ P v (s0 :: s1 :: s2 :: s3 :: .dat v :: l) := Iff.rfl
theorem vD_5 {s0 s1 s2 s3 s4 : Slot} : Ok (mVar 5) (s0 :: s1 :: s2 :: s3 :: s4 :: .dat v :: l) Q ↔ Q (.dat v) (s0 :: s1 :: s2 :: s3 :: s4 :: .dat v :: l) := Iff.rfl
theorem vO_5 {s0 s1 s2 s3 s4 : Slot} : Ok (mVar 5) (s0 :: s1 :: s2 :: s3 :: s4 :: .own v :: l) Q ↔ Q (.bor 5) (s0 :: s1 :: s2 :: s3 :: s4 :: .own v :: l) := Iff.rfl
theorem rD_5 {s0 s1 s2 s3 s4 : Slot} : Ok (M.rd (.bor 5)) (s0 :: s1 :: s2 :: s3 :: s4 :: .dat v :: l) P ↔ P v (s0 :: s1 :: s2 :: s3 :: s4 :: .dat v :: l) := Iff.rfl
theorem rO_5 {s0 s1 s2 s3 s4 : Slot} : Ok (M.rd (.bor 5)) (s0 :: s1 :: s2 :: s3 :: s4 :: .own v :: l) P ↔ P v (s0 :: s1 :: s2 :: s3 :: s4 :: .own v :: l) := Iff.rfl
theorem kD_5 {s0 s1 s2 s3 s4 : Slot} : Ok (M.dt (.bor 5)) (s0 :: s1 :: s2 :: s3 :: s4 :: .dat v :: l) P ↔ P v (s0 :: s1 :: s2 :: s3 :: s4 :: .dat v :: l) := Iff.rfl
theorem kO_5 {s0 s1 s2 s3 s4 : Slot} : Ok (M.dt (.bor 5)) (s0 :: s1 :: s2 :: s3 :: s4 :: .own v :: l) P ↔ P v (s0 :: s1 :: s2 :: s3 :: s4 :: .dat v :: l) := Iff.rfl
theorem vD_6 {s0 s1 s2 s3 s4 s5 : Slot} : Ok (mVar 6) (s0 :: s1 :: s2 :: s3 :: s4 :: s5 :: .dat v :: l) Q ↔ Q (.dat v) (s0 :: s1 :: s2 :: s3 :: s4 :: s5 :: .dat v :: l) := Iff.rfl
theorem vO_6 {s0 s1 s2 s3 s4 s5 : Slot} : Ok (mVar 6) (s0 :: s1 :: s2 :: s3 :: s4 :: s5 :: .own v :: l) Q ↔ Q (.bor 6) (s0 :: s1 :: s2 :: s3 :: s4 :: s5 :: .own v :: l) := Iff.rfl
theorem rD_6 {s0 s1 s2 s3 s4 s5 : Slot} : Ok (M.rd (.bor 6)) (s0 :: s1 :: s2 :: s3 :: s4 :: s5 :: .dat v :: l) P ↔ P v (s0 :: s1 :: s2 :: s3 :: s4 :: s5 :: .dat v :: l) := Iff.rfl
theorem rO_6 {s0 s1 s2 s3 s4 s5 : Slot} : Ok (M.rd (.bor 6)) (s0 :: s1 :: s2 :: s3 :: s4 :: s5 :: .own v :: l) P ↔ P v (s0 :: s1 :: s2 :: s3 :: s4 :: s5 :: .own v :: l) := Iff.rfl
theorem kD_6 {s0 s1 s2 s3 s4 s5 : Slot} : Ok (M.dt (.bor 6)) (s0 :: s1 :: s2 :: s3 :: s4 :: s5 :: .dat v :: l) P ↔ P v (s0 :: s1 :: s2 :: s3 :: s4 :: s5 :: .dat v :: l) := Iff.rfl
theorem kO_6 {s0 s1 s2 s3 s4 s5 : Slot} : Ok (M.dt (.bor 6)) (s0 :: s1 :: s2 :: s3 :: s4 :: s5 :: .own v :: l) P ↔ P v (s0 :: s1 :: s2 :: s3 :: s4 :: s5 :: .dat v :: l) := Iff.rfl
theorem vD_7 {s0 s1 s2 s3 s4 s5 s6 : Slot} : Ok (mVar 7) (s0 :: s1 :: s2 :: s3 :: s4 :: s5 :: s6 :: .dat v :: l) Q ↔ Q (.dat v) (s0 :: s1 :: s2 :: s3 :: s4 :: s5 :: s6 :: .dat v :: l) := Iff.rfl
theorem vO_7 {s0 s1 s2 s3 s4 s5 s6 : Slot} : Ok (mVar 7) (s0 :: s1 :: s2 :: s3 :: s4 :: s5 :: s6 :: .own v :: l) Q ↔ Q (.bor 7) (s0 :: s1 :: s2 :: s3 :: s4 :: s5 :: s6 :: .own v :: l) := Iff.rfl
theorem rD_7 {s0 s1 s2 s3 s4 s5 s6 : Slot} : Ok (M.rd (.bor 7)) (s0 :: s1 :: s2 :: s3 :: s4 :: s5 :: s6 :: .dat v :: l) P ↔ P v (s0 :: s1 :: s2 :: s3 :: s4 :: s5 :: s6 :: .dat v :: l) := Iff.rfl
theorem rO_7 {s0 s1 s2 s3 s4 s5 s6 : Slot} : Ok (M.rd (.bor 7)) (s0 :: s1 :: s2 :: s3 :: s4 :: s5 :: s6 :: .own v :: l) P ↔ P v (s0 :: s1 :: s2 :: s3 :: s4 :: s5 :: s6 :: .own v :: l) := Iff.rfl
theorem kD_7 {s0 s1 s2 s3 s4 s5 s6 : Slot} : Ok (M.dt (.bor 7)) (s0 :: s1 :: s2 :: s3 :: s4 :: s5 :: s6 :: .dat v :: l) P ↔ P v (s0 :: s1 :: s2 :: s3 :: s4 :: s5 :: s6 :: .dat v :: l) := Iff.rfl
theorem kO_7 {s0 s1 s2 s3 s4 s5 s6 : Slot} : Ok (M.dt (.bor 7)) (s0 :: s1 :: s2 :: s3 :: s4 :: s5 :: s6 :: .own v :: l) P ↔ P v (s0 :: s1 :: s2 :: s3 :: s4 :: s5 :: s6 :: .dat v :: l) := Iff.rfl
theorem vD_8 {s0 s1 s2 s3 s4 s5 s6 s7 : Slot} : Ok (mVar 8) (s0 :: s1 :: s2 :: s3 :: s4 :: s5 :: s6 :: s7 :: .dat v :: l) Q ↔ Q (.dat v) (s0 :: s1 :: s2 :: s3 :: s4 :: s5 :: s6 :: s7 :: .dat v :: l) := Iff.rfl
theorem vO_8 {s0 s1 s2 s3 s4 s5 s6 s7 : Slot} : Ok (mVar 8) (s0 :: s1 :: s2 :: s3 :: s4 :: s5 :: s6 :: s7 :: .own v :: l) Q ↔ Q (.bor 8) (s0 :: s1 :: s2 :: s3 :: s4 :: s5 :: s6 :: s7 :: .own v :: l) := Iff.rfl
theorem rD_8 {s0 s1 s2 s3 s4 s5 s6 s7 : Slot} : Ok (M.rd (.bor 8)) (s0 :: s1 :: s2 :: s3 :: s4 :: s5 :: s6 :: s7 :: .dat v :: l) P ↔ P v (s0 :: s1 :: s2 :: s3 :: s4 :: s5 :: s6 :: s7 :: .dat v :: l) := Iff.rfl
theorem rO_8 {s0 s1 s2 s3 s4 s5 s6 s7 : Slot} : Ok (M.rd (.bor 8)) (s0 :: s1 :: s2 :: s3 :: s4 :: s5 :: s6 :: s7 :: .own v :: l) P ↔ P v (s0 :: s1 :: s2 :: s3 :: s4 :: s5 :: s6 :: s7 :: .own v :: l) := Iff.rfl
theorem kD_8 {s0 s1 s2 s3 s4 s5 s6 s7 : Slot} : Ok (M.dt (.bor 8)) (s0 :: s1 :: s2 :: s3 :: s4 :: s5 :: s6 :: s7 :: .dat v :: l) P ↔ P v (s0 :: s1 :: s2 :: s3 :: s4 :: s5 :: s6 :: s7 :: .dat v :: l) := Iff.rfl
theorem kO_8 {s0 s1 s2 s3 s4 s5 s6 s7 : Slot} : Ok (M.dt (.bor 8)) (s0 :: s1 :: s2 :: s3 :: s4 :: s5 :: s6 :: s7 :: .own v :: l) P ↔ P v (s0 :: s1 :: s2 :: s3 :: s4 :: s5 :: s6 :: s7 :: .dat v :: l) := Iff.rfl
theorem vD_9 {s0 s1 s2 s3 s4 s5 s6 s7 s8 : Slot} : Ok (mVar 9) (s0 :: s1 :: s2 :: s3 :: s4 :: s5 :: s6 :: s7 :: s8 :: .dat v :: l) Q ↔ Q (.dat v) (s0 :: s1 :: s2 :: s3 :: s4 :: s5 :: s6 :: s7 :: s8 :: .dat v :: l) := Iff.rfl
theorem vO_9 {s0 s1 s2 s3 s4 s5 s6 s7 s8 : Slot} : Ok (mVar 9) (s0 :: s1 :: s2 :: s3 :: s4 :: s5 :: s6 :: s7 :: s8 :: .own v :: l) Q ↔ Q (.bor 9) (s0 :: s1 :: s2 :: s3 :: s4 :: s5 :: s6 :: s7 :: s8 :: .own v :: l) := Iff.rfl
theorem rD_9 {s0 s1 s2 s3 s4 s5 s6 s7 s8 : Slot} : Ok (M.rd (.bor 9)) (s0 :: s1 :: s2 :: s3 :: s4 :: s5 :: s6 :: s7 :: s8 :: .dat v :: l) P ↔ P v (s0 :: s1 :: s2 :: s3 :: s4 :: s5 :: s6 :: s7 :: s8 :: .dat v :: l) := Iff.rfl
theorem rO_9 {s0 s1 s2 s3 s4 s5 s6 s7 s8 : Slot} : Ok (M.rd (.bor 9)) (s0 :: s1 :: s2 :: s3 :: s4 :: s5 :: s6 :: s7 :: s8 :: .own v :: l) P ↔ P v (s0 :: s1 :: s2 :: s3 :: s4 :: s5 :: s6 :: s7 :: s8 :: .own v :: l) := Iff.rfl
theorem kD_9 {s0 s1 s2 s3 s4 s5 s6 s7 s8 : Slot} : Ok (M.dt (.bor 9)) (s0 :: s1 :: s2 :: s3 :: s4 :: s5 :: s6 :: s7 :: s8 :: .dat v :: l) P ↔ P v (s0 :: s1 :: s2 :: s3 :: s4 :: s5 :: s6 :: s7 :: s8 :: .dat v :: l) := Iff.rfl
theorem kO_9 {s0 s1 s2 s3 s4 s5 s6 s7 s8 : Slot} : Ok (M.dt (.bor 9)) (s0 :: s1 :: s2 :: s3 :: s4 :: s5 :: s6 :: s7 :: s8 :: .own v :: l) P ↔ P v (s0 :: s1 :: s2 :: s3 :: s4 :: s5 :: s6 :: s7 :: s8 :: .dat v :: l) := Iff.rfl
theorem vD_10 {s0 s1 s2 s3 s4 s5 s6 s7 s8 s9 : Slot} : Ok (mVar 10) (s0 :: s1 :: s2 :: s3 :: s4 :: s5 :: s6 :: s7 :: s8 :: s9 :: .dat v :: l) Q ↔ Q (.dat v) (s0 :: s1 :: s2 :: s3 :: s4 :: s5 :: s6 :: s7 :: s8 :: s9 :: .dat v :: l) := Iff.rfl
theorem vO_10 {s0 s1 s2 s3 s4 s5 s6 s7 s8 s9 : Slot} : Ok (mVar 10) (s0 :: s1 :: s2 :: s3 :: s4 :: s5 :: s6 :: s7 :: s8 :: s9 :: .own v :: l) Q ↔ Q (.bor 10) (s0 :: s1 :: s2 :: s3 :: s4 :: s5 :: s6 :: s7 :: s8 :: s9 :: .own v :: l) := Iff.rfl
theorem rD_10 {s0 s1 s2 s3 s4 s5 s6 s7 s8 s9 : Slot} : Ok (M.rd (.bor 10)) (s0 :: s1 :: s2 :: s3 :: s4 :: s5 :: s6 :: s7 :: s8 :: s9 :: .dat v :: l) P ↔ P v (s0 :: s1 :: s2 :: s3 :: s4 :: s5 :: s6 :: s7 :: s8 :: s9 :: .dat v :: l) := Iff.rfl
theorem rO_10 {s0 s1 s2 s3 s4 s5 s6 s7 s8 s9 : Slot} : Ok (M.rd (.bor 10)) (s0 :: s1 :: s2 :: s3 :: s4 :: s5 :: s6 :: s7 :: s8 :: s9 :: .own v :: l) P ↔ P v (s0 :: s1 :: s2 :: s3 :: s4 :: s5 :: s6 :: s7 :: s8 :: s9 :: .own v :: l) := Iff.rfl
theorem kD_10 {s0 s1 s2 s3 s4 s5 s6 s7 s8 s9 : Slot} : Ok (M.dt (.bor 10)) (s0 :: s1 :: s2 :: s3 :: s4 :: s5 :: s6 :: s7 :: s8 :: s9 :: .dat v :: l) P ↔ P v (s0 :: s1 :: s2 :: s3 :: s4 :: s5 :: s6 :: s7 :: s8 :: s9 :: .dat v :: l) := Iff.rfl
theorem kO_10 {s0 s1 s2 s3 s4 s5 s6 s7 s8 s9 : Slot} : Ok (M.dt (.bor 10)) (s0 :: s1 :: s2 :: s3 :: s4 :: s5 :: s6 :: s7 :: s8 :: s9 :: .own v :: l) P ↔ P v (s0 :: s1 :: s2 :: s3 :: s4 :: s5 :: s6 :: s7 :: s8 :: s9 :: .dat v :: l) := Iff.rfl
theorem vD_11 {s0 s1 s2 s3 s4 s5 s6 s7 s8 s9 s10 : Slot} : Ok (mVar 11) (s0 :: s1 :: s2 :: s3 :: s4 :: s5 :: s6 :: s7 :: s8 :: s9 :: s10 :: .dat v :: l) Q ↔ Q (.dat v) (s0 :: s1 :: s2 :: s3 :: s4 :: s5 :: s6 :: s7 :: s8 :: s9 :: s10 :: .dat v :: l) := Iff.rfl
theorem vO_11 {s0 s1 s2 s3 s4 s5 s6 s7 s8 s9 s10 : Slot} : Ok (mVar 11) (s0 :: s1 :: s2 :: s3 :: s4 :: s5 :: s6 :: s7 :: s8 :: s9 :: s10 :: .own v :: l) Q ↔ Q (.bor 11) (s0 :: s1 :: s2 :: s3 :: s4 :: s5 :: s6 :: s7 :: s8 :: s9 :: s10 :: .own v :: l) := Iff.rfl
theorem rD_11 {s0 s1 s2 s3 s4 s5 s6 s7 s8 s9 s10 : Slot} : Ok (M.rd (.bor 11)) (s0 :: s1 :: s2 :: s3 :: s4 :: s5 :: s6 :: s7 :: s8 :: s9 :: s10 :: .dat v :: l) P ↔ P v (s0 :: s1 :: s2 :: s3 :: s4 :: s5 :: s6 :: s7 :: s8 :: s9 :: s10 :: .dat v :: l) := Iff.rfl
theorem rO_11 {s0 s1 s2 s3 s4 s5 s6 s7 s8 s9 s10 : Slot} : Ok (M.rd (.bor 11)) (s0 :: s1 :: s2 :: s3 :: s4 :: s5 :: s6 :: s7 :: s8 :: s9 :: s10 :: .own v :: l) P ↔ P v (s0 :: s1 :: s2 :: s3 :: s4 :: s5 :: s6 :: s7 :: s8 :: s9 :: s10 :: .own v :: l) := Iff.rfl
theorem kD_11 {s0 s1 s2 s3 s4 s5 s6 s7 s8 s9 s10 : Slot} : Ok (M.dt (.bor 11)) (s0 :: s1 :: s2 :: s3 :: s4 :: s5 :: s6 :: s7 :: s8 :: s9 :: s10 :: .dat v :: l) P ↔ P v (s0 :: s1 :: s2 :: s3 :: s4 :: s5 :: s6 :: s7 :: s8 :: s9 :: s10 :: .dat v :: l) := Iff.rfl
theorem kO_11 {s0 s1 s2 s3 s4 s5 s6 s7 s8 s9 s10 : Slot} : Ok (M.dt (.bor 11)) (s0 :: s1 :: s2 :: s3 :: s4 :: s5 :: s6 :: s7 :: s8 :: s9 :: s10 :: .own v :: l) P ↔ P v (s0 :: s1 :: s2 :: s3 :: s4 :: s5 :: s6 :: s7 :: s8 :: s9 :: s10 :: .dat v :: l) := Iff.rfl
theorem vD_12 {s0 s1 s2 s3 s4 s5 s6 s7 s8 s9 s10 s11 : Slot} : Ok (mVar 12) (s0 :: s1 :: s2 :: s3 :: s4 :: s5 :: s6 :: s7 :: s8 :: s9 :: s10 :: s11 :: .dat v :: l) Q ↔ Q (.dat v) (s0 :: s1 :: s2 :: s3 :: s4 :: s5 :: s6 :: s7 :: s8 :: s9 :: s10 :: s11 :: .dat v :: l) := Iff.rfl
theorem vO_12 {s0 s1 s2 s3 s4 s5 s6 s7 s8 s9 s10 s11 : Slot} : Ok (mVar 12) (s0 :: s1 :: s2 :: s3 :: s4 :: s5 :: s6 :: s7 :: s8 :: s9 :: s10 :: s11 :: .own v :: l) Q ↔ Q (.bor 12) (s0 :: s1 :: s2 :: s3 :: s4 :: s5 :: s6 :: s7 :: s8 :: s9 :: s10 :: s11 :: .own v :: l) := Iff.rfl
theorem rD_12 {s0 s1 s2 s3 s4 s5 s6 s7 s8 s9 s10 s11 : Slot} : Ok (M.rd (.bor 12)) (s0 :: s1 :: s2 :: s3 :: s4 :: s5 :: s6 :: s7 :: s8 :: s9 :: s10 :: s11 :: .dat v :: l) P ↔ P v (s0 :: s1 :: s2 :: s3 :: s4 :: s5 :: s6 :: s7 :: s8 :: s9 :: s10 :: s11 :: .dat v :: l) := Iff.rfl
theorem rO_12 {s0 s1 s2 s3 s4 s5 s6 s7 s8 s9 s10 s11 : Slot} : Ok (M.rd (.bor 12)) (s0 :: s1 :: s2 :: s3 :: s4 :: s5 :: s6 :: s7 :: s8 :: s9 :: s10 :: s11 :: .own v :: l) P ↔ P v (s0 :: s1 :: s2 :: s3 :: s4 :: s5 :: s6 :: s7 :: s8 :: s9 :: s10 :: s11 :: .own v :: l) := Iff.rfl
theorem kD_12 {s0 s1 s2 s3 s4 s5 s6 s7 s8 s9 s10 s11 : Slot} : Ok (M.dt (.bor 12)) (s0 :: s1 :: s2 :: s3 :: s4 :: s5 :: s6 :: s7 :: s8 :: s9 :: s10 :: s11 :: .dat v :: l) P ↔ P v (s0 :: s1 :: s2 :: s3 :: s4 :: s5 :: s6 :: s7 :: s8 :: s9 :: s10 :: s11 :: .dat v :: l) := Iff.rfl
theorem kO_12 {s0 s1 s2 s3 s4 s5 s6 s7 s8 s9 s10 s11 : Slot} : Ok (M.dt (.bor 12)) (s0 :: s1 :: s2 :: s3 :: s4 :: s5 :: s6 :: s7 :: s8 :: s9 :: s10 :: s11 :: .own v :: l) P ↔ P v (s0 :: s1 :: s2 :: s3 :: s4 :: s5 :: s6 :: s7 :: s8 :: s9 :: s10 :: s11 :: .dat v :: l) := Iff.rfl
theorem vD_13 {s0 s1 s2 s3 s4 s5 s6 s7 s8 s9 s10 s11 s12 : Slot} : Ok (mVar 13) (s0 :: s1 :: s2 :: s3 :: s4 :: s5 :: s6 :: s7 :: s8 :: s9 :: s10 :: s11 :: s12 :: .dat v :: l) Q ↔ Q (.dat v) (s0 :: s1 :: s2 :: s3 :: s4 :: s5 :: s6 :: s7 :: s8 :: s9 :: s10 :: s11 :: s12 :: .dat v :: l) := Iff.rfl
theorem vO_13 {s0 s1 s2 s3 s4 s5 s6 s7 s8 s9 s10 s11 s12 : Slot} : Ok (mVar 13) (s0 :: s1 :: s2 :: s3 :: s4 :: s5 :: s6 :: s7 :: s8 :: s9 :: s10 :: s11 :: s12 :: .own v :: l) Q ↔ Q (.bor 13) (s0 :: s1 :: s2 :: s3 :: s4 :: s5 :: s6 :: s7 :: s8 :: s9 :: s10 :: s11 :: s12 :: .own v :: l) := Iff.rfl
theorem rD_13 {s0 s1 s2 s3 s4 s5 s6 s7 s8 s9 s10 s11 s12 : Slot} : Ok (M.rd (.bor 13)) (s0 :: s1 :: s2 :: s3 :: s4 :: s5 :: s6 :: s7 :: s8 :: s9 :: s10 :: s11 :: s12 :: .dat v :: l) P ↔ P v (s0 :: s1 :: s2 :: s3 :: s4 :: s5 :: s6 :: s7 :: s8 :: s9 :: s10 :: s11 :: s12 :: .dat v :: l) := Iff.rfl
theorem rO_13 {s0 s1 s2 s3 s4 s5 s6 s7 s8 s9 s10 s11 s12 : Slot} : Ok (M.rd (.bor 13)) (s0 :: s1 :: s2 :: s3 :: s4 :: s5 :: s6 :: s7 :: s8 :: s9 :: s10 :: s11 :: s12 :: .own v :: l) P ↔ P v (s0 :: s1 :: s2 :: s3 :: s4 :: s5 :: s6 :: s7 :: s8 :: s9 :: s10 :: s11 :: s12 :: .own v :: l) := Iff.rfl
theorem kD_13 {s0 s1 s2 s3 s4 s5 s6 s7 s8 s9 s10 s11 s12 : Slot} : Ok (M.dt (.bor 13)) (s0 :: s1 :: s2 :: s3 :: s4 :: s5 :: s6 :: s7 :: s8 :: s9 :: s10 :: s11 :: s12 :: .dat v :: l) P ↔ P v (s0 :: s1 :: s2 :: s3 :: s4 :: s5 :: s6 :: s7 :: s8 :: s9 :: s10 :: s11 :: s12 :: .dat v :: l) := Iff.rfl
theorem kO_13 {s0 s1 s2 s3 s4 s5 s6 s7 s8 s9 s10 s11 s12 : Slot} : Ok (M.dt (.bor 13)) (s0 :: s1 :: s2 :: s3 :: s4 :: s5 :: s6 :: s7 :: s8 :: s9 :: s10 :: s11 :: s12 :: .own v :: l) P ↔ P v (s0 :: s1 :: s2 :: s3 :: s4 :: s5 :: s6 :: s7 :: s8 :: s9 :: s10 :: s11 :: s12 :: .dat v :: l) := Iff.rfl
theorem vD_14 {s0 s1 s2 s3 s4 s5 s6 s7 s8 s9 s10 s11 s12 s13 : Slot} : Ok (mVar 14) (s0 :: s1 :: s2 :: s3 :: s4 :: s5 :: s6 :: s7 :: s8 :: s9 :: s10 :: s11 :: s12 :: s13 :: .dat v :: l) Q ↔ Q (.dat v) (s0 :: s1 :: s2 :: s3 :: s4 :: s5 :: s6 :: s7 :: s8 :: s9 :: s10 :: s11 :: s12 :: s13 :: .dat v :: l) := Iff.rfl
theorem vO_14 {s0 s1 s2 s3 s4 s5 s6 s7 s8 s9 s10 s11 s12 s13 : Slot} : Ok (mVar 14) (s0 :: s1 :: s2 :: s3 :: s4 :: s5 :: s6 :: s7 :: s8 :: s9 :: s10 :: s11 :: s12 :: s13 :: .own v :: l) Q ↔ Q (.bor 14) (s0 :: s1 :: s2 :: s3 :: s4 :: s5 :: s6 :: s7 :: s8 :: s9 :: s10 :: s11 :: s12 :: s13 :: .own v :: l) := Iff.rfl
theorem rD_14 {s0 s1 s2 s3 s4 s5 s6 s7 s8 s9 s10 s11 s12 s13 : Slot} : Ok (M.rd (.bor 14)) (s0 :: s1 :: s2 :: s3 :: s4 :: s5 :: s6 :: s7 :: s8 :: s9 :: s10 :: s11 :: s12 :: s13 :: .dat v :: l) P ↔ P v (s0 :: s1 :: s2 :: s3 :: s4 :: s5 :: s6 :: s7 :: s8 :: s9 :: s10 :: s11 :: s12 :: s13 :: .dat v :: l) := Iff.rfl
theorem rO_14 {s0 s1 s2 s3 s4 s5 s6 s7 s8 s9 s10 s11 s12 s13 : Slot} : Ok (M.rd (.bor 14)) (s0 :: s1 :: s2 :: s3 :: s4 :: s5 :: s6 :: s7 :: s8 :: s9 :: s10 :: s11 :: s12 :: s13 :: .own v :: l) P ↔ P v (s0 :: s1 :: s2 :: s3 :: s4 :: s5 :: s6 :: s7 :: s8 :: s9 :: s10 :: s11 :: s12 :: s13 :: .own v :: l) := Iff.rfl
theorem kD_14 {s0 s1 s2 s3 s4 s5 s6 s7 s8 s9 s10 s11 s12 s13 : Slot} : Ok (M.dt (.bor 14)) (s0 :: s1 :: s2 :: s3 :: s4 :: s5 :: s6 :: s7 :: s8 :: s9 :: s10 :: s11 :: s12 :: s13 :: .dat v :: l) P ↔ P v (s0 :: s1 :: s2 :: s3 :: s4 :: s5 :: s6 :: s7 :: s8 :: s9 :: s10 :: s11 :: s12 :: s13 :: .dat v :: l) := Iff.rfl
theorem kO_14 {s0 s1 s2 s3 s4 s5 s6 s7 s8 s9 s10 s11 s12 s13 : Slot} : Ok (M.dt (.bor 14)) (s0 :: s1 :: s2 :: s3 :: s4 :: s5 :: s6 :: s7 :: s8 :: s9 :: s10 :: s11 :: s12 :: s13 :: .own v :: l) P ↔ P v (s0 :: s1 :: s2 :: s3 :: s4 :: s5 :: s6 :: s7 :: s8 :: s9 :: s10 :: s11 :: s12 :: s13 :: .dat v :: l) := Iff.rfl
theorem vD_15 {s0 s1 s2 s3 s4 s5 s6 s7 s8 s9 s10 s11 s12 s13 s14 : Slot} : Ok (mVar 15) (s0 :: s1 :: s2 :: s3 :: s4 :: s5 :: s6 :: s7 :: s8 :: s9 :: s10 :: s11 :: s12 :: s13 :: s14 :: .dat v :: l) Q ↔ Q (.dat v) (s0 :: s1 :: s2 :: s3 :: s4 :: s5 :: s6 :: s7 :: s8 :: s9 :: s10 :: s11 :: s12 :: s13 :: s14 :: .dat v :: l) := Iff.rfl
theorem vO_15 {s0 s1 s2 s3 s4 s5 s6 s7 s8 s9 s10 s11 s12 s13 s14 : Slot} : Ok (mVar 15) (s0 :: s1 :: s2 :: s3 :: s4 :: s5 :: s6 :: s7 :: s8 :: s9 :: s10 :: s11 :: s12 :: s13 :: s14 :: .own v :: l) Q ↔ Q (.bor 15) (s0 :: s1 :: s2 :: s3 :: s4 :: s5 :: s6 :: s7 :: s8 :: s9 :: s10 :: s11 :: s12 :: s13 :: s14 :: .own v :: l) := Iff.rfl
theorem rD_15 {s0 s1 s2 s3 s4 s5 s6 s7 s8 s9 s10 s11 s12 s13 s14 : Slot} : Ok (M.rd (.bor 15)) (s0 :: s1 :: s2 :: s3 :: s4 :: s5 :: s6 :: s7 :: s8 :: s9 :: s10 :: s11 :: s12 :: s13 :: s14 :: .dat v :: l) P ↔ P v (s0 :: s1 :: s2 :: s3 :: s4 :: s5 :: s6 :: s7 :: s8 :: s9 :: s10 :: s11 :: s12 :: s13 :: s14 :: .dat v :: l) := Iff.rfl
theorem rO_15 {s0 s1 s2 s3 s4 s5 s6 s7 s8 s9 s10 s11 s12 s13 s14 : Slot} : Ok (M.rd (.bor 15)) (s0 :: s1 :: s2 :: s3 :: s4 :: s5 :: s6 :: s7 :: s8 :: s9 :: s10 :: s11 :: s12 :: s13 :: s14 :: .own v :: l) P ↔ P v (s0 :: s1 :: s2 :: s3 :: s4 :: s5 :: s6 :: s7 :: s8 :: s9 :: s10 :: s11 :: s12 :: s13 :: s14 :: .own v :: l) := Iff.rfl
theorem kD_15 {s0 s1 s2 s3 s4 s5 s6 s7 s8 s9 s10 s11 s12 s13 s14 : Slot} : Ok (M.dt (.bor 15)) (s0 :: s1 :: s2 :: s3 :: s4 :: s5 :: s6 :: s7 :: s8 :: s9 :: s10 :: s11 :: s12 :: s13 :: s14 :: .dat v :: l) P ↔ P v (s0 :: s1 :: s2 :: s3 :: s4 :: s5 :: s6 :: s7 :: s8 :: s9 :: s10 :: s11 :: s12 :: s13 :: s14 :: .dat v :: l) := Iff.rfl
theorem kO_15 {s0 s1 s2 s3 s4 s5 s6 s7 s8 s9 s10 s11 s12 s13 s14 : Slot} : Ok (M.dt (.bor 15)) (s0 :: s1 :: s2 :: s3 :: s4 :: s5 :: s6 :: s7 :: s8 :: s9 :: s10 :: s11 :: s12 :: s13 :: s14 :: .own v :: l) P ↔ P v (s0 :: s1 :: s2 :: s3 :: s4 :: s5 :: s6 :: s7 :: s8 :: s9 :: s10 :: s11 :: s12 :: s13 :: s14 :: .dat v :: l) := Iff.rfl
end
theorem cMul_r {i j : Int} (h1 : -18446744073709551616 < j) (h2 : j < 18446744073709551616) : cMul i j ↔ True := ⟨fun _ => trivial, fun _ => .inr (.inl ⟨h1, h2⟩)⟩
theorem cMul_l {i j : Int} (h1 : -18446744073709551616 < i) (h2 : i < 18446744073709551616) : cMul i j ↔ True := ⟨fun _ => trivial, fun _ => .inl ⟨h1, h2⟩⟩
theorem strq {a b : String} : (Str.ofString a = Str.ofString b) ↔ a = b := by
  refine ⟨fun h => ?_, fun h => by rw [h]⟩
  rw [Str.ofString_eq_toList, Str.ofString_eq_toList] at h
  have h2 : (a.toList.map Char.toNat).toArray = (b.toList.map Char.toNat).toArray := congrArg Str.cps h
  have h3 : a.toList.map Char.toNat = b.toList.map Char.toNat := by simpa using h2
  have inj : ∀ x y : Char, x.toNat = y.toNat → x = y := fun x y q => Char.ext (UInt32.toNat_inj.mp q)
  have h4 : ∀ {l m : List Char}, l.map Char.toNat = m.map Char.toNat → l = m := fun {l} => by
    induction l with
    | nil => intro m q; cases m <;> simp_all
    | cons c l ih =>
      intro m q
      cases m with
      | nil => simp at q
      | cons d m =>
        simp only [List.map_cons, List.cons.injEq] at q
        rw [inj c d q.1, ih q.2]
  exact String.toList_inj.mp (h4 h3)
theorem sz {n : Nat} (h : n ≤ 1000) : (n ≤ sizeLine) ↔ True := ⟨fun _ => trivial, fun _ => by rw [sizeLine_eq]; omega⟩
theorem szl {n : Nat} (h : n ≤ 1000) : (n < sizeLine) ↔ True := ⟨fun _ => trivial, fun _ => by rw [sizeLine_eq]; omega⟩
theorem dOk_int {i : Int} : dOk (.int i) = true ↔ True := ⟨fun _ => trivial, fun _ => rfl⟩
theorem dOk_bl {i : Bool} : dOk (.bl i) = true ↔ True := ⟨fun _ => trivial, fun _ => rfl⟩
theorem dOk_non : dOk .non = true ↔ True := ⟨fun _ => trivial, fun _ => rfl⟩
/-! equality -/
theorem veq_int {i j : Int} : veq (.int i) (.int j) = decide (i = j) := by
  first
    | rfl
    | (unfold veq; simp [toP, PyData.eqv])
theorem veq_str {a b : Str} : veq (.str a) (.str b) = decide (a = b) := by
  first
    | rfl
    | (unfold veq; simp [toP, PyData.eqv])
theorem ok_len {xs : List Val} : Ok (fLen [.lst xs]) e Q ↔ Q (.dat (.int xs.length)) e := Iff.rfl
theorem ok_lenT {xs : List Val} : Ok (fLen [.tup xs]) e Q ↔ Q (.dat (.int xs.length)) e := Iff.rfl
theorem ok_absI {i : Int} : Ok (fAbs [.int i]) e Q ↔ Q (.dat (.int (if i < 0 then -i else i))) e := Iff.rfl
theorem ok_intI {i : Int} : Ok (fInt [.int i]) e Q ↔ Q (.dat (.int i)) e := Iff.rfl
theorem ok_max2 {i j : Int} : Ok (fMax2 [.int i, .int j]) e Q ↔ Q (.dat (.int (if j > i then j else i))) e := Iff.rfl
theorem ok_min2 {i j : Int} : Ok (fMin2 [.int i, .int j]) e Q ↔ Q (.dat (.int (if j < i then j else i))) e := Iff.rfl
theorem ok_repr {v : Val} : Ok (fRepr [v]) e Q ↔ rOk v = true ∧ Q (.dat (.str (shownV v))) e := by
  show Ok (if rOk v = true then _ else _) e Q ↔ _
  by_cases h : rOk v = true
  · rw [if_pos h]; exact ⟨fun z => ⟨h, z⟩, fun z => z.2⟩
  · rw [if_neg h]; exact ⟨fun z => z.elim, fun z => h z.1⟩
theorem ok_all {bs : List Bool} : Ok (fAll [.lst (bs.map .bl)]) e Q ↔ Q (.dat (.bl (bs.all id))) e := by
  have h : bls? (bs.map Val.bl) = some bs := by
    induction bs with
    | nil => rfl
    | cons b bs ih => simp [bls?, ih]
  show Ok (match bls? (bs.map Val.bl) with
    | some bs => mV (.bl (bs.all id))
    | _ => M.bad) e Q ↔ _
  rw [h]
  exact Iff.rfl
theorem trues {rs : List Val} (h : ∀ r ∈ rs, r = .bl true) : rs = (List.replicate rs.length true).map .bl := by
  induction rs with
  | nil => rfl
  | cons r rs ih =>
    rw [h r (List.mem_cons_self ..), List.length_cons, List.replicate_succ, List.map_cons, ← ih fun r hr => h r (List.mem_cons_of_mem _ hr)]
theorem ok_allT {rs : List Val} (h : ∀ r ∈ rs, r = .bl true) : Ok (fAll [.lst rs]) e Q ↔ Q (.dat (.bl true)) e := by
  have h2 := trues h
  rw [h2, ok_all]
  have h3 : ∀ n : Nat, (List.replicate n true).all id = true := fun n => by induction n with
    | zero => rfl
    | succ n ih => rw [List.replicate_succ, List.all_cons, ih]; rfl
  rw [h3]
/-! data are equal to themselves -/
theorem veqs_self : ∀ (xs : List Val), (∀ x ∈ xs, veq x x = true) → PyData.eqvAll (toPs xs) (toPs xs) = true
  | [], _ => by first | rfl | simp [toPs, PyData.eqvAll]
  | x :: xs, h => by
    have h1 := h x (List.mem_cons_self ..)
    have h2 := veqs_self xs fun y hy => h y (List.mem_cons_of_mem _ hy)
    unfold veq at h1
    simp [toPs, PyData.eqvAll, h1, h2]
theorem veq_lst {xs : List Val} (h : ∀ x ∈ xs, veq x x = true) : veq (.lst xs) (.lst xs) = true := by
  unfold veq
  simp [toP, PyData.eqv, veqs_self xs h]
theorem veq_tup {xs : List Val} (h : ∀ x ∈ xs, veq x x = true) : veq (.tup xs) (.tup xs) = true := by
  unfold veq
  simp [toP, PyData.eqv, veqs_self xs h]
end Pu
set_option Elab.async false
set_option linter.all false
set_option maxRecDepth 100000
/-! Pu, part X: more of the built-in functions: divmod, max and min of three. -/
namespace Pu
open PySem PySem.Spec PyProof.Rows L2
def rDm : List V → Hp → VK → Prop := fun xs H Q => ∃ i j, xs = [.int i, .int j] ∧ CDivW i j ∧ ∀ p, H p = none → Q (.ref p) (upd H p (.tup [.int (i / j), .int (i % j)]))
theorem c_dm {X : Cx} : CallR X (.builtin "divmod") rDm := by
  rintro pins s σ H xs us Q I r ⟨i, j, rfl, hc, q⟩
  obtain ⟨u, w, rfl, ⟨t, rfl⟩, ⟨t', rfl⟩⟩ := vals2 r
  have pos : (0 : Int) < j := hc.1
  refine divmod_int (by omega) ?_ (.inl (PyProof.noPylong_of_log2 hc.2))
  rw [Int.fdiv_eq_ediv_of_nonneg i (by omega), Int.fmod_eq_emod_of_nonneg i (by omega)]
  have new : H s.heap.objs.size = none := I.hok.fresh (Nat.le_refl _)
  refine ⟨.ref s.heap.objs.size, _, I.laid (fun b o e => Heap.get?_push_of_some _ e) (Nat.le_refl _) ?_, rfl, q _ new⟩
  refine ⟨by rw [sizeLine_eq]; show 2 ≤ 16777216; decide, [.int (i / j) s.toks, .int (i % j) (s.toks + 1)], .cons ⟨_, rfl⟩ (.cons ⟨_, rfl⟩ .nil), _, Heap.get?_push_size s.heap rfl, rfl, 0, rfl⟩
def fDm (vs : List Val) : M RV := match vs with
  | [.int i, .int j] => if cDiv i j then mV (.tup [.int (i / j), .int (i % j)]) else M.bad
  | _ => M.bad
theorem v_dm {K : PySem.W.Frag} {W : WX} : FnV K W fDm rDm := by
  intro B F H e σ vs us Q C r h
  unfold fDm at h
  split at h
  · rename_i i j
    obtain ⟨u, z, rfl, r1, r2⟩ := r.two
    by_cases hc : cDiv i j
    · rw [if_pos hc] at h
      refine ⟨i, j, by rw [r1.int, r2.int], divD hc, fun p hp => ?_⟩
      obtain ⟨C3, s3, e3⟩ := C.growF (o := .tup [.int (i / j), .int (i % j)]) hp
      exact h.ok rfl C3 (VR.tup (SqT.of e3) (.cons (.int _) (.cons (.int _) .nil)))
    · rw [if_neg hc] at h
      exact h.elim
  · exact h.elim
theorem ok_dm {e : Ev} {Q : RV → Ev → Prop} {i j : Int} : Ok (fDm [.int i, .int j]) e Q ↔ cDiv i j ∧ Q (.dat (.tup [.int (i / j), .int (i % j)])) e := by
  show Ok (if cDiv i j then _ else M.bad) e Q ↔ _
  by_cases h : cDiv i j
  · rw [if_pos h]; exact ⟨fun z => ⟨h, z⟩, fun z => z.2⟩
  · rw [if_neg h]; exact ⟨fun z => z.elim, fun z => h z.1⟩
def fMax3 (vs : List Val) : M RV := match vs with
  | [.int a, .int b, .int c] => mV (.int (if (if a < b then b else a) < c then c else (if a < b then b else a)))
  | _ => M.bad
theorem v_max3 {K : PySem.W.Frag} {W : WX} : FnV K W fMax3 (rNuC3 nuMax3) := by
  intro B F H e σ vs us Q C r h
  unfold fMax3 at h
  split at h
  · rename_i a b c
    cases r with
    | cons r1 r =>
      obtain ⟨y, z, rfl, r2, r3⟩ := r.two
      refine ⟨.int a, .int b, .int c, .int (if (if a < b then b else a) < c then c else (if a < b then b else a)), by rw [r1.int, r2.int, r3.int], ?_, h.ok rfl C (VR.int _)⟩
      have two : ∀ i j : Int, nuMax2 (.int i) (.int j) = some (.int (if i < j then j else i)) := fun i j => by
        show (some (decide (i < j))).map _ = _
        by_cases h : i < j <;> simp [h]
      show (nuMax2 (.int a) (.int b)).bind _ = _
      rw [two]
      exact two _ c
  · exact h.elim
theorem ok_max3 {e : Ev} {Q : RV → Ev → Prop} {a b c : Int} : Ok (fMax3 [.int a, .int b, .int c]) e Q ↔ Q (.dat (.int (if (if a < b then b else a) < c then c else (if a < b then b else a)))) e := Iff.rfl
def fMin3 (vs : List Val) : M RV := match vs with
  | [.int a, .int b, .int c] => mV (.int (if c < (if b < a then b else a) then c else (if b < a then b else a)))
  | _ => M.bad
theorem v_min3 {K : PySem.W.Frag} {W : WX} : FnV K W fMin3 (rNuC3 nuMin3) := by
  intro B F H e σ vs us Q C r h
  unfold fMin3 at h
  split at h
  · rename_i a b c
    cases r with
    | cons r1 r =>
      obtain ⟨y, z, rfl, r2, r3⟩ := r.two
      refine ⟨.int a, .int b, .int c, .int (if c < (if b < a then b else a) then c else (if b < a then b else a)), by rw [r1.int, r2.int, r3.int], ?_, h.ok rfl C (VR.int _)⟩
      have two : ∀ i j : Int, nuMin2 (.int i) (.int j) = some (.int (if j < i then j else i)) := fun i j => by
        show (some (decide (j < i))).map _ = _
        by_cases h : j < i <;> simp [h]
      show (nuMin2 (.int a) (.int b)).bind _ = _
      rw [two]
      exact two _ c
  · exact h.elim
theorem ok_min3 {e : Ev} {Q : RV → Ev → Prop} {a b c : Int} : Ok (fMin3 [.int a, .int b, .int c]) e Q ↔ Q (.dat (.int (if c < (if b < a then b else a) then c else (if b < a then b else a)))) e := Iff.rfl
end Pu
set_option Elab.async false
set_option linter.all false
set_option maxRecDepth 100000
set_option maxHeartbeats 2000000
/-! Pu, part Y: enumerate, zip over lists and tuples. -/
namespace Pu
open PySem PySem.Spec PyProof.Rows L2
/-- enumerate(v), v by what its iterator begins as -/
theorem newEnum {v : Value} {ob : Obj} {H : Heap → Prop} (B : Begins v ob H) :
    Meets (Builtin.«enumerate.__new__» ⟨[.type "enumerate", v], []⟩) (fun _ R s => H s.heap ∧
      R (.ok (.ret (.ref (s.heap.push ob).objs.size))) { s with heap := (s.heap.push ob).push { cls := .type "enumerate", data := .fields #[.none, .bool false, .ref s.heap.objs.size, rawInt 0, .none, .none] } }) :=
  .of_wp fun P w A R s both => by
    obtain ⟨hp, g, d, tk, os⟩ := s
    obtain ⟨here, wish⟩ := both
    have sub := sub_enumerate
    have begin_ : ∀ {A' : Around} {E : Value → Shared → Prop} {Q : Value → Shared → Prop}, Q (.ref hp.objs.size) ⟨hp.push ob, g, d, tk, os⟩ → wpAny (model P w) A' (pyIter v) Q E ⟨hp, g, d, tk, os⟩ :=
      fun {A' E Q} q => B.iter P w A' E ⟨hp, g, d, tk, os⟩ Q here q
    wp_walk using begin_
    refine wpAny_stack_any fun st => wpAny_pure ?_
    split
    · rename_i c _ _ _ _ _
      cases (c == Value.type "enumerate") <;> (wp_walk using begin_; exact ⟨_, rfl, wish⟩)
    · wp_walk using begin_
      exact ⟨_, rfl, wish⟩
section
variable {P : Program} {w : World} {A : Around} {E : Value → Shared → Prop} {s : Shared}
theorem callEnum {v : Value} {ob : Obj} {H : Heap → Prop} {Q : Value → Shared → Prop} (B : Begins v ob H) (here : H s.heap)
    (k : ∀ h', IsEnum h' (s.heap.objs.size + 1) s.heap.objs.size 0 .none → h'.get? s.heap.objs.size = some ob → h'.objs.size = s.heap.objs.size + 2 →
      (∀ b o, s.heap.get? b = some o → h'.get? b = some o) → Q (.ref (s.heap.objs.size + 1)) { s with heap := h' }) :
    wpAny (model P w) A (call (.type "enumerate") [v]) Q E s := by
  have size1 : (s.heap.push ob).objs.size = s.heap.objs.size + 1 := Heap.size_push ..
  refine callType_new F.called_enumerate (by decide) (F.typeCall_enumerate_1 _) (F.newCall_enumerate_1 _) (fun obj => F.args_object_init_2 obj _) F.entry_enumerate_new (newEnum B) ⟨here, ?_⟩
  have top_ := Heap.get?_push_size (s.heap.push ob) (o := { cls := .type "enumerate", data := .fields #[.none, .bool false, .ref s.heap.objs.size, rawInt 0, .none, .none] }) rfl
  show _ ∧ _
  rw [size1] at top_ ⊢
  exact ⟨⟨_, top_, rfl⟩, k _ top_ (Heap.get?_push_of_some _ (Heap.get?_push_size _ B.free)) (by rw [Heap.size_push, size1]) fun b o x => Heap.get?_push_of_some _ (Heap.get?_push_of_some _ x)⟩
end
/-! ### a list (true) or a tuple -/
def SqB (K : PySem.W.Frag) : Bool → Hp → Addr → List V → Prop
  | true, H, a, xs => SqL K H a xs
  | false, H, a, xs => SqT K H a xs
def ItB : Bool → Heap → Addr → Addr → Nat → Prop
  | true, h, it, a, i => h.IsListIter it a i
  | false, h, it, a, i => h.IsTupleIter it a i
def StB : Bool → Heap → Addr → Array Value → Prop
  | true, h, a, vs => h.IsList a vs
  | false, h, a, vs => h.IsTuple a vs
def itObj : Bool → Addr → Obj
  | true, a => { cls := .type "list_iterator", data := .fields #[.ref a, .int 0 0] }
  | false, a => { cls := .type "tuple_iterator", data := .fields #[.ref a, .int 0 0] }
theorem begB (b : Bool) (a : Addr) (vs : Array Value) : Begins (.ref a) (itObj b a) fun h => StB b h a vs := by
  cases b
  · exact begins_tuple a vs
  · exact begins_list a vs
theorem itB_new {b : Bool} {h : Heap} {it a : Addr} (e : h.get? it = some (itObj b a)) : ItB b h it a 0 := by
  cases b <;> exact ⟨_, e, rfl, rfl⟩
theorem ItB.at {b : Bool} {h h' : Heap} {it a : Addr} {i : Nat} (x : ItB b h it a i) (e : ∀ o, h.get? it = some o → h'.get? it = some o) : ItB b h' it a i := by
  cases b
  · exact Heap.IsTupleIter.at x e
  · exact Heap.IsListIter.at x e
theorem ItB.obj {b : Bool} {h : Heap} {it a : Addr} {i : Nat} (x : ItB b h it a i) : ∃ o, h.get? it = some o ∧ ∀ v, o.data ≠ .cell v := by
  cases b <;> (obtain ⟨o, ho, hc, hd⟩ := x; exact ⟨o, ho, fun v q => by rw [hd] at q; cases q⟩)
theorem ItB.lt {b : Bool} {h : Heap} {it a : Addr} {i : Nat} (x : ItB b h it a i) : it < h.objs.size := by
  obtain ⟨o, ho, _⟩ := x.obj
  exact Heap.lt_size ho
theorem StB.lt {b : Bool} {h : Heap} {a : Addr} {vs : Array Value} (x : StB b h a vs) : a < h.objs.size := by
  cases b <;> (obtain ⟨o, ho, _⟩ := x; exact Heap.lt_size ho)
section
variable {X : Cx} {pins : List (Addr × Obj)} {σ : Sig} {H : Hp} {s : Shared} {a : Addr} {xs ys : List V} {b : Bool}
theorem sqB_at (I : Inv X pins σ H s) (h : SqB X.K b H a xs) : ∃ its : List Value, Vals xs its ∧ StB b s.heap a its.toArray := by
  cases b
  · obtain ⟨its, r, p, _⟩ := I.tuple h
    exact ⟨its, r, p⟩
  · obtain ⟨its, r, p, _⟩ := I.list h
    exact ⟨its, r, p.isList⟩
theorem sqB_inj (I : Inv X pins σ H s) (h : SqB X.K b H a xs) (h' : SqB X.K b H a ys) : xs = ys := by
  cases b
  · exact I.tuple_inj h h'
  · exact I.list_inj h h'
end
theorem drawB {P : Program} {w : World} {A : Around} (b : Bool) (hh : A.handled = none) (it a : Addr) (ne : a ≠ it) (vs : Array Value) :
    Draws P w A it [it, a] vs.size (fun i v => vs[i]? = some v) (fun i h => ItB b h it a i ∧ StB b h a vs) := by
  cases b
  · exact Draws.tuple hh it a ne vs
  · exact Draws.list hh it a ne vs
/-! ### enumerate -/
def ItE (K : PySem.W.Frag) (b : Bool) (a : Addr) : It :=
  ⟨fun i H => ∃ (xs : List V) (x : V), SqB K b H a xs ∧ xs[i]? = some x, fun i H v H' => ∃ T x, v = .ref T ∧ H T = none ∧ H' = upd H T (.tup [.int (i : Nat), x]) ∧ ∀ xs, SqB K b H a xs → xs[i]? = some x, fun i H => ∃ xs : List V, SqB K b H a xs ∧ xs.length = i⟩
theorem turnE {P : Program} {w : World} {K : PySem.W.Frag} {elts : List Expr} {kk : Nat} {tpos : Pos} {b : Bool} {a e it : Addr} (ne1 : a ≠ it) (ne2 : e ≠ a) :
    Turn P w K (.Tuple elts kk tpos) (ItE K b a) [e, it] e (fun i h => (∃ old, IsEnum h e it ((i : Nat) : Int) old) ∧ ItB b h it a i ∧ e ≠ it) where
  mem := List.mem_cons_self ..
  obj := fun i h st c hc => by
    obtain ⟨⟨old, he⟩, hi, _⟩ := st
    rcases List.mem_cons.mp hc with rfl | hc
    · exact ⟨_, he, fun v q => nomatch q⟩
    · obtain rfl := List.mem_singleton.mp hc
      exact hi.obj
  keep := fun i h h' st k => by
    obtain ⟨⟨old, he⟩, hi, hne⟩ := st
    exact ⟨⟨old, k e (by simp) _ he⟩, hi.at fun o q => k it (by simp) o q, hne⟩
  item := by
    intro X hP hw hK hc i pins s σ H E I hf st hg
    subst hP hw hK
    obtain ⟨⟨old, he⟩, hit, hne⟩ := st
    obtain ⟨xs, x, hq, hx⟩ := hg
    obtain ⟨its, rv, tp⟩ := sqB_at I hq
    obtain ⟨u, hu, ru⟩ := rv.get hx
    have below_e : e < s.heap.objs.size := Heap.lt_size he
    have below_i : it < s.heap.objs.size := hit.lt
    have il : i < its.toArray.size := by
      rw [List.size_toArray]
      exact (List.getElem?_eq_some_iff.mp hu).1
    refine wpAny_pyNext_enum_itemD (drawB b (show X.A.in1.handled = none from I.ok.hd hc) it a ne1 its.toArray) he ⟨hit, tp⟩ il hne (by simp [hne, ne2]) fun y h' tk hy ho st' hT hsz hk => ?_
    have ey : y = u := by
      have : its.toArray[i]? = some u := by simpa using hu
      rw [this] at hy
      exact (Option.some.inj hy).symm
    subst ey
    refine ⟨_, rfl, wpAny_letOwnedTupleGo_enum (s := { s with heap := h', toks := tk + 1 }) ho fun h'' he' sb => ?_⟩
    have hT2 : h''.get? s.heap.objs.size = some { cls := .type "tuple", data := .seq #[.int i tk, y] } := (sb.2 _ (Nat.ne_of_gt below_e)).trans hT
    have new : ObjOk X.prog X.w (upd H s.heap.objs.size (.tup [.int (i : Nat), x])) h'' s.heap.objs.size (.tup [.int (i : Nat), x]) :=
      ⟨by rw [sizeLine_eq]; show 2 ≤ 16777216; decide, [.int i tk, y], .cons ⟨_, rfl⟩ (.cons ru .nil), ⟨_, hT2, rfl, _, rfl⟩⟩
    have I1 : Inv X pins σ (upd H s.heap.objs.size (.tup [.int (i : Nat), x])) { s with heap := h'', toks := tk + 1 } :=
      I.turnedNew (ch := [e, it]) (fun c ob hb q => (sb.2 c (fun z => hb (by simp [z]))).trans (hk c ob (fun z => hb (by simp [z])) (fun z => hb (by simp [z])) q)) hf (Nat.le_refl _) new
    refine ⟨.ref s.heap.objs.size, _, I1, rfl, ⟨_, x, rfl, I.hok.fresh (Nat.le_refl _), rfl, fun ys hy2 => by rw [sqB_inj I hy2 hq]; exact hx⟩, ⟨⟨y, ?_⟩, st'.1.at fun o q => (sb.2 it (Ne.symm hne)).trans q, hne⟩, fun c hb => ?_⟩
    · rw [show ((i + 1 : Nat) : Int) = (i : Int) + 1 by omega]
      exact he'
    · have lt : c < s.heap.objs.size := by
        rcases List.mem_cons.mp hb with rfl | hb
        · exact below_e
        · obtain rfl := List.mem_singleton.mp hb
          exact below_i
      rw [upd_ne (Nat.ne_of_lt lt)]
      exact (hf c hb).1
  done := by
    intro X hP hw hK hc i pins s σ H E I hf st hg
    subst hP hw hK
    obtain ⟨⟨old, he⟩, hit, hne⟩ := st
    obtain ⟨xs, hq, hx⟩ := hg
    obtain ⟨its, rv, tp⟩ := sqB_at I hq
    obtain ⟨f0, f1, f2, f3, f4, f5⟩ := hf it (by simp)
    have hl := rv.length
    have hn : i = its.toArray.size := by rw [List.size_toArray]; omega
    exact wpAny_pyNext_enum_endD (drawB b (show X.A.in1.handled = none from I.ok.hd hc) it a ne1 its.toArray) he (hn ▸ ⟨hit, tp⟩) fun h' eb => ⟨rfl, I.turned (t' := s.toks) (fun c o hb q => eb c o hb q) f0 f1 f3 f4 f5⟩
  self := fun A i s Q E st h => by
    obtain ⟨⟨_, he⟩, _⟩ := st
    exact wpAny_pyIter_enum he h
def iEnumB (K : PySem.W.Frag) (ta : TA) : TI := fun σ H R => ta σ H fun vs H1 => ∃ a xs b, vs = [.ref a] ∧ SqB K b H1 a xs ∧ R (ItE K b a) H1
theorem pi_enumB {X : Cx} {e : Expr} {ta : TA} {p pos tpos : Pos} {elts : List Expr} {kk : Nat} (hg : Gl X "enumerate") (hm : X.mg "enumerate" = none) (ha : PA X [e] ta) (hs : starEach [e] X.env = [(false, eval e X.env)] := by rfl) :
    PI X (.Tuple elts kk tpos) (.Call (.Name "enumerate" p) [e] [] pos) (iEnumB X.K ta) := by
  refine ⟨fun pins s σ H R I h => ?_⟩
  refine Call_ (ld_blt I hg hm boot_enumerate (PyProof.Rows.callWith_type1 (thn (ha.run pos pins s σ H _ I h) fun us s1 ⟨vs, H1, I1, r1, q1⟩ => ?_) hs rfl))
  obtain ⟨a, xs, b, ex, hq, q⟩ := q1
  subst ex
  cases r1 with
  | cons r rr =>
    cases rr
    cases r
    obtain ⟨its, rv, st⟩ := sqB_at I1 hq
    have al := st.lt
    refine callEnum (begB b a its.toArray) st fun h' he hit hsz hk => wpAny_pyIter_enum he ?_
    have I2 : Inv X pins σ H1 { s1 with heap := h' } := I1.kept (t' := s1.toks) hk
    refine ⟨s1.heap.objs.size + 1, [s1.heap.objs.size + 1, s1.heap.objs.size], _, _, H1, rfl, I2, turnE (a := a) (Nat.ne_of_lt al) (Nat.ne_of_gt (Nat.lt_succ_of_lt al)), ⟨⟨.none, he⟩, itB_new hit, Nat.succ_ne_self _⟩, fun c hb => ?_, q⟩
    have e' : c = s1.heap.objs.size + 1 ∨ c = s1.heap.objs.size := by simpa using hb
    have hle : s1.heap.objs.size ≤ c := by
      rcases e' with z | z
      · rw [z]; exact Nat.le_add_right _ _
      · rw [z]; exact Nat.le_refl _
    exact I1.fpOk hle (I1.hok.fresh hle)
theorem walkE {K : PySem.W.Frag} {b : Bool} {a : Addr} {xs : List V} : L2.Walk (ItE K b a) xs.length (fun H => SqB K b H a xs) (YPair (fun i => some (.int (i : Nat))) (fun i => xs[i]?)) := by
  refine ⟨fun i _ hi q => ⟨xs, xs[i], q, by simp [hi]⟩, fun _ q => ⟨xs, q, rfl⟩, fun i H v H' _ q y => ?_⟩
  obtain ⟨T, x, h1, h2, h3, h4⟩ := y
  exact ⟨T, .int (i : Nat), x, h1, h2, h3, rfl, h4 xs q⟩
/-! ### zip -/
def ItZ (K : PySem.W.Frag) (b1 b2 : Bool) (a1 a2 : Addr) : It :=
  ⟨fun i H => ∃ (xs ys : List V) (x y : V), SqB K b1 H a1 xs ∧ SqB K b2 H a2 ys ∧ xs[i]? = some x ∧ ys[i]? = some y,
    fun i H v H' => ∃ T x y, v = .ref T ∧ H T = none ∧ H' = upd H T (.tup [x, y]) ∧ (∀ xs, SqB K b1 H a1 xs → xs[i]? = some x) ∧ ∀ ys, SqB K b2 H a2 ys → ys[i]? = some y,
    fun i H => ∃ xs ys : List V, SqB K b1 H a1 xs ∧ SqB K b2 H a2 ys ∧ i = min xs.length ys.length⟩
theorem turnZ {P : Program} {w : World} {K : PySem.W.Frag} {elts : List Expr} {kk : Nat} {tpos : Pos} {b1 b2 : Bool} {a1 a2 z TI TO i1 i2 : Addr} (D : ZipSep2 z TI TO i1 i2 [i1, a1] [i2, a2]) (n1 : a1 ≠ i1) (n2 : a2 ≠ i2) :
    Turn P w K (.Tuple elts kk tpos) (ItZ K b1 b2 a1 a2) [z, TI, TO, i1, i2] z (fun i h => IsZip h z TI TO .none ∧ IsTupOf2 h TI (.ref i1) (.ref i2) ∧ (∃ x y, IsTupOf2 h TO x y) ∧ ItB b1 h i1 a1 i ∧ ItB b2 h i2 a2 i) where
  mem := by simp
  obj := fun i h st c hc => by
    obtain ⟨hz, hTI, ⟨x, y, hTO⟩, h1, h2⟩ := st
    have e' : c = z ∨ c = TI ∨ c = TO ∨ c = i1 ∨ c = i2 := by simpa using hc
    rcases e' with q | q | q | q | q
    · rw [q]; exact ⟨_, hz, fun v q => nomatch q⟩
    · rw [q]; exact ⟨_, hTI, fun v q => nomatch q⟩
    · rw [q]; exact ⟨_, hTO, fun v q => nomatch q⟩
    · rw [q]; exact h1.obj
    · rw [q]; exact h2.obj
  keep := fun i h h' st k => by
    obtain ⟨hz, hTI, ⟨x, y, hTO⟩, h1, h2⟩ := st
    exact ⟨k z (by simp) _ hz, k TI (by simp) _ hTI, ⟨x, y, k TO (by simp) _ hTO⟩, h1.at fun o q => k i1 (by simp) o q, h2.at fun o q => k i2 (by simp) o q⟩
  item := by
    intro X hP hw hK hc i pins s σ H E I hf st hg
    subst hP hw hK
    obtain ⟨hz, hTI, ⟨x0, y0, hTO⟩, h1, h2⟩ := st
    obtain ⟨xs, ys, x, y, hqx, hqy, hx, hy⟩ := hg
    obtain ⟨its, rv, p⟩ := sqB_at I hqx
    obtain ⟨its2, rv2, p2⟩ := sqB_at I hqy
    obtain ⟨u, hu, ru⟩ := rv.get hx
    obtain ⟨u2, hu2, ru2⟩ := rv2.get hy
    have hzl : z < s.heap.objs.size := Heap.lt_size hz
    have l1 : i < its.toArray.size := by rw [List.size_toArray]; exact (List.getElem?_eq_some_iff.mp hu).1
    have l2 : i < its2.toArray.size := by rw [List.size_toArray]; exact (List.getElem?_eq_some_iff.mp hu2).1
    have hh : X.A.in1.handled = none := I.ok.hd hc
    refine wpAny_pyNext_zipD2_item D (drawB b1 hh i1 a1 n1 its.toArray) (drawB b2 hh i2 a2 n2 its2.toArray) hz hTI hTO ⟨h1, p⟩ ⟨h2, p2⟩ l1 l2 fun y1 y2 h' tk r1 r2 z' TO' st1 st2 hT hsz hk => ?_
    have e1 : y1 = u := by
      have : its.toArray[i]? = some u := by simpa using hu
      rw [this] at r1
      exact (Option.some.inj r1).symm
    have e2 : y2 = u2 := by
      have : its2.toArray[i]? = some u2 := by simpa using hu2
      rw [this] at r2
      exact (Option.some.inj r2).symm
    subst e1 e2
    refine ⟨_, rfl, wpAny_letOwnedTupleGo_zip (s := { s with heap := h', toks := tk }) z' fun h'' z'' sb => ?_⟩
    have hT2 : h''.get? s.heap.objs.size = some { cls := .type "tuple", data := .seq #[y1, y2] } := (sb.2 _ (Nat.ne_of_gt hzl)).trans hT
    have new : ObjOk X.prog X.w (upd H s.heap.objs.size (.tup [x, y])) h'' s.heap.objs.size (.tup [x, y]) :=
      ⟨by rw [sizeLine_eq]; show 2 ≤ 16777216; decide, [y1, y2], .cons ru (.cons ru2 .nil), ⟨_, hT2, rfl, _, rfl⟩⟩
    have I1 : Inv X pins σ (upd H s.heap.objs.size (.tup [x, y])) { s with heap := h'', toks := tk } :=
      I.turnedNew (t' := tk) (ch := [z, TI, TO, i1, i2]) (fun c o hb q => (sb.2 c (fun q' => hb (by simp [q']))).trans (hk c o (fun q' => hb (by simp [q'])) (fun q' => hb (by simp [q'])) (fun q' => hb (by simp [q'])) (fun q' => hb (by simp [q'])) q)) hf (Nat.le_refl _) new
    refine ⟨.ref s.heap.objs.size, _, I1, rfl, ⟨_, x, y, rfl, I.hok.fresh (Nat.le_refl _), rfl, fun l hl => by rw [sqB_inj I hl hqx]; exact hx, fun l hl => by rw [sqB_inj I hl hqy]; exact hy⟩, ⟨z'', ?_, ⟨y1, y2, ?_⟩, ?_, ?_⟩, fun c hcm => ?_⟩
    · exact (sb.2 _ D.TIz).trans (hk _ _ D.TIz D.TITO D.TIi1 D.TIi2 hTI)
    · exact (sb.2 _ D.TOz).trans TO'
    · exact st1.1.at fun o q => (sb.2 _ (Ne.symm D.zi1)).trans q
    · exact st2.1.at fun o q => (sb.2 _ (Ne.symm D.zi2)).trans q
    · have hlt : c < s.heap.objs.size := by
        have e' : c = z ∨ c = TI ∨ c = TO ∨ c = i1 ∨ c = i2 := by simpa using hcm
        rcases e' with q | q | q | q | q
        · rw [q]; exact hzl
        · rw [q]; exact Heap.lt_size hTI
        · rw [q]; exact Heap.lt_size hTO
        · rw [q]; exact h1.lt
        · rw [q]; exact h2.lt
      rw [upd_ne (Nat.ne_of_lt hlt)]
      exact (hf c hcm).1
  done := by
    intro X hP hw hK hc i pins s σ H E I hf st hg
    subst hP hw hK
    obtain ⟨hz, hTI, ⟨x0, y0, hTO⟩, h1, h2⟩ := st
    obtain ⟨xs, ys, hqx, hqy, hend⟩ := hg
    obtain ⟨its, rv, p⟩ := sqB_at I hqx
    obtain ⟨its2, rv2, p2⟩ := sqB_at I hqy
    have l1 := rv.length
    have l2 := rv2.length
    have hh : X.A.in1.handled = none := I.ok.hd hc
    have s1 : its.toArray.size = xs.length := by rw [List.size_toArray]; omega
    have s2 : its2.toArray.size = ys.length := by rw [List.size_toArray]; omega
    exact wpAny_pyNext_zipD2_end D (drawB b1 hh i1 a1 n1 its.toArray) (drawB b2 hh i2 a2 n2 its2.toArray) hz hTI hTO ⟨h1, p⟩ ⟨h2, p2⟩ (by omega) (by omega) (by omega) fun h' tk hk => ⟨rfl, I.turnedL (t' := tk) (ch := [z, TI, TO, i1, i2]) (fun c o hb q =>
      hk c o (fun q' => hb (by simp [q'])) (fun q' => hb (by simp [q'])) (fun q' => hb (by simp [q'])) (fun q' => hb (by simp [q'])) q) hf⟩
  self := fun A i s Q E st h => wpAny_pyIter_zip st.1 h
def iZipB (K : PySem.W.Frag) (ta : TA) : TI := fun σ H R => ta σ H fun vs H1 => ∃ a1 a2 xs ys b1 b2, vs = [.ref a1, .ref a2] ∧ SqB K b1 H1 a1 xs ∧ SqB K b2 H1 a2 ys ∧ R (ItZ K b1 b2 a1 a2) H1
theorem nin2 {a b c : Nat} (h1 : a ≠ b) (h2 : a ≠ c) : a ∉ [b, c] := by simp [h1, h2]
theorem sep_new {n a1 a2 : Nat} (h1 : a1 < n) (h2 : a2 < n) : ZipSep2 (n + 4) (n + 2) (n + 3) n (n + 1) [n, a1] [n + 1, a2] :=
  ⟨show n + 2 ≠ n + 4 by omega, show n + 3 ≠ n + 4 by omega, show n + 2 ≠ n + 3 by omega, show n + 2 ≠ n by omega, List.mem_cons_self .., nin2 (by omega) (by omega), nin2 (by omega) (by omega),
    show n + 2 ≠ n + 1 by omega, List.mem_cons_self .., nin2 (by omega) (by omega), nin2 (by omega) (by omega), nin2 (by omega) (by omega), nin2 (by omega) (by omega)⟩
theorem pi_zipB {X : Cx} {e e2 : Expr} {ta : TA} {p pos tpos : Pos} {elts : List Expr} {kk : Nat} (hg : Gl X "zip") (hm : X.mg "zip" = none) (ha : PA X [e, e2] ta)
    (hs : starEach [e, e2] X.env = (false, eval e X.env) :: starEach [e2] X.env := by rfl) (hpl : (backTo pos (starEach [e2] X.env)).any (·.1) = false := by rfl) :
    PI X (.Tuple elts kk tpos) (.Call (.Name "zip" p) [e, e2] [] pos) (iZipB X.K ta) := by
  refine ⟨fun pins s σ H R I h => ?_⟩
  refine Call_ (ld_blt I hg hm PyProof.Rows.boot_zip (PyProof.Rows.callWith_type1 (thn (ha.run pos pins s σ H _ I h) fun us s1 ⟨vs, H1, I1, r1, q1⟩ => ?_) hs hpl))
  obtain ⟨a1, a2, xs, ys, b1, b2, ex, hqx, hqy, q⟩ := q1
  subst ex
  cases r1 with
  | cons r rr =>
    cases rr with
    | cons r' rr =>
      cases rr
      cases r
      cases r'
      obtain ⟨its, rv, p1⟩ := sqB_at I1 hqx
      obtain ⟨its2, rv2, p2⟩ := sqB_at I1 hqy
      refine zip_begins2 (begB b1 a1 its.toArray) (begB b2 a2 its2.toArray) p1 p2 fun h' hz hTI hTO h1 h2 hsz hk => wpAny_pyIter_zip hz ?_
      have I2 : Inv X pins σ H1 { s1 with heap := h' } := I1.kept (t' := s1.toks) hk
      refine ⟨s1.heap.objs.size + 4, [s1.heap.objs.size + 4, s1.heap.objs.size + 2, s1.heap.objs.size + 3, s1.heap.objs.size, s1.heap.objs.size + 1], _, _, H1, rfl, I2, turnZ (sep_new p1.lt p2.lt) (Nat.ne_of_lt p1.lt) (Nat.ne_of_lt (Nat.lt_succ_of_lt p2.lt)), ⟨hz, hTI, ⟨_, _, hTO⟩, itB_new h1, itB_new h2⟩, fun c hcm => ?_, q⟩
      have e' : c = s1.heap.objs.size + 4 ∨ c = s1.heap.objs.size + 2 ∨ c = s1.heap.objs.size + 3 ∨ c = s1.heap.objs.size ∨ c = s1.heap.objs.size + 1 := by simpa using hcm
      have hle : s1.heap.objs.size ≤ c := by
        rcases e' with z | z | z | z | z <;> rw [z] <;> first | exact Nat.le_refl _ | exact Nat.le_add_right _ _
      exact I1.fpOk hle (I1.hok.fresh hle)
theorem walkZ {K : PySem.W.Frag} {b1 b2 : Bool} {a1 a2 : Addr} {xs ys : List V} : L2.Walk (ItZ K b1 b2 a1 a2) (min xs.length ys.length) (fun H => SqB K b1 H a1 xs ∧ SqB K b2 H a2 ys) (YPair (fun i => xs[i]?) (fun i => ys[i]?)) := by
  refine ⟨fun i _ hi q => ?_, fun _ q => ⟨xs, ys, q.1, q.2, rfl⟩, fun i H v H' _ q y => ?_⟩
  · have h1 : i < xs.length := by omega
    have h2 : i < ys.length := by omega
    exact ⟨xs, ys, xs[i], ys[i], q.1, q.2, by simp [h1], by simp [h2]⟩
  · obtain ⟨T, x, z, h1, h2, h3, h4, h5⟩ := y
    exact ⟨T, x, z, h1, h2, h3, h4 xs q.1, h5 ys q.2⟩
/-! ### over trees -/
def enumV : Int → List Val → List Val
  | _, [] => []
  | k, x :: xs => .tup [.int k, x] :: enumV (k + 1) xs
def zipV : List Val → List Val → List Val
  | x :: xs, y :: ys => .tup [x, y] :: zipV xs ys
  | _, _ => []
theorem enumV_len : ∀ (k : Int) (xs : List Val), (enumV k xs).length = xs.length
  | _, [] => rfl
  | k, _ :: xs => congrArg Nat.succ (enumV_len (k + 1) xs)
theorem zipV_len : ∀ (xs ys : List Val), (zipV xs ys).length = min xs.length ys.length
  | [], ys => by simp [zipV]
  | _ :: _, [] => by simp [zipV]
  | _ :: xs, _ :: ys => by simp only [zipV, List.length_cons, zipV_len xs ys]; omega
theorem enumV_get : ∀ {xs : List Val} {k : Int} {i : Nat} {v : Val}, (enumV k xs)[i]? = some v → ∃ x, xs[i]? = some x ∧ v = .tup [.int (k + i), x]
  | [], k, i, v, h => by simp [enumV] at h
  | x :: xs, k, 0, v, h => by
    simp only [enumV, List.getElem?_cons_zero, Option.some.injEq] at h
    exact ⟨x, rfl, by rw [← h]; simp⟩
  | x :: xs, k, i + 1, v, h => by
    simp only [enumV, List.getElem?_cons_succ] at h ⊢
    obtain ⟨y, h1, h2⟩ := enumV_get h
    exact ⟨y, h1, by rw [h2, show k + 1 + (i : Int) = k + ((i + 1 : Nat) : Int) by omega]⟩
theorem zipV_get : ∀ {xs ys : List Val} {i : Nat} {v : Val}, (zipV xs ys)[i]? = some v → ∃ x y, xs[i]? = some x ∧ ys[i]? = some y ∧ v = .tup [x, y]
  | [], ys, i, v, h => by simp [zipV] at h
  | _ :: _, [], i, v, h => by simp [zipV] at h
  | x :: xs, y :: ys, 0, v, h => by
    simp only [zipV, List.getElem?_cons_zero, Option.some.injEq] at h
    exact ⟨x, y, rfl, rfl, h.symm⟩
  | x :: xs, y :: ys, i + 1, v, h => by
    simp only [zipV, List.getElem?_cons_succ] at h ⊢
    exact zipV_get h
/-- what stands where for ever: a list or a tuple -/
def FxB (K : PySem.W.Frag) (F : Hp) : Bool → Addr → List V → Prop
  | true, a, us => Rd F a (.lst us)
  | false, a, us => SqT K F a us
theorem FxB.sq {K : PySem.W.Frag} {F H : Hp} {b : Bool} {a : Addr} {us : List V} (h : FxB K F b a us) (s : Same F H) : SqB K b H a us := by
  cases b
  · exact sqT_mono s h
  · exact Or.inl (rd_mono s h)
def seqV : Val → Option (List Val)
  | .lst xs => some xs
  | .tup xs => some xs
  | _ => none
theorem seqV_fx {K : PySem.W.Frag} {F : Hp} {v : Val} {u : V} {xs : List Val} (h : VR K F v u) (q : seqV v = some xs) : ∃ a us b, u = .ref a ∧ FxB K F b a us ∧ VRs K F xs us := by
  cases h with
  | tup h1 h2 => cases q; exact ⟨_, _, false, rfl, h1, h2⟩
  | lst h1 h2 => cases q; exact ⟨_, _, true, rfl, h1, h2⟩
  | _ => cases q
section
variable {K : PySem.W.Frag} {B : Bg} {F H : Hp} {e : Ev} {σ : Sig}
theorem pair_new {B1 : Bg} {F1 H1 : Hp} {e1 : Ev} {σ1 : Sig} {T : Addr} {x y : Val} {u w : V} (C : Cur K B1 F1 H1 e1 σ1) (hT : H1 T = none) (h1 : VR K F1 x u) (h2 : VR K F1 y w) :
    ∃ F', Cur K B1 F' (upd H1 T (.tup [u, w])) e1 σ1 ∧ Same F1 F' ∧ VR K F' (.tup [x, y]) (.ref T) := by
  obtain ⟨C2, s, e⟩ := C.growF (o := .tup [u, w]) hT
  exact ⟨_, C2, s, .tup (.inl (.inl e)) (.cons (h1.mono s) (.cons (h2.mono s) .nil))⟩
theorem ri_enum {xs : List Val} {a : Addr} {us : List V} {b : Bool} (h1 : FxB K F b a us) (h2 : VRs K F xs us) : RI K B F H e σ (enumV 0 xs) (ItE K b a) := by
  have e1 := h2.length
  refine ⟨_, _, by rw [enumV_len, e1]; exact walkE (K := K) (b := b) (a := a) (xs := us), fun H s => h1.sq s, ?_⟩
  rintro i v B1 F1 H1 e1 σ1 x H' hv C s ⟨T, k, y, rfl, hT, rfl, hk, hy⟩
  obtain ⟨w, h3, rfl⟩ := enumV_get hv
  obtain ⟨w', h4, h5⟩ := h2.get' hy
  rw [h3] at h4; cases h4
  cases hk
  rw [show (0 : Int) + (i : Nat) = (i : Nat) by omega]
  exact pair_new C hT (.int _) (h5.mono s)
theorem ri_zip {xs ys : List Val} {a1 a2 : Addr} {us ws : List V} {b1 b2 : Bool} (h1 : FxB K F b1 a1 us) (h2 : VRs K F xs us) (h3 : FxB K F b2 a2 ws) (h4 : VRs K F ys ws) : RI K B F H e σ (zipV xs ys) (ItZ K b1 b2 a1 a2) := by
  have e1 := h2.length
  have e2 := h4.length
  refine ⟨fun H => SqB K b1 H a1 us ∧ SqB K b2 H a2 ws, _, by rw [zipV_len, e1, e2]; exact walkZ (K := K) (b1 := b1) (b2 := b2) (a1 := a1) (a2 := a2) (xs := us) (ys := ws), fun H s => ⟨h1.sq s, h3.sq s⟩, ?_⟩
  rintro i v B1 F1 H1 e1 σ1 x H' hv C s ⟨T, y, z, rfl, hT, rfl, hy, hz⟩
  obtain ⟨p, q, h5, h6, rfl⟩ := zipV_get hv
  obtain ⟨p', h7, h8⟩ := h2.get' hy
  rw [h5] at h7; cases h7
  obtain ⟨q', h9, h10⟩ := h4.get' hz
  rw [h6] at h9; cases h9
  exact pair_new C hT (h8.mono s) (h10.mono s)
end
def mEnum (m : M RV) : M (List Val) := m.bind fun r => (M.dt r).bind fun v => match seqV v with
  | some xs => M.ret (enumV 0 xs)
  | none => M.bad
def mZip (as : M (List RV)) : M (List Val) := as.bind fun rs => (M.dts rs).bind fun vs => match vs with
  | [v, w] => match seqV v, seqV w with
    | some xs, some ys => M.ret (zipV xs ys)
    | _, _ => M.bad
  | _ => M.bad
section
variable {X : Cx} {W : WX} {a b : Expr} {ma : M RV} {ms : M (List RV)} {p pos tpos : Pos} {elts : List Expr} {kk : Nat}
theorem si_enum (gl : Gl X "enumerate") (fr : X.mg "enumerate" = none) (ha : SE X W a ma) (hs : starEach [a] X.env = [(false, eval a X.env)] := by rfl) : SI X W (.Tuple elts kk tpos) (.Call (.Name "enumerate" p) [a] [] pos) (mEnum ma) := by
  refine PI.imp (pi_enumB gl fr (sa_cons ha sa_nil hs) hs) fun σ H R h => ?_
  obtain ⟨np, F, e, Rl, h⟩ := h
  refine sa_1 (Cur.refl Rl) h fun r e1 F1 H1 x C1 q1 h1 => ?_
  obtain ⟨F2, e2, v, C2, s2, r2, h2, _⟩ := At.dt C1 q1 h1
  cases q : seqV v with
  | none => rw [q] at h2; exact h2.elim
  | some xs =>
    rw [q] at h2
    obtain ⟨a, us, b, rfl, f, rs⟩ := seqV_fx r2 q
    exact ⟨a, us, b, rfl, f.sq C2.rel.sub, h2.ok rfl C2 (ri_enum f rs)⟩
theorem si_zip (gl : Gl X "zip") (fr : X.mg "zip" = none) (ha : SA X W [a, b] ms) (hs : starEach [a, b] X.env = (false, eval a X.env) :: starEach [b] X.env := by rfl) (hpl : (backTo pos (starEach [b] X.env)).any (·.1) = false := by rfl) :
    SI X W (.Tuple elts kk tpos) (.Call (.Name "zip" p) [a, b] [] pos) (mZip ms) := by
  refine PI.imp (pi_zipB gl fr ha hs hpl) fun σ H R h => ?_
  obtain ⟨np, F, e, Rl, h⟩ := h
  refine use (R1 := RRs X.K) (Cur.refl Rl) h fun rs e1 F1 H1 us C1 q1 _ h1 => ?_
  obtain ⟨F2, e2, vs, C2, s2, r2, h2⟩ := At.dts C1 q1 h1
  split at h2
  · rename_i v w
    cases r2 with
    | cons r3 r4 => cases r4 with
      | cons r5 r6 =>
        cases r6
        split at h2
        · rename_i xs ys qx qy
          obtain ⟨a1, u1, b1, rfl, f1, g1⟩ := seqV_fx r3 qx
          obtain ⟨a2, u2, b2, rfl, f2, g2⟩ := seqV_fx r5 qy
          exact ⟨a1, a2, u1, u2, b1, b2, rfl, f1.sq C2.rel.sub, f2.sq C2.rel.sub, h2.ok rfl C2 (ri_zip f1 g1 f2 g2)⟩
        · exact h2.elim
  · exact h2.elim
end
end Pu
set_option Elab.async false
set_option linter.all false
set_option maxRecDepth 100000
set_option maxHeartbeats 2000000
/-! Pu, part Z: stars in displays, chains of three, defaults, defs that call themselves. -/
namespace Pu
open PySem PySem.Spec PyProof.Rows L2
/-! ### *e among the items -/
def mStar (a : M RV) (r : M (List RV)) : M (List RV) := a.bind fun x => (M.dt x).bind fun v => match seqV v with
  | some xs => r.bind fun ys => M.ret (xs.map .dat ++ ys)
  | none => M.bad
section
variable {K : PySem.W.Frag} {W : WX} {B : Bg} {F H : Hp} {σ : Sig} {e : Ev}
theorem RRs.pre {ds : List Val} {dvs : List V} {rs : List RV} {us : List V} (g : VRs K F ds dvs) (h : RRs K B F H e σ rs us) : RRs K B F H e σ (ds.map .dat ++ rs) (dvs ++ us) := by
  induction ds generalizing dvs with
  | nil => cases g; exact h
  | cons d ds ih => cases g with
    | cons a b => exact .cons a (fun v z => nomatch z) (ih b)
end
section
variable {X : Cx} {W : WX} {a : Expr} {es : List Expr} {ma : M RV} {mr : M (List RV)} {p : Pos}
theorem sa_star (ha : SE X W a ma) (hr : SA X W es mr) (hs : starEach (.Starred a p :: es) X.env = (true, eval a X.env) :: starEach es X.env := by rfl) : SA X W (.Starred a p :: es) (mStar ma mr) := by
  refine PA.imp (StX.pa_star ha hr hs) fun σ H Q h => ?_
  obtain ⟨np, F, e, Rl, h⟩ := h
  refine use (R1 := RR X.K) (Cur.refl Rl) h fun r e1 F1 H1 x C1 q1 _ h1 => ?_
  obtain ⟨F2, e2, v, C2, s2, r2, h2, _⟩ := At.dt C1 q1 h1
  cases q : seqV v with
  | none => rw [q] at h2; exact h2.elim
  | some xs =>
    rw [q] at h2
    obtain ⟨a, us, b, rfl, f, rs⟩ := seqV_fx r2 q
    refine ⟨a, us, rfl, ?_, use (R1 := RRs X.K) C2 h2 fun ys e3 F3 H3 ws C3 q3 c3 h3 => h3.ok rfl C3 (RRs.pre (rs.mono c3.post.sub) q3)⟩
    have z := f.sq C2.rel.sub
    cases b
    · exact .inl z
    · exact .inr z
end
/-! ### a <= b <= c <= d, of ints -/
def asI (m : M RV) : M Int := m.bind fun r => (M.rd r).bind fun v => match v with
  | .int i => M.ret i
  | _ => M.bad
def mLe3 (a b c d : M RV) : M Bool := (asI a).bind fun i => (asI b).bind fun j => if i ≤ j then (asI c).bind fun k => if j ≤ k then (asI d).bind fun l => M.ret (decide (k ≤ l)) else M.ret false else M.ret false
section
variable {X : Cx} {W : WX} {a b c d : Expr} {ma mb mc md : M RV} {ta tb tc td : TE} {pos : Pos}
def tLe3 (ta tb tc td : TE) : TT := fun σ H Q => ta σ H fun x H1 => tb σ H1 fun y H2 => ∃ i j, x = V.int i ∧ y = V.int j ∧ if i ≤ j then tc σ H2 fun z H3 => ∃ k, z = V.int k ∧ if j ≤ k then td σ H3 fun w H4 => ∃ l, w = V.int l ∧ Q (decide (k ≤ l)) H4 else Q false H3 else Q false H2
theorem pt_le3 (ha : PE X a ta) (hb : PE X b tb) (hc : PE X c tc) (hd : PE X d td) (hm : lastMarks [.LtE, .LtE, .LtE] [b, c, d] = false := by with_unfolding_all rfl) : PT X (.Compare a [.LtE, .LtE, .LtE] [b, c, d] pos) (tLe3 ta tb tc td) := by
  refine ⟨fun pins s σ H Q I h => ?_⟩
  refine isTrue_chain (thn (ha.run pins s σ H _ I h) fun v s1 ⟨x, H1, I1, r1, q1⟩ => test_link (thn (hb.run pins s1 σ H1 _ I1 q1) fun u s2 ⟨y, H2, I2, r2, i, j, ex, ey, q2⟩ =>
    thn (op_le pins s2 σ H2 x y v u (fun z H' => H' = H2 ∧ z = .bl (decide (i ≤ j))) I2 r1 r2 ⟨i, j, ex, ey, rfl, rfl⟩) fun d3 s3 ⟨z, H3, I3, r3, eh, ez⟩ => ?_)) hm
  subst ez eh
  cases r3
  refine wpAny_truthy_bool ?_
  by_cases hij : i ≤ j
  · rw [if_pos hij] at q2
    rw [decide_eq_true hij]
    refine ite_tt (test_link (thn (hc.run pins s3 σ H3 _ I3 q2) fun w s4 ⟨z, H4, I4, r4, k, ez, q4⟩ => thn (op_le pins s4 σ H4 y z u w (fun z' H' => H' = H4 ∧ z' = .bl (decide (j ≤ k))) I4 r2 r4 ⟨j, k, ey, ez, rfl, rfl⟩) fun d5 s5 ⟨z5, H5, I5, r5, eh5, ez5⟩ => ?_))
    subst ez5 eh5
    cases r5
    refine wpAny_truthy_bool ?_
    by_cases hjk : j ≤ k
    · rw [if_pos hjk] at q4
      rw [decide_eq_true hjk]
      refine ite_tt (test_last (thn (hd.run pins s5 σ H5 _ I5 q4) fun w' s6 ⟨z6, H6, I6, r6, l, e6, q6⟩ => thn (op_le pins s6 σ H6 z z6 w w' (fun z' H' => H' = H6 ∧ z' = .bl (decide (k ≤ l))) I6 r4 r6 ⟨k, l, ez, e6, rfl, rfl⟩) fun d7 s7 ⟨z7, H7, I7, r7, eh7, ez7⟩ => ?_))
      subst ez7 eh7
      cases r7
      exact wpAny_truthy_bool ⟨H7, I7, q6⟩
    · rw [if_neg hjk] at q4
      rw [decide_eq_false hjk]
      exact ite_ff ⟨H5, I5, q4⟩
  · rw [if_neg hij] at q2
    rw [decide_eq_false hij]
    exact ite_ff ⟨H3, I3, q2⟩
theorem st_le3 (ha : SE X W a ma) (hb : SE X W b mb) (hc : SE X W c mc) (hd : SE X W d md) (hm : lastMarks [.LtE, .LtE, .LtE] [b, c, d] = false := by with_unfolding_all rfl) : ST X W (.Compare a [.LtE, .LtE, .LtE] [b, c, d] pos) (mLe3 ma mb mc md) := by
  refine PT.imp (pt_le3 ha hb hc hd hm) fun σ H Q h => ?_
  obtain ⟨np, F, e, Rl, h⟩ := h
  unfold mLe3 asI at h
  rw [M.bind_assoc] at h
  refine use (R1 := RR X.K) (Cur.refl Rl) h fun r1 e1 F1 H1 x C1 q1 _ h1 => ?_
  rw [M.bind_assoc] at h1
  obtain ⟨v, rv, h1⟩ := At.rd C1.rel q1 h1
  cases v with
  | int i =>
    rw [M.ret_bind, M.bind_assoc] at h1
    refine use (R1 := RR X.K) C1 h1 fun r2 e2 F2 H2 y C2 q2 _ h2 => ?_
    rw [M.bind_assoc] at h2
    obtain ⟨w, rw_, h2⟩ := At.rd C2.rel q2 h2
    cases w with
    | int j =>
      rw [M.ret_bind] at h2
      refine ⟨i, j, rv.int, rw_.int, ?_⟩
      by_cases hij : i ≤ j
      · rw [if_pos hij] at h2 ⊢
        rw [M.bind_assoc] at h2
        refine use (R1 := RR X.K) C2 h2 fun r3 e3 F3 H3 z C3 q3 _ h3 => ?_
        rw [M.bind_assoc] at h3
        obtain ⟨v3, rv3, h3⟩ := At.rd C3.rel q3 h3
        cases v3 with
        | int k =>
          rw [M.ret_bind] at h3
          refine ⟨k, rv3.int, ?_⟩
          by_cases hjk : j ≤ k
          · rw [if_pos hjk] at h3 ⊢
            rw [M.bind_assoc] at h3
            refine use (R1 := RR X.K) C3 h3 fun r4 e4 F4 H4 w4 C4 q4 _ h4 => ?_
            rw [M.bind_assoc] at h4
            obtain ⟨v4, rv4, h4⟩ := At.rd C4.rel q4 h4
            cases v4 with
            | int l => exact ⟨l, rv4.int, h4.ok rfl C4 rfl⟩
            | _ => exact h4.elim
          · rw [if_neg hjk] at h3 ⊢
            exact h3.ok rfl C3 rfl
        | _ => exact h3.elim
      · rw [if_neg hij] at h2 ⊢
        exact h2.ok rfl C2 rfl
    | _ => exact h2.elim
  | _ => exact h1.elim
end
/-! ### defaults -/
structure BindDf (d : He5.DefA) (ps : List Str) (c j : Nat) : Prop where
  ne : d.dfl ≠ []
  hn : c + (d.dfl.length - j) = ps.length
  all : ∀ (T : Addr) (kV doc pm : Value) (an : Option Addr) (cdv ct : Value) (us its : List Value), us.length = c → its.length = d.dfl.length →
    ∃ k, bindArgs (PySem.W.fnOf d.name d.qual d.params d.body d.scope (.ref T) kV doc pm an cdv ct) ⟨us, []⟩ = seqItems? (.ref T) >>= k ∧ k (some its.toArray) = pure (ps.zip (us ++ its.drop j))
/-- a tuple of the written part -/
def tupAt (K : PySem.W.Frag) (a : Addr) : Bool := match K.lookup a with
  | some o => o.cls == .type "tuple" && (match o.data with
    | .seq its _ => its.isEmpty
    | _ => false)
  | _ => false
section
variable {P : Program} {w : World} {K : PySem.W.Frag} {mg : Str → Option Value} {base : Heap} {k n c j : Nat} {d : He5.DefA} {ps : List Str} {m : M RV}
theorem tupAt_ok {a : Addr} (h : tupAt K a = true) (F : Hp) : SqT K F a [] := by
  unfold tupAt at h
  split at h
  · rename_i o e
    rw [Bool.and_eq_true] at h
    obtain ⟨h1, h2⟩ := h
    split at h2
    · rename_i its n e2
      have e3 : its = #[] := Array.isEmpty_iff.mp h2
      subst e3
      exact .inr ⟨o, #[], n, e, eq_of_beq h1, e2, by simp [sizeLine_eq], .nil⟩
    · cases h2
  · cases h
theorem FnB.partsDf (B : FnB P w K mg base k d ps n m) (bd : BindDf d ps c j) : ∃ fd ds, FnG P w K mg base k (d.at_ K) fd ps (spG K n m) ∧ Vals ((d.dvs K).drop j) ds ∧ Binds K fd ps ds ∧ PySem.W.keepIn K (.ref (d.at_ K)) = true := by
  obtain ⟨fd, D, F⟩ := B.ex
  have len : (d.dvs K).length = d.dfl.length := by unfold He5.DefA.dvs; rw [List.length_map]
  have ne : d.dvs K ≠ [] := fun z => bd.ne (List.map_eq_nil_iff.mp z)
  obtain ⟨ds, v, b⟩ := D.binds1 c j ne (by rw [len]; exact bd.hn) fun T kV doc pm an cdv ct us its h1 h2 => bd.all T kV doc pm an cdv ct us its h1 (by rw [h2, len])
  exact ⟨fd, ds, F, v, b, D.kp⟩
/-- nothing is promised -/
theorem fnB_bad (D : ∃ fd, FunD K d.name d.qual d.params d.body d.scope (d.dvs K) (d.kws K) (d.at_ K) fd) (hn : ps.length = n) : FnB P w K mg base k d ps n M.bad := by
  obtain ⟨fd, D⟩ := D
  refine ⟨fd, D, ⟨fun vs H Q E h => h.1.trans hn.symm, fun A outer s H args us vs Q E _ _ _ _ _ h => ?_⟩⟩
  obtain ⟨_, _, _, _, _, h⟩ := h
  exact h.elim
end
section
variable {X : Cx} {W : WX} {k n c j : Nat} {d : He5.DefA} {ps : List Str} {x : Str} {p pos : Pos} {e : Expr} {es : List Expr} {mf : M RV} {mr : M (List RV)} {dl : List Val}
theorem se_callDf (ms : List Bool) (B : FnB X.prog X.w X.K X.mg X.base k d ps n mf) (bd : BindDf d ps c j) (vc : VC X.K dl ((d.dvs X.K).drop j)) (G : Good X k W) (gl : Gl X x) (at_ : X.mg x = some (.ref (d.at_ X.K))) (ha : SA X W (e :: es) mr) (hn : ms.length = n := by rfl) (n1 : (x == ("__debug__" : Str)) = false := by decide)
    (n2 : starEach (e :: es) X.env = (false, eval e X.env) :: starEach es X.env := by rfl) (n3 : (backTo pos (starEach es X.env)).any (·.1) = false := by rfl) : SE X W (.Call (.Name x p) (e :: es) [] pos) (mCall ms mf mr dl) := by
  obtain ⟨fd, ds, F, v, hb, kp⟩ := B.partsDf bd
  exact se_call ms F G gl at_ kp hb v vc ha hn n1 n2 n3
end
/-! ### several names at once, four or more -/
inductive NmL (X : Cx) : List Nat → List Expr → Prop
  | nil : NmL X [] []
  | cons {i : Nat} {x : Str} {is : List Nat} {es : List Expr} {pos : Pos} : X.N[i]? = some x → Loc X.env.scope x → (X.fn x = true ∨ X.env.scope.names.lookup x = some .local) → NmL X is es → NmL X (i :: is) (.Name x pos :: es)
theorem nm_nil {X : Cx} : NmL X [] [] := .nil
theorem nm_cons {X : Cx} (i : Nat) {x : Str} {is : List Nat} {es : List Expr} {pos : Pos} (r : NmL X is es) (hi : X.N[i]? = some x := by rfl) (hx : Loc X.env.scope x := by first | exact Or.inl rfl | exact Or.inr rfl) (hf : X.fn x = true ∨ X.env.scope.names.lookup x = some .local := by first | exact .inl rfl | exact .inr rfl) : NmL X (i :: is) (.Name x pos :: es) := .cons hi hx hf r
theorem nm_pgs {X : Cx} (nd : X.N.Nodup) {is : List Nat} {es : List Expr} (h : NmL X is es) : PGs X es (fun us σ H Q => us.length = is.length ∧ Q (setsS is us σ) H) := by
  induction h with
  | nil =>
    refine PGs.imp pgs_nil fun us σ H Q ⟨h1, h2⟩ => ?_
    cases us with
    | nil => exact ⟨rfl, h2⟩
    | cons u us => cases h1
  | cons hi hx hf r ih =>
    refine PGs.imp (pgs_cons (pg_name nd hi hx hf) ih) fun us σ H Q ⟨h1, h2⟩ => ?_
    cases us with
    | nil => cases h1
    | cons u us => exact ⟨u, us, rfl, by simpa using h1, h2⟩
section
variable {X : Cx} {W : WX} {np k kt : Nat} {es tgs : List Expr} {ms : M (List RV)} {pt pos : Pos}
theorem ss_parN (is : List Nat) (p : Bool) {k2 pt2} (G : Good X k W) (ha : SA X W es ms) (hn : NmL X is tgs) (hp : p = true ∨ ∀ n ∈ is, np ≤ n := by decide)
    (len : (assignEach tgs X.env).length = is.length := by rfl) (hst : (assignEach tgs X.env).findIdx? (·.1) = none := by rfl)
    (hs : swapsWithSole [.Tuple tgs kt pt] (.Tuple es k2 pt2) pos.line X.env = pure false := by rfl) (hw : swappedStores [.Tuple tgs kt pt] (.Tuple es k2 pt2) X.env = pure none := by rfl)
    (hz : is.length ≤ sizeLine := by rw [sizeLine_eq]; decide) :
    SS X W np (.Assign [.Tuple tgs kt pt] (.Tuple es k2 pt2) pos) (mPar p is ms) := by
  refine PS.imp (ps_asg (pe_tup ha) (pg_tup G.calm (nm_pgs G.nd hn) len hst) hs hw) fun D σ H h => ?_
  obtain ⟨F, e, R, h⟩ := h
  refine useX (R1 := RRs X.K) (Cur.refl R) h fun rs e1 F1 H1 us C1 q1 _ h1 => ?_
  by_cases hl : us.length = is.length
  · refine ⟨by rw [hl]; exact hz, fun a na => ⟨a, us, rfl, .inl (.inl upd_same), hl, ?_⟩⟩
    obtain ⟨C2, _, _, _⟩ := C1.grow (o := .tup us) na
    exact par_ok hp C2 (q1.grow na) h1
  · exfalso
    have l := q1.length
    rw [if_neg (by omega)] at h1
    exact h1.elim
end
end Pu
set_option Elab.async false
set_option linter.all false
set_option maxRecDepth 100000
set_option maxHeartbeats 3200000
/-! Pu, part Zs: the set of a list of whole numbers, sorted. -/
namespace Pu
open PySem PySem.Spec PyProof.Rows L2
/-- a set as it begins -/
abbrev bareSet (w : World) : Obj := { cls := .type "set", dict := none, data := .set #[] 0 (.fresh 0 0 (!w.params.followText "set-order")) }
section
variable {P : Program} {w : World} {A : Around} {E : Value → Shared → Prop} {s : Shared}
theorem setOfList {l : Addr} {vs : Array Value} (ns : List Int) {Q : Value → Shared → Prop} (quiet : A.handled = none) (src : s.heap.IsList l vs) (whole : IntsAre vs.toList ns) (few : ns.length + 1 < scanBound)
    (goal : ∀ (h' : Heap) (tk c : Nat), SetR w h' s.heap.objs.size (fun j => decide (j ∈ ns)) c → c ≤ ns.length → (∀ b o, s.heap.get? b = some o → h'.get? b = some o) → Q (.ref s.heap.objs.size) { s with heap := h', toks := tk }) :
    wpAny (model P w) A (call (.type "set") [.ref l]) Q E s := by
  have many : vs.size = ns.length := by
    have q := IntsAre.length whole
    rwa [Array.length_toList] at q
  have ⟨c, tl, order⟩ := F.called_set.mro
  have a1 := F.called_set.made; have a2 := F.called_set.sub; have a3 := F.called_set.notType; have a4 := F.called_set.canCreate; have a5 := F.typeCall_set_1 (.ref l)
  refine wpAny_call (codeAny_of_tree (show wpAny _ _ (callAny (.type "set") _) _ _ _ from ?_))
  refine wpAny_pure ⟨Code.quiet_builtin _ (by decide +kernel), codeAny_builtin F.entry_type_call ?_⟩
  rw [Around.under_plain (weight_type_call_type "set" [.ref l] []) rfl]
  repeat (any_goals (first | assumption | wp_step))
  refine codeAny_mono (code_set_led1 (.ref l) (E := E) (Q₁ := fun obj s₁ => obj = .ref s.heap.objs.size ∧ s₁ = { s with heap := s.heap.push (bareSet w) }) ⟨rfl, rfl⟩) fun r s₁ hr => ?_
  match r, hr with
  | .error e, hr => exact hr
  | .ok .next, hr => exact hr.elim
  | .ok .brk, hr => exact hr.elim
  | .ok .cont, hr => exact hr.elim
  | .ok (.ret obj), hr =>
    obtain ⟨rfl, rfl⟩ := hr
    have here : (s.heap.push (bareSet w)).get? s.heap.objs.size = some (bareSet w) := Heap.get?_push_size _ rfl
    have kind : Shared.TypeIs { s with heap := s.heap.push (bareSet w) } (.ref s.heap.objs.size) "set" := ⟨_, here, rfl⟩
    have ⟨init1, init2⟩ := And.intro F.called_set.init.lookup (F.called_set.init.bind (.ref s.heap.objs.size))
    repeat (any_goals (first | assumption | wp_step))
    refine codeAny_mono (codeAny_call_builtin (R := wants (fun r s₂ => r = .none ∧ ∃ h' tk c, s₂ = { s with heap := h', toks := tk } ∧ SetR w h' s.heap.objs.size (fun j => decide (j ∈ ns)) c ∧ c ≤ ns.length ∧
        (∀ b o, s.heap.get? b = some o → h'.get? b = some o)) E) F.called_set.init.plain F.entry_set_init (check_set_init_1 kind ?_)) fun r₂ s₂ hr₂ => ?_
    · obtain ⟨⟨lc, ld, lv, ls⟩, at_l, isl, nl, val⟩ := src
      cases isl
      cases val
      have at_l2 : (s.heap.push (bareSet w)).get? l = some { cls := .type "list", dict := ld, data := .seq vs nl, slots := ls } := Heap.get?_push_of_some _ at_l
      have ⟨no1, no2⟩ := And.intro F.sub_list_set F.sub_list_frozenset
      have no3 : (Value.type "list" == Value.type "dict") = false := by decide
      have src2 : (s.heap.push (bareSet w)).IsList l vs := ⟨_, at_l2, rfl, nl, rfl⟩
      unfold Builtin.«set.__init__» noKeywords Builtin.Frozenset.updateFrom
      generalize hold : pyIter = it_
      wp_walk
      subst hold
      refine wpAny_pyIter_list src2 (wpAny_bind (wpAny_runValue ?_))
      have below : l < s.heap.objs.size := Heap.lt_size at_l
      have size1 : (s.heap.push (bareSet w)).objs.size = s.heap.objs.size + 1 := Heap.size_push ..
      have apart1 : l ≠ (s.heap.push (bareSet w)).objs.size := by rw [size1]; exact Nat.ne_of_lt (Nat.lt_succ_of_lt below)
      have apart2 : s.heap.objs.size ∉ [(s.heap.push (bareSet w)).objs.size, l] := by
        rw [size1]
        exact nin2 (Nat.ne_of_lt (Nat.lt_succ_self _)) (Nat.ne_of_gt below)
      refine set_update_ints ((Walks.list (show A.in1.in1.in1.handled = none by simp [quiet]) _ l apart1 vs).toS) s.heap.objs.size apart2 ns many few (fun i v hv => ?_) (vs.size - 0) 0 _ (by omega) (Nat.zero_le _)
        ⟨⟨_, Heap.get?_push_size _ rfl, rfl, rfl⟩, src2.push _⟩ ⟨0, Nat.le_refl 0, setR_new_at (Heap.get?_push_of_some _ here)⟩ fun s' c' moved le made => ?_
      · have lt : i < ns.length := by rw [← many]; exact (Array.getElem?_eq_some_iff.mp hv).1
        obtain ⟨t, e⟩ := PyProof.Rows.IntsAre.int_at whole i v (by rwa [Array.getElem?_toList])
        exact ⟨ns[i], t, List.getElem?_eq_getElem lt, by rw [e, List.getD_eq_getElem?_getD, List.getElem?_eq_getElem lt] <;> rfl⟩
      · obtain ⟨h', g2, d', tk', os'⟩ := s'
        have ⟨eg, ed, eo⟩ : g2 = s.gens ∧ d' = s.drawn ∧ os' = s.os := ⟨moved.gens, moved.drawn, moved.os⟩
        subst eg ed eo
        refine wpAny_pure (show wpAny _ _ (ret Value.none) _ _ _ from wpAny_pure ⟨rfl, h', tk', c', rfl, made, by rw [← many]; exact le, fun b o e => ?_⟩)
        have lt : b < s.heap.objs.size := Heap.lt_size e
        refine moved.heap b o ?_ (Heap.get?_push_of_some _ (Heap.get?_push_of_some _ e))
        rw [size1]
        exact nin2 (Nat.ne_of_lt lt) (Nat.ne_of_lt (Nat.lt_succ_of_lt lt))
    · match r₂, hr₂ with
      | .error e, hr => exact hr
      | .ok .next, hr => exact hr.elim
      | .ok .brk, hr => exact hr.elim
      | .ok .cont, hr => exact hr.elim
      | .ok (.ret r), hr =>
        obtain ⟨rfl, h', tk, c', rfl, m1, m2, m3⟩ := hr
        repeat (any_goals (first | assumption | wp_step))
        exact goal _ _ _ m1 m2 m3
end
end Pu
set_option Elab.async false
set_option linter.all false
set_option maxRecDepth 100000
set_option maxHeartbeats 2000000
/-! Pu, part Zt: sorted lists of whole numbers, list(range). -/
namespace Pu
open PySem PySem.Spec PyProof.Rows L2
/-! ### sorted without and with equal ones -/
def insU (x : Int) : List Int → List Int
  | [] => [x]
  | y :: r => if x < y then x :: y :: r else if x = y then y :: r else y :: insU x r
def sortU : List Int → List Int
  | [] => []
  | x :: r => insU x (sortU r)
def insI (x : Int) : List Int → List Int
  | [] => [x]
  | y :: r => if x ≤ y then x :: y :: r else y :: insI x r
def sortI : List Int → List Int
  | [] => []
  | x :: r => insI x (sortI r)
theorem insU_mem {x k : Int} : ∀ {l : List Int}, k ∈ insU x l ↔ k = x ∨ k ∈ l
  | [] => by simp [insU]
  | y :: r => by
    unfold insU
    split
    · simp
    · split
      · rename_i h; subst h; simp
      · simp only [List.mem_cons, insU_mem (l := r)]
        constructor
        · rintro (h | h | h)
          · exact .inr (.inl h)
          · exact .inl h
          · exact .inr (.inr h)
        · rintro (h | h | h)
          · exact .inr (.inl h)
          · exact .inl h
          · exact .inr (.inr h)
theorem sortU_mem {k : Int} : ∀ {l : List Int}, k ∈ sortU l ↔ k ∈ l
  | [] => by simp [sortU]
  | x :: r => by simp [sortU, insU_mem, sortU_mem (l := r)]
theorem insU_ris {x : Int} : ∀ {l : List Int}, l.Pairwise (· < ·) → (insU x l).Pairwise (· < ·)
  | [], _ => by simp [insU]
  | y :: r, h => by
    have ⟨h1, h2⟩ := List.pairwise_cons.mp h
    unfold insU
    split
    · rename_i q
      refine List.pairwise_cons.mpr ⟨fun z hz => ?_, h⟩
      rcases List.mem_cons.mp hz with rfl | hz
      · exact q
      · exact Int.lt_trans q (h1 z hz)
    · split
      · exact h
      · rename_i q1 q2
        refine List.pairwise_cons.mpr ⟨fun z hz => ?_, insU_ris h2⟩
        rcases insU_mem.mp hz with rfl | hz
        · omega
        · exact h1 z hz
theorem sortU_ris : ∀ {l : List Int}, (sortU l).Pairwise (· < ·)
  | [] => List.Pairwise.nil
  | _ :: r => insU_ris (sortU_ris (l := r))
theorem ris_eq : ∀ {a b : List Int}, a.Pairwise (· < ·) → b.Pairwise (· < ·) → (∀ k, k ∈ a ↔ k ∈ b) → a = b
  | [], [], _, _, _ => rfl
  | [], y :: b, _, _, h => absurd ((h y).mpr List.mem_cons_self) (by simp)
  | x :: a, [], _, _, h => absurd ((h x).mp List.mem_cons_self) (by simp)
  | x :: a, y :: b, ha, hb, h => by
    have ⟨a1, a2⟩ := List.pairwise_cons.mp ha
    have ⟨b1, b2⟩ := List.pairwise_cons.mp hb
    have e : x = y := by
      have h1 := (h x).mp List.mem_cons_self
      have h2 := (h y).mpr List.mem_cons_self
      rcases List.mem_cons.mp h1 with q | q
      · exact q
      · rcases List.mem_cons.mp h2 with q2 | q2
        · exact q2.symm
        · have := b1 x q; have := a1 y q2; omega
    subst e
    refine congrArg _ (ris_eq a2 b2 fun k => ?_)
    have h3 := h k
    simp only [List.mem_cons] at h3
    constructor
    · intro q
      rcases h3.mp (.inr q) with z | z
      · have := a1 k q; omega
      · exact z
    · intro q
      rcases h3.mpr (.inr q) with z | z
      · have := b1 k q; omega
      · exact z
theorem insI_perm {x : Int} : ∀ {l : List Int}, (insI x l).Perm (x :: l)
  | [] => .refl _
  | y :: r => by
    unfold insI
    split
    · exact .refl _
    · exact ((insI_perm (l := r)).cons y).trans (.swap ..)
theorem sortI_perm : ∀ {l : List Int}, (sortI l).Perm l
  | [] => .nil
  | x :: r => insI_perm.trans (sortI_perm.cons x)
theorem insI_ris {x : Int} : ∀ {l : List Int}, l.Pairwise (· ≤ ·) → (insI x l).Pairwise (· ≤ ·)
  | [], _ => by simp [insI]
  | y :: r, h => by
    have ⟨h1, h2⟩ := List.pairwise_cons.mp h
    unfold insI
    split
    · rename_i q
      refine List.pairwise_cons.mpr ⟨fun z hz => ?_, h⟩
      rcases List.mem_cons.mp hz with rfl | hz
      · exact q
      · exact Int.le_trans q (h1 z hz)
    · rename_i q
      refine List.pairwise_cons.mpr ⟨fun z hz => ?_, insI_ris h2⟩
      rcases List.mem_cons.mp ((insI_perm (l := r)).mem_iff.mp hz) with rfl | hz
      · omega
      · exact h1 z hz
theorem sortI_ris : ∀ {l : List Int}, (sortI l).Pairwise (· ≤ ·)
  | [] => List.Pairwise.nil
  | _ :: r => insI_ris (sortI_ris (l := r))
theorem sorted_eq {a b : List Int} (p : a.Perm b) (ha : a.Pairwise (· ≤ ·)) (hb : b.Pairwise (· ≤ ·)) : a = b := List.Perm.eq_of_pairwise (fun _ _ _ _ h1 h2 => Int.le_antisymm h1 h2) ha hb p
/-! ### the rules -/
theorem intsV_of {K : PySem.W.Frag} {F : Hp} : ∀ {vs : List Val} {us : List V} {ns : List Int}, VRs K F vs us → ints? vs = some ns → us = ns.map V.int
  | [], _, _, h, q => by cases h; cases q; rfl
  | v :: vs, _, ns, .cons a b, q => by
    cases v with
    | int i =>
      unfold ints? at q
      cases z : ints? vs with
      | none => rw [z] at q; cases q
      | some is =>
        rw [z] at q
        cases q
        cases a
        rw [intsV_of b z]
        rfl
    | _ => cases q
theorem vrs_ints {K : PySem.W.Frag} {F : Hp} : ∀ {ns : List Int}, VRs K F (ns.map .int) (ns.map V.int)
  | [] => .nil
  | i :: ns => .cons (.int i) vrs_ints
def mSort (m : M RV) : M RV := m.bind fun r => (M.rd r).bind fun v => match v with
  | .lst xs => match ints? xs with
    | some ns => M.ret (.tmp (.lst ((sortI ns).map .int)))
    | none => M.bad
  | _ => M.bad
def mSortSet (m : M RV) : M RV := m.bind fun r => (M.rd r).bind fun v => match v with
  | .lst xs => match ints? xs with
    | some ns => if ns.length < 60 then M.ret (.tmp (.lst ((sortU ns).map .int))) else M.bad
    | none => M.bad
  | _ => M.bad
def mLR1 (a : M RV) : M RV := a.bind fun r => (M.rd r).bind fun v => match v with
  | .int j => if j ≤ 16777216 ∧ -4611686018427387904 ≤ j then M.ret (.tmp (.lst (rangeV 0 j))) else M.bad
  | _ => M.bad
def mLR2 (a b : M RV) : M RV := a.bind fun r => b.bind fun s => (M.rd r).bind fun v => (M.rd s).bind fun w => match v, w with
  | .int i, .int j => if (-4611686018427387904 ≤ i ∧ i < 4611686018427387904 ∧ -4611686018427387904 ≤ j ∧ j < 4611686018427387904) ∧ j - i ≤ 16777216 then M.ret (.tmp (.lst (rangeV i j))) else M.bad
  | _, _ => M.bad
section
variable {X : Cx} {W : WX} {a b : Expr} {ma mb : M RV} {p p2 pos pos2 : Pos}
/-- set(a list of whole numbers) -/
def rSetI (K : PySem.W.Frag) (w : World) : List V → Hp → VK → Prop := fun xs H Q => ∃ (l : Addr) (ns : List Int), xs = [V.ref l] ∧ SqL K H l (ns.map V.int) ∧ ns.length < 63 ∧
  ∀ (q : Addr) (c : Nat), H q = none → c ≤ ns.length → Q (.ref q) (upd H q (SetO w q (fun j => decide (j ∈ ns)) c))
theorem cr_setI (hc : X.calm = true) : CallR X (.type "set") (rSetI X.K X.w) := by
  intro pins s σ H xs us Q I r h
  obtain ⟨l, ns, rfl, hl, few, q⟩ := h
  cases r with
  | cons r1 r2 =>
    cases r2
    cases r1
    obtain ⟨its, rv, pl, _⟩ := I.list hl
    have whole : IntsAre its.toArray.toList ns := by rw [List.toList_toArray]; exact L2.intsAre_of rv
    refine setOfList ns (I.ok.hd hc) pl.isList whole (by unfold scanBound; omega) fun h' tk c R le k => ?_
    exact ⟨.ref _, _, I.laid (t' := tk) k (Nat.le_refl _) (setO_new R), rfl, q _ c (I.hok.fresh (Nat.le_refl _)) le⟩
theorem lst_new {K : PySem.W.Frag} {B : Bg} {F H : Hp} {e : Ev} {σ : Sig} {ns : List Int} {t : Addr} {Q : VK} (C : Cur K B F H e σ) (ht : H t = none) (h : At K W (RR K) B (M.ret (.tmp (.lst (ns.map .int)))) F e σ H Q) : Q (.ref t) (upd H t (.lst (ns.map V.int))) := by
  obtain ⟨C3, n3, f3, m3⟩ := C.grow (o := .lst (ns.map V.int)) ht
  exact h.ok (r := RV.tmp (.lst (ns.map .int))) rfl C3 ⟨t, rfl, f3, ⟨_, upd_same, vrs_ints⟩, n3, m3⟩
theorem se_sort (gl : Gl X "sorted") (fr : X.mg "sorted" = none) (ha : SE X W a ma) (h1 : starEach (a :: []) X.env = (false, eval a X.env) :: starEach [] X.env := by rfl) (h2 : (backTo pos (starEach [] X.env)).any (·.1) = false := by rfl) : SE X W (.Call (.Name "sorted" p) [a] [] pos) (mSort ma) := by
  refine PE.imp (pe_callB cr_sortedI gl fr (by decide +kernel) (sa_cons ha sa_nil h1) (by decide) (by decide) h1 h2) fun σ H Q h => ?_
  obtain ⟨np, F, e, Rl, h⟩ := h
  refine sa_1 (Cur.refl Rl) h fun r e1 F1 H1 x C1 q1 h1 => ?_
  obtain ⟨v, rv, h2⟩ := At.rd C1.rel q1 h1
  split at h2
  · rename_i xs
    split at h2
    · rename_i ns hn
      obtain ⟨l, us, rfl, h3, h4⟩ := rv.lst C1.rel.sub
      rw [intsV_of h4 hn] at h3
      refine ⟨l, ns, rfl, .inl h3, fun ns' t pm up ht => ?_⟩
      rw [sorted_eq (pm.trans sortI_perm.symm) up sortI_ris]
      exact lst_new (W := W) C1 ht h2
    · exact h2.elim
  · exact h2.elim
theorem se_sortSet (hc : X.calm = true) (gl : Gl X "sorted") (fr : X.mg "sorted" = none) (gl2 : Gl X "set") (fr2 : X.mg "set" = none) (ha : SE X W a ma)
    (h1 : starEach (a :: []) X.env = (false, eval a X.env) :: starEach [] X.env := by rfl) (h2 : (backTo pos2 (starEach [] X.env)).any (·.1) = false := by rfl)
    (h3 : starEach (.Call (.Name "set" p2) [a] [] pos2 :: []) X.env = (false, eval (.Call (.Name "set" p2) [a] [] pos2) X.env) :: starEach [] X.env := by rfl) (h4 : (backTo pos (starEach [] X.env)).any (·.1) = false := by rfl) :
    SE X W (.Call (.Name "sorted" p) [.Call (.Name "set" p2) [a] [] pos2] [] pos) (mSortSet ma) := by
  refine PE.imp (pe_callB (cr_sortedSet hc) gl fr (by decide +kernel) (pa_cons (pe_callTy (cr_setI hc) gl2 fr2 (by decide +kernel) (sa_cons ha sa_nil h1) (by decide) (by decide) h1 h2) pa_nil h3) (by decide) (by decide) h3 h4) fun σ H Q h => ?_
  obtain ⟨np, F, e, Rl, h⟩ := h
  show tA X.K W (mCons ma mNil) σ H _
  refine sa_1 (Cur.refl Rl) h fun r e1 F1 H1 x C1 q1 h1 => ?_
  obtain ⟨v, rv, h2⟩ := At.rd C1.rel q1 h1
  split at h2
  · rename_i xs
    split at h2
    · rename_i ns hn
      by_cases few : ns.length < 60
      · rw [if_pos few] at h2
        obtain ⟨l, us, rfl, h3, h4⟩ := rv.lst C1.rel.sub
        rw [intsV_of h4 hn] at h3
        refine ⟨l, ns, rfl, .inl h3, by omega, fun q c hq le => ?_⟩
        obtain ⟨C2, _, _, _⟩ := C1.grow (o := SetO X.w q (fun j => decide (j ∈ ns)) c) hq
        refine ⟨q, _, c, rfl, upd_same, by omega, fun ns' t up mem _ ht => ?_⟩
        rw [ris_eq up (sortU_ris (l := ns)) fun k => by rw [mem k, decide_eq_true_eq, sortU_mem]]
        exact lst_new (W := W) C2 ht h2
      · rw [if_neg few] at h2
        exact h2.elim
    · exact h2.elim
  · exact h2.elim
theorem rgV_eq {K : PySem.W.Frag} {F : Hp} {i j : Int} : VRs K F (rangeV i j) (rgV i j) := by
  unfold rangeV rgV
  generalize List.range (j - i).toNat = l
  induction l with
  | nil => exact .nil
  | cons x l ih => exact .cons (.int _) ih
theorem rng_new {K : PySem.W.Frag} {B : Bg} {F H : Hp} {e : Ev} {σ : Sig} {i j : Int} {t : Addr} {Q : VK} (C : Cur K B F H e σ) (ht : H t = none) (h : At K W (RR K) B (M.ret (.tmp (.lst (rangeV i j)))) F e σ H Q) : Q (.ref t) (upd H t (.lst (rgV i j))) := by
  obtain ⟨C3, n3, f3, m3⟩ := C.grow (o := .lst (rgV i j)) ht
  exact h.ok (r := RV.tmp (.lst (rangeV i j))) rfl C3 ⟨t, rfl, f3, ⟨_, upd_same, rgV_eq⟩, n3, m3⟩
theorem se_lr1 (hc : X.calm = true) (gl : Gl X "list") (fr : X.mg "list" = none) (gl2 : Gl X "range") (fr2 : X.mg "range" = none) (ha : SE X W a ma) (h1 : starEach [a] X.env = (false, eval a X.env) :: starEach [] X.env := by rfl)
    (h3 : starEach [.Call (.Name "range" p2) [a] [] pos2] X.env = (false, eval (.Call (.Name "range" p2) [a] [] pos2) X.env) :: starEach [] X.env := by rfl) : SE X W (.Call (.Name "list" p) [.Call (.Name "range" p2) [a] [] pos2] [] pos) (mLR1 ma) := by
  refine PE.imp (pe_listRg hc gl fr (prg_1 gl2 fr2 ha h1) h3) fun σ H Q h => ?_
  obtain ⟨np, F, e, Rl, h⟩ := h
  refine use (R1 := RR X.K) (Cur.refl Rl) h fun r e1 F1 H1 x C1 q1 _ h1 => ?_
  obtain ⟨v, rv, h2⟩ := At.rd C1.rel q1 h1
  split at h2
  · rename_i j
    by_cases hj : j ≤ 16777216 ∧ -4611686018427387904 ≤ j
    · rw [if_pos hj] at h2
      exact ⟨j, rv.int, ⟨by omega, by omega, by omega, by omega, by omega⟩, fun t ht => rng_new C1 ht h2⟩
    · rw [if_neg hj] at h2
      exact h2.elim
  · exact h2.elim
theorem se_lr2 (hc : X.calm = true) (gl : Gl X "list") (fr : X.mg "list" = none) (gl2 : Gl X "range") (fr2 : X.mg "range" = none) (ha : SE X W a ma) (hb : SE X W b mb) (h1 : starEach [a, b] X.env = (false, eval a X.env) :: starEach [b] X.env := by rfl) (h2 : starEach [b] X.env = (false, eval b X.env) :: starEach [] X.env := by rfl)
    (h3 : starEach [.Call (.Name "range" p2) [a, b] [] pos2] X.env = (false, eval (.Call (.Name "range" p2) [a, b] [] pos2) X.env) :: starEach [] X.env := by rfl) : SE X W (.Call (.Name "list" p) [.Call (.Name "range" p2) [a, b] [] pos2] [] pos) (mLR2 ma mb) := by
  refine PE.imp (pe_listRg hc gl fr (prg_2 gl2 fr2 ha hb h1 h2 (by rw [h2]; rfl)) h3) fun σ H Q h => ?_
  obtain ⟨np, F, e, Rl, h⟩ := h
  refine use (R1 := RR X.K) (Cur.refl Rl) h fun r1 e1 F1 H1 x C1 q1 _ h1 => ?_
  refine use (R1 := RR X.K) C1 h1 fun r2 e2 F2 H2 y C2 q2 c2 h2 => ?_
  obtain ⟨v, rv, h3⟩ := At.rd C2.rel (q1.carry c2) h2
  obtain ⟨w, rw_, h4⟩ := At.rd C2.rel q2 h3
  split at h4
  · rename_i i j
    by_cases hj : (-4611686018427387904 ≤ i ∧ i < 4611686018427387904 ∧ -4611686018427387904 ≤ j ∧ j < 4611686018427387904) ∧ j - i ≤ 16777216
    · rw [if_pos hj] at h4
      exact ⟨i, j, rv.int, rw_.int, ⟨by omega, by omega, by omega, by omega, by omega⟩, fun t ht => rng_new C2 ht h4⟩
    · rw [if_neg hj] at h4
      exact h4.elim
  · exact h4.elim
end
end Pu
set_option Elab.async false
set_option linter.all false
set_option maxRecDepth 100000
set_option maxHeartbeats 4000000
namespace Pu.Q
open PySem PySem.Spec PyProof.Rows L2 Pu
def mostTurns : Nat := 100000
def top (i : Nat) : Stmt := PySem.Challenge.pw_discwarden_k10_whole_free_stays.main.body.getD i (.Pass ⟨0, 0, 0, 0⟩)
def sub (i j : Nat) : Stmt := match top i with
  | .ClassDef _ _ _ b _ _ _ _ _ _ _ => b.getD j (.Pass ⟨0, 0, 0, 0⟩)
  | _ => .Pass ⟨0, 0, 0, 0⟩
def isT : List (Tg × Tg × Bool) := [(.inl "NoneType", .inl "int", false), (.inl "bool", .inl "int", true), (.inl "int", .inl "int", true), (.inl "str", .inl "int", false), (.inl "list", .inl "int", false), (.inl "tuple", .inl "int", false), (.inl "dict", .inl "int", false), (.inr "Rule", .inl "int", false), (.inr "Rounds", .inl "int", false), (.inl "NoneType", .inr "Rule", false), (.inl "bool", .inr "Rule", false), (.inl "int", .inr "Rule", false), (.inl "str", .inr "Rule", false), (.inl "list", .inr "Rule", false), (.inl "tuple", .inr "Rule", false), (.inl "dict", .inr "Rule", false), (.inr "Rule", .inr "Rule", true), (.inr "Rounds", .inr "Rule", false), (.inl "NoneType", .inr "Rounds", false), (.inl "bool", .inr "Rounds", false), (.inl "int", .inr "Rounds", false), (.inl "str", .inr "Rounds", false), (.inl "list", .inr "Rounds", false), (.inl "tuple", .inr "Rounds", false), (.inl "dict", .inr "Rounds", false), (.inr "Rule", .inr "Rounds", false), (.inr "Rounds", .inr "Rounds", true), (.inl "NoneType", .inl "bool", false), (.inl "bool", .inl "bool", true), (.inl "int", .inl "bool", false), (.inl "str", .inl "bool", false), (.inl "list", .inl "bool", false), (.inl "tuple", .inl "bool", false), (.inl "dict", .inl "bool", false), (.inr "Rule", .inl "bool", false), (.inr "Rounds", .inl "bool", false), (.inl "NoneType", .inl "str", false), (.inl "bool", .inl "str", false), (.inl "int", .inl "str", false), (.inl "str", .inl "str", true), (.inl "list", .inl "str", false), (.inl "tuple", .inl "str", false), (.inl "dict", .inl "str", false), (.inr "Rule", .inl "str", false), (.inr "Rounds", .inl "str", false), (.inl "NoneType", .inl "tuple", false), (.inl "bool", .inl "tuple", false), (.inl "int", .inl "tuple", false), (.inl "str", .inl "tuple", false), (.inl "list", .inl "tuple", false), (.inl "tuple", .inl "tuple", true), (.inl "dict", .inl "tuple", false), (.inr "Rule", .inl "tuple", false), (.inr "Rounds", .inl "tuple", false)]
abbrev s_is_integer : Stmt := top 15
def d_is_integer : He5.DefA := ⟨fun K => He.ga K "is_integer", "is_integer", "is_integer", defArgs s_is_integer, defBody s_is_integer, defScope s_is_integer, [], []⟩
def b_is_integer : S := (mRet (mAndV (mCB (fIsi isT) (mCons (mVar 0) (mCons (mV (.ty "int")) mNil))) (mNotV (mCB (fIsi isT) (mCons (mVar 0) (mCons (mV (.ty "bool")) mNil))))))
def den_is_integer : M RV := fnDen 1 1 b_is_integer
abbrev s_is_between : Stmt := top 16
def d_is_between : He5.DefA := ⟨fun K => He.ga K "is_between", "is_between", "is_between", defArgs s_is_between, defBody s_is_between, defScope s_is_between, [], []⟩
def b_is_between : S := (mRet (mAndV (mCall [false] den_is_integer (mCons (mVar 0) mNil) []) (mChain oLe oLe (mVar 1) (mVar 0) (mVar 2))))
def den_is_between : M RV := fnDen 3 3 b_is_between
abbrev s_check_number : Stmt := top 17
def d_check_number : He5.DefA := ⟨fun K => He.ga K "check_number", "check_number", "check_number", defArgs s_check_number, defBody s_check_number, defScope s_check_number, [], []⟩
def b_check_number : S := (mIf (mNot (mTru (mCall [false, false, false] den_is_between (mCons (mVar 0) (mCons (mVar 1) (mCons (mVar 2) mNil))) []))) M.bad mSkip)
def den_check_number : M RV := fnDen 3 3 b_check_number
abbrev s_Rounds____init__ : Stmt := sub 29 0
def d_Rounds____init__ : He5.DefA := ⟨fun K => He.ma K (He.ga K "Rounds") "__init__", "__init__", "Rounds.__init__", defArgs s_Rounds____init__, defBody s_Rounds____init__, defScope s_Rounds____init__, [], []⟩
def b_Rounds____init__ : S := (mSeq (mEx (mCall [false, false, false] den_check_number (mCons (mVar 1) (mCons (mV (.int 1)) (mCons (mV (.int 1000000000000000000)) mNil))) [])) (mSeq (mIf (mOr (mNot (mTru (mCB (fIsi isT) (mCons (mVar 2) (mCons (mV (.ty "tuple")) mNil))))) (mTru (mBin oEq (mVar 2) (mTup mNil)))) M.bad mSkip) (mSeq (mFor (mEnum (mVar 2)) (gT 2 (gsC (gN 3) (gsC (gN 4) gsN))) (mSeq (mSet 5 (mIfE (mTru (mBin oGt (mVar 3) (mV (.int 0)))) (mBin oAdd (mBin oIx (mVar 2) (mBin oSub (mVar 3) (mV (.int 1)))) (mV (.int 1))) (mV (.int 0)))) (mIf (mOr (mTru (mBin oEq (mVar 3) (mV (.int 12)))) (mNot (mTru (mCall [false, false, false] den_is_between (mCons (mVar 4) (mCons (mVar 5) (mCons (mBin oSub (mVar 1) (mV (.int 1))) mNil))) [])))) M.bad mSkip))) (mPut "Rounds" "parts" (mVar 0) (mTup (mCons (mVar 1) (mCons (mVar 2) mNil)))))))
def den_Rounds____init__ : M RV := fnDen 3 6 b_Rounds____init__
abbrev s_Rule____init__ : Stmt := sub 23 0
def d_Rule____init__ : He5.DefA := ⟨fun K => He.ma K (He.ga K "Rule") "__init__", "__init__", "Rule.__init__", defArgs s_Rule____init__, defBody s_Rule____init__, defScope s_Rule____init__, [], []⟩
def b_Rule____init__ : S := (mSeq (mEx (mCall [false, false, false] den_check_number (mCons (mVar 1) (mCons (mV (.int 1)) (mCons (mV (.int 1000000000000)) mNil))) [])) (mSeq (mIf (mOr (mNot (mTru (mCB (fIsi isT) (mCons (mVar 2) (mCons (mV (.ty "str")) mNil))))) (mTru (mBin (oInG true) (mVar 2) (mV (.tup [(.str "next"), (.str "last"), (.str "near")]))))) M.bad mSkip) (mSeq (mEx (mCall [false, false, false] den_check_number (mCons (mVar 3) (mCons (mVar 1) (mCons (mV (.int 1000000000000000000)) mNil))) [])) (mSeq (mEx (mCall [false, false, false] den_check_number (mCons (mVar 4) (mCons (mV (.int 1)) (mCons (mV (.int 1000000000000000000)) mNil))) [])) (mSeq (mPut "Rule" "limit" (mVar 0) (mVar 3)) (mPut "Rule" "parts" (mVar 0) (mTup (mCons (mVar 1) (mCons (mVar 2) (mCons (mVar 3) (mCons (mVar 4) mNil)))))))))))
def den_Rule____init__ : M RV := fnDen 5 5 b_Rule____init__
abbrev s_check_rule : Stmt := top 24
def d_check_rule : He5.DefA := ⟨fun K => He.ga K "check_rule", "check_rule", "check_rule", defArgs s_check_rule, defBody s_check_rule, defScope s_check_rule, [], []⟩
def b_check_rule : S := (mIf (mNot (mTru (mCB (fIsi isT) (mCons (mVar 0) (mCons (mV (.glo "Rule")) mNil))))) M.bad mSkip)
def den_check_rule : M RV := fnDen 1 1 b_check_rule
abbrev s_check_rounds : Stmt := top 30
def d_check_rounds : He5.DefA := ⟨fun K => He.ga K "check_rounds", "check_rounds", "check_rounds", defArgs s_check_rounds, defBody s_check_rounds, defScope s_check_rounds, [], []⟩
def b_check_rounds : S := (mIf (mNot (mTru (mCB (fIsi isT) (mCons (mVar 0) (mCons (mV (.glo "Rounds")) mNil))))) M.bad mSkip)
def den_check_rounds : M RV := fnDen 1 1 b_check_rounds
abbrev s_check_ways : Stmt := top 33
def d_check_ways : He5.DefA := ⟨fun K => He.ga K "check_ways", "check_ways", "check_ways", defArgs s_check_ways, defBody s_check_ways, defScope s_check_ways, [], []⟩
def b_check_ways : S := (mSeq (mEx (mCall [false] den_check_rule (mCons (mVar 0) mNil) [])) (mEx (mCall [false] den_check_rounds (mCons (mVar 1) mNil) [])))
def den_check_ways : M RV := fnDen 2 2 b_check_ways
abbrev s_check_minute : Stmt := top 18
def d_check_minute : He5.DefA := ⟨fun K => He.ga K "check_minute", "check_minute", "check_minute", defArgs s_check_minute, defBody s_check_minute, defScope s_check_minute, [], []⟩
def b_check_minute : S := (mEx (mCall [false, false, false] den_check_number (mCons (mVar 0) (mCons (mV (.int 0)) (mCons (mV (.int 1000000000000000000000000000000)) mNil))) []))
def den_check_minute : M RV := fnDen 1 1 b_check_minute
abbrev s_next_of : Stmt := top 31
def d_next_of : He5.DefA := ⟨fun K => He.ga K "next_of", "next_of", "next_of", defArgs s_next_of, defBody s_next_of, defScope s_next_of, [], []⟩
def b_next_of : S := (mSeq (mAsg (gT 2 (gsC (gN 4) (gsC (gN 5) gsN))) (mTup (mCons (mBin oSub (mVar 2) (mBin oMod (mVar 2) (mVar 0))) (mCons (mBin oMod (mVar 2) (mVar 0)) mNil)))) (mSeq (mSet 3 (mComp [6] (mItems (mVar 1)) (gN 6) (mTru (mBin oGe (mVar 6) (mVar 5))) (mVar 6))) (mRet (mBin oAdd (mVar 4) (mIfE (mTru (mBin oNe (mVar 3) (mLst mNil))) (mBin oIx (mVar 3) (mV (.int 0))) (mBin oAdd (mVar 0) (mBin oIx (mVar 1) (mV (.int 0)))))))))
def den_next_of : M RV := fnDen 3 7 b_next_of
abbrev s_Rule__setting : Stmt := sub 23 3
def d_Rule__setting : He5.DefA := ⟨fun K => gA K "Rule" "setting", "setting", "Rule.setting", defArgs s_Rule__setting, defBody s_Rule__setting, defScope s_Rule__setting, [], []⟩
def b_Rule__setting : S := (mRet (mBin oIx (mGet "Rule" "parts" (mVar 0)) (mV (.int 1))))
def den_Rule__setting : M RV := fnDen 1 1 b_Rule__setting
abbrev s_Rule__step : Stmt := sub 23 2
def d_Rule__step : He5.DefA := ⟨fun K => gA K "Rule" "step", "step", "Rule.step", defArgs s_Rule__step, defBody s_Rule__step, defScope s_Rule__step, [], []⟩
def b_Rule__step : S := (mRet (mBin oIx (mGet "Rule" "parts" (mVar 0)) (mV (.int 0))))
def den_Rule__step : M RV := fnDen 1 1 b_Rule__step
abbrev s_reach : Stmt := top 25
def d_reach : He5.DefA := ⟨fun K => He.ga K "reach", "reach", "reach", defArgs s_reach, defBody s_reach, defScope s_reach, [], []⟩
def b_reach : S := (mSeq (mIf (mTru (mBin oEq (mProp "Rule" den_Rule__setting (mVar 0)) (mV (.str "next")))) (mRet (mTup (mCons (mV (.int 0)) (mCons (mBin oSub (mProp "Rule" den_Rule__step (mVar 0)) (mV (.int 1))) mNil)))) mSkip) (mSeq (mIf (mTru (mBin oEq (mProp "Rule" den_Rule__setting (mVar 0)) (mV (.str "last")))) (mRet (mTup (mCons (mBin oSub (mV (.int 1)) (mProp "Rule" den_Rule__step (mVar 0))) (mCons (mV (.int 0)) mNil)))) mSkip) (mRet (mTup (mCons (mNeg (mBin oDiv (mBin oSub (mProp "Rule" den_Rule__step (mVar 0)) (mV (.int 1))) (mV (.int 2)))) (mCons (mBin oDiv (mProp "Rule" den_Rule__step (mVar 0)) (mV (.int 2))) mNil))))))
def den_reach : M RV := fnDen 1 1 b_reach
abbrev s_mark_at : Stmt := top 26
def d_mark_at : He5.DefA := ⟨fun K => He.ga K "mark_at", "mark_at", "mark_at", defArgs s_mark_at, defBody s_mark_at, defScope s_mark_at, [], []⟩
def b_mark_at : S := (mSeq (mSet 2 (mBin oIx (mCall [false] den_reach (mCons (mVar 0) mNil) []) (mV (.int 0)))) (mRet (mBin oAdd (mBin oAdd (mVar 1) (mVar 2)) (mBin oMod (mBin oSub (mNeg (mVar 1)) (mVar 2)) (mProp "Rule" den_Rule__step (mVar 0))))))
def den_mark_at : M RV := fnDen 2 3 b_mark_at
abbrev s_Rounds__times : Stmt := sub 29 2
def d_Rounds__times : He5.DefA := ⟨fun K => gA K "Rounds" "times", "times", "Rounds.times", defArgs s_Rounds__times, defBody s_Rounds__times, defScope s_Rounds__times, [], []⟩
def b_Rounds__times : S := (mRet (mBin oIx (mGet "Rounds" "parts" (mVar 0)) (mV (.int 1))))
def den_Rounds__times : M RV := fnDen 1 1 b_Rounds__times
abbrev s_Rounds__day : Stmt := sub 29 1
def d_Rounds__day : He5.DefA := ⟨fun K => gA K "Rounds" "day", "day", "Rounds.day", defArgs s_Rounds__day, defBody s_Rounds__day, defScope s_Rounds__day, [], []⟩
def b_Rounds__day : S := (mRet (mBin oIx (mGet "Rounds" "parts" (mVar 0)) (mV (.int 0))))
def den_Rounds__day : M RV := fnDen 1 1 b_Rounds__day
abbrev s_behind : Stmt := top 32
def d_behind : He5.DefA := ⟨fun K => He.ga K "behind", "behind", "behind", defArgs s_behind, defBody s_behind, defScope s_behind, [], []⟩
def b_behind : S := (mRet (mCall [false, false, false] den_next_of (mCons (mProp "Rounds" den_Rounds__day (mVar 1)) (mCons (mProp "Rounds" den_Rounds__times (mVar 1)) (mCons (mBin oAdd (mBin oAdd (mCall [false, false] den_mark_at (mCons (mVar 0) (mCons (mVar 2) mNil)) []) (mGet "Rule" "limit" (mVar 0))) (mV (.int 1))) mNil))) []))
def den_behind : M RV := fnDen 3 3 b_behind
abbrev s_free_stay : Stmt := top 35
def d_free_stay : He5.DefA := ⟨fun K => He.ga K "free_stay", "free_stay", "free_stay", defArgs s_free_stay, defBody s_free_stay, defScope s_free_stay, [], []⟩
def b_free_stay : S := (mSeq (mEx (mCall [false, false] den_check_ways (mCons (mVar 0) (mCons (mVar 1) mNil)) [])) (mSeq (mEx (mCall [false] den_check_minute (mCons (mVar 2) mNil) [])) (mRet (mBin oSub (mBin oSub (mCall [false, false, false] den_behind (mCons (mVar 0) (mCons (mVar 1) (mCons (mVar 2) mNil))) []) (mV (.int 1))) (mVar 2)))))
def den_free_stay : M RV := fnDen 3 3 b_free_stay
abbrev s_check_departure : Stmt := top 27
def d_check_departure : He5.DefA := ⟨fun K => He.ga K "check_departure", "check_departure", "check_departure", defArgs s_check_departure, defBody s_check_departure, defScope s_check_departure, [], []⟩
def b_check_departure : S := (mSeq (mEx (mCall [false] den_check_minute (mCons (mVar 0) mNil) [])) (mEx (mCall [false, false, false] den_check_number (mCons (mVar 1) (mCons (mVar 0) (mCons (mV (.int 1000000000000000000000000000000)) mNil))) [])))
def den_check_departure : M RV := fnDen 2 2 b_check_departure
abbrev s_caught : Stmt := top 34
def d_caught : He5.DefA := ⟨fun K => He.ga K "caught", "caught", "caught", defArgs s_caught, defBody s_caught, defScope s_caught, [], []⟩
def b_caught : S := (mSeq (mEx (mCall [false, false] den_check_ways (mCons (mVar 0) (mCons (mVar 1) mNil)) [])) (mSeq (mEx (mCall [false, false] den_check_departure (mCons (mVar 2) (mCons (mVar 3) mNil)) [])) (mRet (mBin oLe (mCall [false, false, false] den_behind (mCons (mVar 0) (mCons (mVar 1) (mCons (mVar 2) mNil))) []) (mVar 3)))))
def den_caught : M RV := fnDen 4 4 b_caught
abbrev s__law_sip : Stmt := top 38
def d__law_sip : He5.DefA := ⟨fun K => He.ga K "_law_sip", "_law_sip", "_law_sip", defArgs s__law_sip, defBody s__law_sip, defScope s__law_sip, [], []⟩
def b__law_sip : S := (mSeq (mAsg (gSb (mVar 0) (mV (.int 2))) (mBin oAdd (mBin oIx (mVar 0) (mV (.int 2))) (mV (.int 1)))) (mSeq (mIf (mTru (mBin oGt (mBin oIx (mVar 0) (mV (.int 0))) (mV (.int 0)))) (mSeq (mSet 2 (mBin oMod (mCB fInt (mCons (mBin oIx (mVar 0) (mV (.int 0))) mNil)) (mVar 1))) (mSeq (mAsg (gSb (mVar 0) (mV (.int 0))) (mBin oDiv (mCB fInt (mCons (mBin oIx (mVar 0) (mV (.int 0))) mNil)) (mVar 1))) (mRet (mVar 2)))) mSkip) (mSeq (mAsg (gSb (mVar 0) (mV (.int 1))) (mBin oMod (mCB fInt (mCons (mBin oAdd (mBin oAdd (mBin oMul (mBin oIx (mVar 0) (mV (.int 1))) (mV (.int 40692))) (mBin oMul (mV (.int 1009)) (mBin oIx (mVar 0) (mV (.int 2))))) (mV (.int 37))) mNil)) (mV (.int 2147483399)))) (mRet (mBin oMod (mCB fInt (mCons (mBin oDiv (mBin oIx (mVar 0) (mV (.int 1))) (mV (.int 64))) mNil)) (mVar 1))))))
def den__law_sip : M RV := fnDen 2 3 b__law_sip
abbrev s__law_pick : Stmt := top 39
def d__law_pick : He5.DefA := ⟨fun K => He.ga K "_law_pick", "_law_pick", "_law_pick", defArgs s__law_pick, defBody s__law_pick, defScope s__law_pick, [], []⟩
def b__law_pick : S := (mRet (mBin oIx (mVar 1) (mCall [true, false] den__law_sip (mCons (mVar 0) (mCons (mCB fLen (mCons (mVar 1) mNil)) mNil)) [])))
def den__law_pick : M RV := fnDen 2 2 b__law_pick
abbrev s__law_far : Stmt := top 40
def d__law_far : He5.DefA := ⟨fun K => He.ga K "_law_far", "_law_far", "_law_far", defArgs s__law_far, defBody s__law_far, defScope s__law_far, [], []⟩
def b__law_far : S := (mSeq (mIf (mTru (mBin oLe (mVar 1) (mBin oPow (mV (.int 10)) (mV (.int 6))))) (mRet (mBin oAdd (mV (.int 1)) (mCall [true, false] den__law_sip (mCons (mVar 0) (mCons (mVar 1) mNil)) []))) mSkip) (mSeq (mSet 2 (mCall [true, false] den__law_pick (mCons (mVar 0) (mCons (mLst (mCons (mV (.int 1)) (mCons (mV (.int 7)) (mCons (mBin oPow (mV (.int 10)) (mV (.int 3))) (mCons (mBin oPow (mV (.int 10)) (mV (.int 6))) (mCons (mBin oPow (mV (.int 10)) (mV (.int 9))) (mCons (mBin oPow (mV (.int 10)) (mV (.int 14))) (mCons (mBin oPow (mV (.int 10)) (mV (.int 21))) (mCons (mBin oPow (mV (.int 10)) (mV (.int 24))) mNil))))))))) mNil)) [])) (mRet (mBin oAdd (mV (.int 1)) (mBin oMod (mCB fInt (mCons (mBin oAdd (mBin oMul (mCall [true, false] den__law_sip (mCons (mVar 0) (mCons (mBin oPow (mV (.int 10)) (mV (.int 6))) mNil)) []) (mVar 2)) (mCall [true, false] den__law_sip (mCons (mVar 0) (mCons (mV (.int 997)) mNil)) [])) mNil)) (mVar 1))))))
def den__law_far : M RV := fnDen 2 3 b__law_far
abbrev s__law_plan : Stmt := top 41
def d__law_plan : He5.DefA := ⟨fun K => He.ga K "_law_plan", "_law_plan", "_law_plan", defArgs s__law_plan, defBody s__law_plan, defScope s__law_plan, [], []⟩
def b__law_plan : S := (mSeq (mSet 2 (mCall [true, false] den__law_pick (mCons (mVar 0) (mCons (mLst (mCons (mV (.int 1)) (mCons (mV (.int 2)) (mCons (mV (.int 3)) (mCons (mV (.int 5)) (mCons (mCall [true, false] den__law_far (mCons (mVar 0) (mCons (mVar 1) mNil)) []) mNil)))))) mNil)) [])) (mSeq (mSet 3 (mBin oAdd (mVar 2) (mCall [true, false] den__law_pick (mCons (mVar 0) (mCons (mLst (mCons (mV (.int 0)) (mCons (mV (.int 1)) (mCons (mV (.int 2)) (mCons (mV (.int 7)) (mCons (mCall [true, false] den__law_sip (mCons (mVar 0) (mCons (mBin oAdd (mBin oMul (mV (.int 3)) (mCB fMin2 (mCons (mVar 2) (mCons (mBin oPow (mV (.int 10)) (mV (.int 6))) mNil)))) (mV (.int 1))) mNil)) []) mNil)))))) mNil)) []))) (mRet (mLst (mCons (mVar 2) (mCons (mCall [true, false] den__law_pick (mCons (mVar 0) (mCons (mLst (mCons (mV (.str "next")) (mCons (mV (.str "last")) (mCons (mV (.str "near")) mNil)))) mNil)) []) (mCons (mVar 3) (mCons (mCall [true, false] den__law_pick (mCons (mVar 0) (mCons (mLst (mCons (mV (.int 1)) (mCons (mV (.int 1)) (mCons (mV (.int 2)) (mCons (mV (.int 3)) (mCons (mV (.int 8)) mNil)))))) mNil)) []) mNil))))))))
def den__law_plan : M RV := fnDen 2 4 b__law_plan
abbrev s__law_made : Stmt := top 42
def d__law_made : He5.DefA := ⟨fun K => He.ga K "_law_made", "_law_made", "_law_made", defArgs s__law_made, defBody s__law_made, defScope s__law_made, [], []⟩
def b__law_made : S := (mRet (mMake "Rule" [false, false, false, false] den_Rule____init__ (mCons (mBin oIx (mVar 0) (mV (.int 0))) (mCons (mBin oIx (mVar 0) (mV (.int 1))) (mCons (mBin oIx (mVar 0) (mV (.int 2))) (mCons (mBin oIx (mVar 0) (mV (.int 3))) mNil)))) []))
def den__law_made : M RV := fnDen 1 1 b__law_made
abbrev s__law_mark : Stmt := top 43
def d__law_mark : He5.DefA := ⟨fun K => He.ga K "_law_mark", "_law_mark", "_law_mark", defArgs s__law_mark, defBody s__law_mark, defScope s__law_mark, [], []⟩
def b__law_mark : S := (mSeq (mSet 2 (mBin oSub (mVar 1) (mBin oMod (mCB fInt (mCons (mVar 1) mNil)) (mBin oIx (mVar 0) (mV (.int 0)))))) (mSeq (mIf (mOr (mTru (mBin oEq (mVar 2) (mVar 1))) (mTru (mBin oEq (mBin oIx (mVar 0) (mV (.int 1))) (mV (.str "last"))))) (mRet (mVar 2)) mSkip) (mSeq (mIf (mOr (mTru (mBin oEq (mBin oIx (mVar 0) (mV (.int 1))) (mV (.str "next")))) (mTru (mBin oGe (mBin oMul (mV (.int 2)) (mBin oSub (mVar 1) (mVar 2))) (mBin oIx (mVar 0) (mV (.int 0)))))) (mRet (mBin oAdd (mVar 2) (mBin oIx (mVar 0) (mV (.int 0))))) mSkip) (mRet (mVar 2)))))
def den__law_mark : M RV := fnDen 2 3 b__law_mark
abbrev s__law_came : Stmt := top 44
def d__law_came : He5.DefA := ⟨fun K => He.ga K "_law_came", "_law_came", "_law_came", defArgs s__law_came, defBody s__law_came, defScope s__law_came, [], []⟩
def b__law_came : S := (mSeq (mFor (mItems (mVar 1)) (gN 4) (mSeq (mSet 5 (mBin oAdd (mVar 2) (mBin oMod (mCB fInt (mCons (mBin oSub (mVar 4) (mVar 2)) mNil)) (mVar 0)))) (mIf (mTru (mBin oLe (mVar 5) (mVar 3))) (mRet (mV (.bl true))) mSkip))) (mRet (mV (.bl false))))
def den__law_came : M RV := fnDen 4 6 b__law_came
abbrev s__law_right_k10 : Stmt := top 45
def d__law_right_k10 : He5.DefA := ⟨fun K => He.ga K "_law_right", "_law_right", "_law_right", defArgs s__law_right_k10, defBody s__law_right_k10, defScope s__law_right_k10, [], []⟩
def b__law_right_k10 : S := (mSeq (mFor (mRng1 (mV (.int 5))) (gN 1) (mSeq (mSet 2 (mCall [true, false] den__law_plan (mCons (mVar 0) (mCons (mCall [true, false] den__law_pick (mCons (mVar 0) (mCons (mLst (mCons (mV (.int 9)) (mCons (mBin oPow (mV (.int 10)) (mV (.int 12))) mNil))) mNil)) []) mNil)) [])) (mSeq (mSet 3 (mCall [true, false] den__law_pick (mCons (mVar 0) (mCons (mLst (mCons (mV (.int 5)) (mCons (mV (.int 12)) (mCons (mV (.int 40)) (mCons (mCall [true, false] den__law_far (mCons (mVar 0) (mCons (mBin oPow (mV (.int 10)) (mV (.int 18))) mNil)) []) mNil))))) mNil)) [])) (mSeq (mSet 4 (mCB fTup (mCons (mSortSet (mComp [11] (mRng1 (mBin oAdd (mV (.int 1)) (mCall [true, false] den__law_sip (mCons (mVar 0) (mCons (mV (.int 4)) mNil)) []))) (gN 11) mYes (mBin oSub (mCall [true, false] den__law_far (mCons (mVar 0) (mCons (mVar 3) mNil)) []) (mV (.int 1))))) mNil))) (mSeq (mPar false [6, 7] (mCons (mCall [false] den__law_made (mCons (mVar 2) mNil) []) (mCons (mMake "Rounds" [false, false] den_Rounds____init__ (mCons (mVar 3) (mCons (mVar 4) mNil)) []) mNil))) (mFor (mItems (mLst (mCons (mCall [true, false] den__law_sip (mCons (mVar 0) (mCons (mV (.int 50)) mNil)) []) (mCons (mCall [true, false] den__law_far (mCons (mVar 0) (mCons (mBin oPow (mV (.int 10)) (mV (.int 29))) mNil)) []) (mCons (mBin oMul (mBin oIx (mVar 2) (mV (.int 0))) (mCall [true, false] den__law_sip (mCons (mVar 0) (mCons (mV (.int 60)) mNil)) [])) (mCons (mBin oAdd (mBin oMul (mVar 3) (mCall [true, false] den__law_sip (mCons (mVar 0) (mCons (mV (.int 9)) mNil)) [])) (mBin oIx (mVar 4) (mV (.int 0)))) mNil)))))) (gN 5) (mSeq (mSet 8 (mBin oAdd (mBin oAdd (mCall [false, false] den__law_mark (mCons (mVar 2) (mCons (mVar 5) mNil)) []) (mBin oIx (mVar 2) (mV (.int 2)))) (mV (.int 1)))) (mSeq (mSet 9 (mCall [false, false, false] den_free_stay (mCons (mVar 6) (mCons (mVar 7) (mCons (mVar 5) mNil))) [])) (mSeq (mIf (mOr (mTru (mBin oNe (mCallK [false, false, false] den_free_stay mNil (mCons (mVar 5) (mCons (mVar 7) (mCons (mVar 6) mNil))) 0 3 [2, 1, 0]) (mVar 9))) (mOr (mNot (mTru (mCB (fIsi isT) (mCons (mVar 9) (mCons (mV (.ty "int")) mNil))))) (mTru (mBin oLt (mBin oAdd (mVar 5) (mVar 9)) (mBin oSub (mVar 8) (mV (.int 1))))))) (mRet (mV (.bl false))) mSkip) (mSeq (mIf (mOr (mTru (mCall [false, false, false, false] den__law_came (mCons (mVar 3) (mCons (mVar 4) (mCons (mVar 8) (mCons (mBin oAdd (mVar 5) (mVar 9)) mNil)))) [])) (mNot (mTru (mCall [false, false, false, false] den__law_came (mCons (mVar 3) (mCons (mVar 4) (mCons (mVar 8) (mCons (mBin oAdd (mBin oAdd (mVar 5) (mVar 9)) (mV (.int 1))) mNil)))) [])))) (mRet (mV (.bl false))) mSkip) (mSeq (mIf (mTru (mBin oNe (mLst (mCons (mCall [false, false, false, false] den_caught (mCons (mVar 6) (mCons (mVar 7) (mCons (mVar 5) (mCons (mBin oAdd (mVar 5) (mVar 9)) mNil)))) []) (mCons (mCallK [false, false, false, false] den_caught mNil (mCons (mBin oAdd (mBin oAdd (mVar 5) (mVar 9)) (mV (.int 1))) (mCons (mVar 5) (mCons (mVar 7) (mCons (mVar 6) mNil)))) 0 4 [3, 2, 1, 0]) mNil))) (mLst (mCons (mV (.bl false)) (mCons (mV (.bl true)) mNil))))) (mRet (mV (.bl false))) mSkip) (mSeq (mSet 10 (mBin oAdd (mVar 5) (mCall [true, false] den__law_pick (mCons (mVar 0) (mCons (mLst (mCons (mV (.int 0)) (mCons (mBin oIx (mVar 2) (mV (.int 2))) (mCons (mBin oAdd (mVar 9) (mV (.int 7))) (mCons (mCall [true, false] den__law_far (mCons (mVar 0) (mCons (mBin oPow (mV (.int 10)) (mV (.int 6))) mNil)) []) mNil))))) mNil)) []))) (mIf (mTru (mBin oNe (mCall [false, false, false, false] den_caught (mCons (mVar 6) (mCons (mVar 7) (mCons (mVar 5) (mCons (mVar 10) mNil)))) []) (mCall [false, false, false, false] den__law_came (mCons (mVar 3) (mCons (mVar 4) (mCons (mVar 8) (mCons (mVar 10) mNil)))) []))) (mRet (mV (.bl false))) mSkip))))))))))))) (mRet (mV (.bl true))))
def den__law_right_k10 : M RV := fnDen 1 12 b__law_right_k10
abbrev s__law_flask : Stmt := top 37
def d__law_flask : He5.DefA := ⟨fun K => He.ga K "_law_flask", "_law_flask", "_law_flask", defArgs s__law_flask, defBody s__law_flask, defScope s__law_flask, [], []⟩
def b__law_flask : S := (mSeq (mSet 2 (mIfE (mTru (mBin oLt (mVar 1) (mCB fLen (mCons (mVar 0) mNil)))) (mCB fInt (mCons (mBin oIx (mVar 0) (mVar 1)) mNil)) (mBin oAdd (mBin oMul (mV (.int 67)) (mVar 1)) (mV (.int 19))))) (mSeq (mSet 3 (mBin oAdd (mV (.int 40009)) (mBin oMul (mV (.int 907)) (mVar 1)))) (mSeq (mFor (mItems (mSl (mVar 0) mNoP (mPt (mV (.int 8))))) (gN 4) (mSet 3 (mBin oMod (mCB fInt (mCons (mBin oAdd (mBin oAdd (mBin oMul (mVar 3) (mV (.int 40692))) (mBin oMod (mCB fInt (mCons (mVar 4) mNil)) (mV (.int 999953)))) (mVar 1)) mNil)) (mV (.int 2147483399))))) (mSeq (mSet 3 (mBin oMod (mCB fInt (mCons (mBin oAdd (mBin oMul (mVar 3) (mV (.int 40692))) (mBin oMod (mCB fInt (mCons (mVar 2) mNil)) (mV (.int 999953)))) mNil)) (mV (.int 2147483399)))) (mRet (mLst (mCons (mIfE (mTru (mBin oGe (mCB fAbs (mCons (mVar 2) mNil)) (mBin oPow (mV (.int 10)) (mV (.int 18))))) (mCB fAbs (mCons (mVar 2) mNil)) (mV (.int 0))) (mCons (mVar 3) (mCons (mV (.int 0)) mNil)))))))))
def den__law_flask : M RV := fnDen 2 5 b__law_flask
abbrev s_law_k10 : Stmt := top 46
def d_law_k10 : He5.DefA := ⟨fun K => He.ga K "law", "law", "law", defArgs s_law_k10, defBody s_law_k10, defScope s_law_k10, [], []⟩
def b_law_k10 : S := (mSeq (mPar false [1, 2] (mCons (mMake "Rule" [false, false, false, false] den_Rule____init__ (mCons (mV (.int 30)) (mCons (mV (.str "next")) (mCons (mV (.int 120)) (mCons (mV (.int 15)) mNil)))) []) (mCons (mMake "Rounds" [false, false] den_Rounds____init__ (mCons (mV (.int 1440)) (mCons (mTup (mCons (mV (.int 600)) (mCons (mV (.int 960)) mNil))) mNil)) []) mNil))) (mSeq (mIf (mTru (mBin oNe (mLst (mCons (mCall [false, false, false, false] den_caught (mCons (mVar 1) (mCons (mVar 2) (mCons (mV (.int 470)) (mCons (mV (.int 600)) mNil)))) []) (mCons (mCall [false, false, false, false] den_caught (mCons (mVar 1) (mCons (mVar 2) (mCons (mV (.int 450)) (mCons (mV (.int 600)) mNil)))) []) (mCons (mCall [false, false, false] den_free_stay (mCons (mVar 1) (mCons (mVar 2) (mCons (mV (.int 470)) mNil))) []) (mCons (mCall [false, false, false] den_free_stay (mCons (mVar 1) (mCons (mVar 2) (mCons (mV (.int 450)) mNil))) []) mNil))))) (mLst (mCons (mV (.bl false)) (mCons (mV (.bl true)) (mCons (mV (.int 489)) (mCons (mV (.int 149)) mNil))))))) (mRet (mV (.bl false))) mSkip) (mRet (mCB fAll (mCons (mComp [3] (mRng1 (mCB fMax2 (mCons (mV (.int 2)) (mCons (mCB fMin2 (mCons (mCB fLen (mCons (mVar 0) mNil)) (mCons (mV (.int 5)) mNil))) mNil)))) (gN 3) mYes (mCall [true] den__law_right_k10 (mCons (mCall [false, false] den__law_flask (mCons (mVar 0) (mCons (mVar 3) mNil)) []) mNil) [])) mNil)))))
def den_law_k10 : M RV := fnDen 1 4 b_law_k10
def fa : List He.Fa := [.free "int", .free "isinstance", .free "bool", .glo "is_integer", .glo "is_between", .glo "check_number", .int "MOST_LIMIT" 1000000000000000000, .free "tuple", .free "enumerate", .int "MOST_TIMES" 12, .cls "Rounds", .noat "Rounds" "parts", .mkr "Rounds", .glo "Rounds", .int "MOST_STEP" 1000000000000, .free "str", .glo "SETTINGS", .cls "Rule", .noat "Rule" "limit", .noat "Rule" "parts", .mkr "Rule", .glo "Rule", .glo "check_rule", .glo "check_rounds", .glo "check_ways", .int "MOST_MINUTE" 1000000000000000000000000000000, .glo "check_minute", .glo "next_of", .glo "reach", .glo "mark_at", .glo "behind", .glo "free_stay", .glo "check_departure", .glo "caught", .free "len", .free "min", .free "max", .free "range", .glo "_law_sip", .glo "_law_pick", .glo "_law_far", .glo "_law_plan", .free "sorted", .free "set", .glo "_law_made", .glo "_law_mark", .glo "_law_came", .glo "_law_right", .free "abs", .glo "_law_flask", .free "all", .glo "law"]
def fy : List Fy := [.tup "SETTINGS" (([(.str "next"), (.str "last"), (.str "near")] : List Val).map gv), .prop "Rule" "setting", .prop "Rule" "step", .prop "Rounds" "times", .prop "Rounds" "day", .isi "Rounds", .isi "Rule", .kit (.inl "NoneType") (.inl "int") false, .kit (.inl "bool") (.inl "int") true, .kit (.inl "int") (.inl "int") true, .kit (.inl "str") (.inl "int") false, .kit (.inl "list") (.inl "int") false, .kit (.inl "tuple") (.inl "int") false, .kit (.inl "dict") (.inl "int") false, .kit (.inr "Rule") (.inl "int") false, .kit (.inr "Rounds") (.inl "int") false, .kit (.inl "NoneType") (.inr "Rule") false, .kit (.inl "bool") (.inr "Rule") false, .kit (.inl "int") (.inr "Rule") false, .kit (.inl "str") (.inr "Rule") false, .kit (.inl "list") (.inr "Rule") false, .kit (.inl "tuple") (.inr "Rule") false, .kit (.inl "dict") (.inr "Rule") false, .kit (.inr "Rule") (.inr "Rule") true, .kit (.inr "Rounds") (.inr "Rule") false, .kit (.inl "NoneType") (.inr "Rounds") false, .kit (.inl "bool") (.inr "Rounds") false, .kit (.inl "int") (.inr "Rounds") false, .kit (.inl "str") (.inr "Rounds") false, .kit (.inl "list") (.inr "Rounds") false, .kit (.inl "tuple") (.inr "Rounds") false, .kit (.inl "dict") (.inr "Rounds") false, .kit (.inr "Rule") (.inr "Rounds") false, .kit (.inr "Rounds") (.inr "Rounds") true, .kit (.inl "NoneType") (.inl "bool") false, .kit (.inl "bool") (.inl "bool") true, .kit (.inl "int") (.inl "bool") false, .kit (.inl "str") (.inl "bool") false, .kit (.inl "list") (.inl "bool") false, .kit (.inl "tuple") (.inl "bool") false, .kit (.inl "dict") (.inl "bool") false, .kit (.inr "Rule") (.inl "bool") false, .kit (.inr "Rounds") (.inl "bool") false, .kit (.inl "NoneType") (.inl "str") false, .kit (.inl "bool") (.inl "str") false, .kit (.inl "int") (.inl "str") false, .kit (.inl "str") (.inl "str") true, .kit (.inl "list") (.inl "str") false, .kit (.inl "tuple") (.inl "str") false, .kit (.inl "dict") (.inl "str") false, .kit (.inr "Rule") (.inl "str") false, .kit (.inr "Rounds") (.inl "str") false, .kit (.inl "NoneType") (.inl "tuple") false, .kit (.inl "bool") (.inl "tuple") false, .kit (.inl "int") (.inl "tuple") false, .kit (.inl "str") (.inl "tuple") false, .kit (.inl "list") (.inl "tuple") false, .kit (.inl "tuple") (.inl "tuple") true, .kit (.inl "dict") (.inl "tuple") false, .kit (.inr "Rule") (.inl "tuple") false, .kit (.inr "Rounds") (.inl "tuple") false]
def fn : List He5.DefA := [d_is_integer, d_is_between, d_check_number, d_Rounds____init__, d_Rule____init__, d_check_rule, d_check_rounds, d_check_ways, d_check_minute, d_next_of, d_Rule__setting, d_Rule__step, d_reach, d_mark_at, d_Rounds__times, d_Rounds__day, d_behind, d_free_stay, d_check_departure, d_caught, d__law_sip, d__law_pick, d__law_far, d__law_plan, d__law_made, d__law_mark, d__law_came, d__law_right_k10, d__law_flask, d_law_k10]
structure Fx (K : PySem.W.Frag) (mg : Str → Option Value) : Prop where
  free_int : mg "int" = none
  free_isinstance : mg "isinstance" = none
  free_bool : mg "bool" = none
  glo_is_integer : mg "is_integer" = some (.ref (He.ga K "is_integer"))
  glo_is_between : mg "is_between" = some (.ref (He.ga K "is_between"))
  glo_check_number : mg "check_number" = some (.ref (He.ga K "check_number"))
  int_MOST_LIMIT_1000000000000000000 : ∃ t, mg "MOST_LIMIT" = some (.int 1000000000000000000 t)
  free_tuple : mg "tuple" = none
  free_enumerate : mg "enumerate" = none
  int_MOST_TIMES_12 : ∃ t, mg "MOST_TIMES" = some (.int 12 t)
  cls_Rounds : Cls K (He.ga K "Rounds")
  noat_Rounds_parts : NoAttr K (He.ga K "Rounds") "parts"
  mkr_Rounds : Mk K (He.ga K "Rounds") (He.ma K (He.ga K "Rounds") "__init__")
  glo_Rounds : mg "Rounds" = some (.ref (He.ga K "Rounds"))
  int_MOST_STEP_1000000000000 : ∃ t, mg "MOST_STEP" = some (.int 1000000000000 t)
  free_str : mg "str" = none
  glo_SETTINGS : mg "SETTINGS" = some (.ref (He.ga K "SETTINGS"))
  cls_Rule : Cls K (He.ga K "Rule")
  noat_Rule_limit : NoAttr K (He.ga K "Rule") "limit"
  noat_Rule_parts : NoAttr K (He.ga K "Rule") "parts"
  mkr_Rule : Mk K (He.ga K "Rule") (He.ma K (He.ga K "Rule") "__init__")
  glo_Rule : mg "Rule" = some (.ref (He.ga K "Rule"))
  glo_check_rule : mg "check_rule" = some (.ref (He.ga K "check_rule"))
  glo_check_rounds : mg "check_rounds" = some (.ref (He.ga K "check_rounds"))
  glo_check_ways : mg "check_ways" = some (.ref (He.ga K "check_ways"))
  int_MOST_MINUTE_1000000000000000000000000000000 : ∃ t, mg "MOST_MINUTE" = some (.int 1000000000000000000000000000000 t)
  glo_check_minute : mg "check_minute" = some (.ref (He.ga K "check_minute"))
  glo_next_of : mg "next_of" = some (.ref (He.ga K "next_of"))
  glo_reach : mg "reach" = some (.ref (He.ga K "reach"))
  glo_mark_at : mg "mark_at" = some (.ref (He.ga K "mark_at"))
  glo_behind : mg "behind" = some (.ref (He.ga K "behind"))
  glo_free_stay : mg "free_stay" = some (.ref (He.ga K "free_stay"))
  glo_check_departure : mg "check_departure" = some (.ref (He.ga K "check_departure"))
  glo_caught : mg "caught" = some (.ref (He.ga K "caught"))
  free_len : mg "len" = none
  free_min : mg "min" = none
  free_max : mg "max" = none
  free_range : mg "range" = none
  glo__law_sip : mg "_law_sip" = some (.ref (He.ga K "_law_sip"))
  glo__law_pick : mg "_law_pick" = some (.ref (He.ga K "_law_pick"))
  glo__law_far : mg "_law_far" = some (.ref (He.ga K "_law_far"))
  glo__law_plan : mg "_law_plan" = some (.ref (He.ga K "_law_plan"))
  free_sorted : mg "sorted" = none
  free_set : mg "set" = none
  glo__law_made : mg "_law_made" = some (.ref (He.ga K "_law_made"))
  glo__law_mark : mg "_law_mark" = some (.ref (He.ga K "_law_mark"))
  glo__law_came : mg "_law_came" = some (.ref (He.ga K "_law_came"))
  glo__law_right : mg "_law_right" = some (.ref (He.ga K "_law_right"))
  free_abs : mg "abs" = none
  glo__law_flask : mg "_law_flask" = some (.ref (He.ga K "_law_flask"))
  free_all : mg "all" = none
  glo_law : mg "law" = some (.ref (He.ga K "law"))
  tup_SETTINGS : He.tupB K "SETTINGS" (([(.str "next"), (.str "last"), (.str "near")] : List Val).map gv) = true
  prop_Rule_setting : PropOf K (He.ga K "Rule") "setting" (He.ma K (He.ga K "Rule") "setting") (gA K "Rule" "setting")
  prop_Rule_step : PropOf K (He.ga K "Rule") "step" (He.ma K (He.ga K "Rule") "step") (gA K "Rule" "step")
  prop_Rounds_times : PropOf K (He.ga K "Rounds") "times" (He.ma K (He.ga K "Rounds") "times") (gA K "Rounds" "times")
  prop_Rounds_day : PropOf K (He.ga K "Rounds") "day" (He.ma K (He.ga K "Rounds") "day") (gA K "Rounds" "day")
  isi : TOk K isT
theorem fx_of {K : PySem.W.Frag} {h : Heap} {mg : Str → Option Value} (X : K.In h) (G : h.Ns mainGlobals mg) (c : SaysP fa fn fy K) : Fx K mg where
  free_int := He.free_ok X G (c.a.fact 0 (f := .free "int") rfl)
  free_isinstance := He.free_ok X G (c.a.fact 1 (f := .free "isinstance") rfl)
  free_bool := He.free_ok X G (c.a.fact 2 (f := .free "bool") rfl)
  glo_is_integer := He.glo_ok X G (c.a.fact 3 (f := .glo "is_integer") rfl)
  glo_is_between := He.glo_ok X G (c.a.fact 4 (f := .glo "is_between") rfl)
  glo_check_number := He.glo_ok X G (c.a.fact 5 (f := .glo "check_number") rfl)
  int_MOST_LIMIT_1000000000000000000 := He.int_ok X G (c.a.fact 6 (f := .int "MOST_LIMIT" 1000000000000000000) rfl)
  free_tuple := He.free_ok X G (c.a.fact 7 (f := .free "tuple") rfl)
  free_enumerate := He.free_ok X G (c.a.fact 8 (f := .free "enumerate") rfl)
  int_MOST_TIMES_12 := He.int_ok X G (c.a.fact 9 (f := .int "MOST_TIMES" 12) rfl)
  cls_Rounds := He.cls_ok (c.a.fact 10 (f := .cls "Rounds") rfl)
  noat_Rounds_parts := He.noat_ok (c.a.fact 11 (f := .noat "Rounds" "parts") rfl)
  mkr_Rounds := He.mkr_ok (c.a.fact 12 (f := .mkr "Rounds") rfl)
  glo_Rounds := He.glo_ok X G (c.a.fact 13 (f := .glo "Rounds") rfl)
  int_MOST_STEP_1000000000000 := He.int_ok X G (c.a.fact 14 (f := .int "MOST_STEP" 1000000000000) rfl)
  free_str := He.free_ok X G (c.a.fact 15 (f := .free "str") rfl)
  glo_SETTINGS := He.glo_ok X G (c.a.fact 16 (f := .glo "SETTINGS") rfl)
  cls_Rule := He.cls_ok (c.a.fact 17 (f := .cls "Rule") rfl)
  noat_Rule_limit := He.noat_ok (c.a.fact 18 (f := .noat "Rule" "limit") rfl)
  noat_Rule_parts := He.noat_ok (c.a.fact 19 (f := .noat "Rule" "parts") rfl)
  mkr_Rule := He.mkr_ok (c.a.fact 20 (f := .mkr "Rule") rfl)
  glo_Rule := He.glo_ok X G (c.a.fact 21 (f := .glo "Rule") rfl)
  glo_check_rule := He.glo_ok X G (c.a.fact 22 (f := .glo "check_rule") rfl)
  glo_check_rounds := He.glo_ok X G (c.a.fact 23 (f := .glo "check_rounds") rfl)
  glo_check_ways := He.glo_ok X G (c.a.fact 24 (f := .glo "check_ways") rfl)
  int_MOST_MINUTE_1000000000000000000000000000000 := He.int_ok X G (c.a.fact 25 (f := .int "MOST_MINUTE" 1000000000000000000000000000000) rfl)
  glo_check_minute := He.glo_ok X G (c.a.fact 26 (f := .glo "check_minute") rfl)
  glo_next_of := He.glo_ok X G (c.a.fact 27 (f := .glo "next_of") rfl)
  glo_reach := He.glo_ok X G (c.a.fact 28 (f := .glo "reach") rfl)
  glo_mark_at := He.glo_ok X G (c.a.fact 29 (f := .glo "mark_at") rfl)
  glo_behind := He.glo_ok X G (c.a.fact 30 (f := .glo "behind") rfl)
  glo_free_stay := He.glo_ok X G (c.a.fact 31 (f := .glo "free_stay") rfl)
  glo_check_departure := He.glo_ok X G (c.a.fact 32 (f := .glo "check_departure") rfl)
  glo_caught := He.glo_ok X G (c.a.fact 33 (f := .glo "caught") rfl)
  free_len := He.free_ok X G (c.a.fact 34 (f := .free "len") rfl)
  free_min := He.free_ok X G (c.a.fact 35 (f := .free "min") rfl)
  free_max := He.free_ok X G (c.a.fact 36 (f := .free "max") rfl)
  free_range := He.free_ok X G (c.a.fact 37 (f := .free "range") rfl)
  glo__law_sip := He.glo_ok X G (c.a.fact 38 (f := .glo "_law_sip") rfl)
  glo__law_pick := He.glo_ok X G (c.a.fact 39 (f := .glo "_law_pick") rfl)
  glo__law_far := He.glo_ok X G (c.a.fact 40 (f := .glo "_law_far") rfl)
  glo__law_plan := He.glo_ok X G (c.a.fact 41 (f := .glo "_law_plan") rfl)
  free_sorted := He.free_ok X G (c.a.fact 42 (f := .free "sorted") rfl)
  free_set := He.free_ok X G (c.a.fact 43 (f := .free "set") rfl)
  glo__law_made := He.glo_ok X G (c.a.fact 44 (f := .glo "_law_made") rfl)
  glo__law_mark := He.glo_ok X G (c.a.fact 45 (f := .glo "_law_mark") rfl)
  glo__law_came := He.glo_ok X G (c.a.fact 46 (f := .glo "_law_came") rfl)
  glo__law_right := He.glo_ok X G (c.a.fact 47 (f := .glo "_law_right") rfl)
  free_abs := He.free_ok X G (c.a.fact 48 (f := .free "abs") rfl)
  glo__law_flask := He.glo_ok X G (c.a.fact 49 (f := .glo "_law_flask") rfl)
  free_all := He.free_ok X G (c.a.fact 50 (f := .free "all") rfl)
  glo_law := He.glo_ok X G (c.a.fact 51 (f := .glo "law") rfl)
  tup_SETTINGS := id (c.y (.tup "SETTINGS" (([(.str "next"), (.str "last"), (.str "near")] : List Val).map gv)) (List.mem_of_getElem? (i := 0) rfl))
  prop_Rule_setting := prop_ok (c.y (.prop "Rule" "setting") (List.mem_of_getElem? (i := 1) rfl))
  prop_Rule_step := prop_ok (c.y (.prop "Rule" "step") (List.mem_of_getElem? (i := 2) rfl))
  prop_Rounds_times := prop_ok (c.y (.prop "Rounds" "times") (List.mem_of_getElem? (i := 3) rfl))
  prop_Rounds_day := prop_ok (c.y (.prop "Rounds" "day") (List.mem_of_getElem? (i := 4) rfl))
  isi := by
    refine ⟨fun e he => ?_, fun e he C hC => ?_⟩
    · have go : ∀ e ∈ isT, (Fy.kit e.1 e.2.1 e.2.2) ∈ fy := fun e he => List.mem_of_mem_drop (i := 7) (show Fy.kit e.1 e.2.1 e.2.2 ∈ isT.map fun e => Fy.kit e.1 e.2.1 e.2.2 from List.mem_map.mpr ⟨e, he, rfl⟩)
      exact kit_ok (c.y _ (go e he))
    · have go : ∀ e ∈ isT, ∀ C, e.1 = .inr C → ∃ i : Nat, fy[i]? = some (Fy.isi C) := by
        intro e he C hC
        simp only [isT, List.mem_cons, List.not_mem_nil, or_false] at he
        rcases he with rfl | rfl | rfl | rfl | rfl | rfl | rfl | rfl | rfl | rfl | rfl | rfl | rfl | rfl | rfl | rfl | rfl | rfl | rfl | rfl | rfl | rfl | rfl | rfl | rfl | rfl | rfl | rfl | rfl | rfl | rfl | rfl | rfl | rfl | rfl | rfl | rfl | rfl | rfl | rfl | rfl | rfl | rfl | rfl | rfl | rfl | rfl | rfl | rfl | rfl | rfl | rfl | rfl | rfl <;> first | (cases hC; done) | (cases hC; first | exact ⟨5, rfl⟩ | exact ⟨6, rfl⟩)
      obtain ⟨i, hi⟩ := go e he C hC
      exact isi_ok (c.y _ (List.mem_of_getElem? hi))
section
variable {P : Program} {w : World} {K : PySem.W.Frag} {mg : Str → Option Value} {base : Heap}
theorem bd_is_integer : BindD d_is_integer ["value"] := ⟨rfl, rfl, fun _ _ _ _ _ _ us hl => match us, hl with | [_], _ => rfl⟩
theorem sc_is_integer : FnScope ["value"] ["value"] d_is_integer.scope := ⟨rfl, rfl, rfl, by decide +kernel, rfl, by decide +kernel, by decide +kernel⟩
theorem ok_is_integer (x : Fx K mg)  (D : ∃ fd, FunD K d_is_integer.name d_is_integer.qual d_is_integer.params d_is_integer.body d_is_integer.scope (d_is_integer.dvs K) (d_is_integer.kws K) (d_is_integer.at_ K) fd) : FnB P w K mg base 1 d_is_integer ["value"] 1 den_is_integer := by
  refine fnB_of (k := 0) D sc_is_integer rfl rfl fun cdv A outer s H E G => ?_
  unfold b_is_integer
  exact (sb_one (ss_ret (se_and (se_callB call_isi (v_isi x.isi) rfl x.free_isinstance (sa_cons (se_var 0) (sa_cons (se_ty rfl x.free_int) sa_nil))) (se_one (se_not (se_callB call_isi (v_isi x.isi) rfl x.free_isinstance (sa_cons (se_var 0) (sa_cons (se_ty rfl x.free_bool) sa_nil))))))))
theorem bd_is_between : BindD d_is_between ["value", "least", "most"] := ⟨rfl, rfl, fun _ _ _ _ _ _ us hl => match us, hl with | [_, _, _], _ => rfl⟩
theorem sc_is_between : FnScope ["value", "least", "most"] ["value", "least", "most"] d_is_between.scope := ⟨rfl, rfl, rfl, by decide +kernel, rfl, by decide +kernel, by decide +kernel⟩
theorem ok_is_between (x : Fx K mg) (c_is_integer : FnB P w K mg base 1 d_is_integer ["value"] 1 den_is_integer) (D : ∃ fd, FunD K d_is_between.name d_is_between.qual d_is_between.params d_is_between.body d_is_between.scope (d_is_between.dvs K) (d_is_between.kws K) (d_is_between.at_ K) fd) : FnB P w K mg base 2 d_is_between ["value", "least", "most"] 3 den_is_between := by
  refine fnB_of (k := 1) D sc_is_between rfl rfl fun cdv A outer s H E G => ?_
  unfold b_is_between
  exact (sb_one (ss_ret (se_and (se_callD [false] c_is_integer.up bd_is_integer G rfl x.glo_is_integer (sa_cons (se_var 0) sa_nil)) (se_one (se_chain op_le op_le v_le v_le (se_var 1) (se_var 0) (se_var 2))))))
theorem bd_check_number : BindD d_check_number ["value", "least", "most"] := ⟨rfl, rfl, fun _ _ _ _ _ _ us hl => match us, hl with | [_, _, _], _ => rfl⟩
theorem sc_check_number : FnScope ["value", "least", "most"] ["value", "least", "most"] d_check_number.scope := ⟨rfl, rfl, rfl, by decide +kernel, rfl, by decide +kernel, by decide +kernel⟩
theorem ok_check_number (x : Fx K mg) (c_is_between : FnB P w K mg base 2 d_is_between ["value", "least", "most"] 3 den_is_between) (D : ∃ fd, FunD K d_check_number.name d_check_number.qual d_check_number.params d_check_number.body d_check_number.scope (d_check_number.dvs K) (d_check_number.kws K) (d_check_number.at_ K) fd) : FnB P w K mg base 3 d_check_number ["value", "least", "most"] 3 den_check_number := by
  refine fnB_of (k := 2) D sc_check_number rfl rfl fun cdv A outer s H E G => ?_
  unfold b_check_number
  exact (sb_one (ss_if (st_not (st_val (se_callD [false, false, false] c_is_between.up bd_is_between G rfl x.glo_is_between (sa_cons (se_var 0) (sa_cons (se_var 1) (sa_cons (se_var 2) sa_nil)))))) (sb_one ss_bad) sb_nil))
theorem bd_Rounds____init__ : BindD d_Rounds____init__ ["self", "day", "times"] := ⟨rfl, rfl, fun _ _ _ _ _ _ us hl => match us, hl with | [_, _, _], _ => rfl⟩
theorem sc_Rounds____init__ : FnScope ["self", "day", "times", "index", "time", "least"] ["self", "day", "times"] d_Rounds____init__.scope := ⟨rfl, rfl, rfl, by decide +kernel, rfl, by decide +kernel, by decide +kernel⟩
theorem ok_Rounds____init__ (x : Fx K mg) (c_check_number : FnB P w K mg base 3 d_check_number ["value", "least", "most"] 3 den_check_number) (c_is_between : FnB P w K mg base 2 d_is_between ["value", "least", "most"] 3 den_is_between) (D : ∃ fd, FunD K d_Rounds____init__.name d_Rounds____init__.qual d_Rounds____init__.params d_Rounds____init__.body d_Rounds____init__.scope (d_Rounds____init__.dvs K) (d_Rounds____init__.kws K) (d_Rounds____init__.at_ K) fd) : FnB P w K mg base 4 d_Rounds____init__ ["self", "day", "times"] 3 den_Rounds____init__ := by
  refine fnB_of (k := 3) D sc_Rounds____init__ rfl rfl fun cdv A outer s H E G => ?_
  unfold b_Rounds____init__
  exact (sb_cons (ss_expr (se_callD [false, false, false] c_check_number.up bd_check_number G rfl x.glo_check_number (sa_cons (se_var 1) (sa_cons se_int (sa_cons (se_gInt rfl x.int_MOST_LIMIT_1000000000000000000) sa_nil))))) (sb_cons (ss_if (st_w (sw_or (st_not (st_val (se_callB call_isi (v_isi x.isi) rfl x.free_isinstance (sa_cons (se_var 2) (sa_cons (se_ty rfl x.free_tuple) sa_nil))))) (sw_or1 (st_cmp (op_eqA G.room.units) v_eq b_eq (se_var 2) (se_tup sa_nil))))) (sb_one ss_bad) sb_nil) (sb_cons (ss_for (ws := [3, 4]) G (si_enum rfl x.free_enumerate (se_var 2)) (sg_tup G.calm (sgs_cons (sg_name 3 G.nd) (sgs_cons (sg_name 4 G.nd) sgs_nil))) (sb_cons (ss_set 5 G (se_ifE (st_cmp op_gt v_gt b_I (se_var 3) se_int) (se_bin op_addA v_add (se_ix (se_var 2) (se_bin op_sub v_sub (se_var 3) se_int)) se_int) se_int)) (sb_one (ss_if (st_w (sw_or (st_cmp (op_eqA G.room.units) v_eq b_eq (se_var 3) (se_gInt rfl x.int_MOST_TIMES_12)) (sw_or1 (st_not (st_val (se_callD [false, false, false] c_is_between.up bd_is_between G rfl x.glo_is_between (sa_cons (se_var 4) (sa_cons (se_var 5) (sa_cons (se_bin op_sub v_sub (se_var 1) se_int) sa_nil))))))))) (sb_one ss_bad) sb_nil)))) (sb_one (ss_put x.cls_Rounds x.noat_Rounds_parts (se_var 0) (se_tup (sa_cons (se_var 1) (sa_cons (se_var 2) sa_nil))))))))
theorem bd_Rule____init__ : BindD d_Rule____init__ ["self", "step", "setting", "limit", "pause"] := ⟨rfl, rfl, fun _ _ _ _ _ _ us hl => match us, hl with | [_, _, _, _, _], _ => rfl⟩
theorem sc_Rule____init__ : FnScope ["self", "step", "setting", "limit", "pause"] ["self", "step", "setting", "limit", "pause"] d_Rule____init__.scope := ⟨rfl, rfl, rfl, by decide +kernel, rfl, by decide +kernel, by decide +kernel⟩
theorem ok_Rule____init__ (x : Fx K mg) (c_check_number : FnB P w K mg base 3 d_check_number ["value", "least", "most"] 3 den_check_number) (D : ∃ fd, FunD K d_Rule____init__.name d_Rule____init__.qual d_Rule____init__.params d_Rule____init__.body d_Rule____init__.scope (d_Rule____init__.dvs K) (d_Rule____init__.kws K) (d_Rule____init__.at_ K) fd) : FnB P w K mg base 4 d_Rule____init__ ["self", "step", "setting", "limit", "pause"] 5 den_Rule____init__ := by
  refine fnB_of (k := 3) D sc_Rule____init__ rfl rfl fun cdv A outer s H E G => ?_
  unfold b_Rule____init__
  exact (sb_cons (ss_expr (se_callD [false, false, false] c_check_number.up bd_check_number G rfl x.glo_check_number (sa_cons (se_var 1) (sa_cons se_int (sa_cons (se_gInt rfl x.int_MOST_STEP_1000000000000) sa_nil))))) (sb_cons (ss_if (st_w (sw_or (st_not (st_val (se_callB call_isi (v_isi x.isi) rfl x.free_isinstance (sa_cons (se_var 2) (sa_cons (se_ty rfl x.free_str) sa_nil))))) (sw_or1 (st_cmp op_notIn_seq (v_in true) b_in (se_var 2) (se_gTup (vs := [(.str "next"), (.str "last"), (.str "near")]) rfl x.glo_SETTINGS x.tup_SETTINGS))))) (sb_one ss_bad) sb_nil) (sb_cons (ss_expr (se_callD [false, false, false] c_check_number.up bd_check_number G rfl x.glo_check_number (sa_cons (se_var 3) (sa_cons (se_var 1) (sa_cons (se_gInt rfl x.int_MOST_LIMIT_1000000000000000000) sa_nil))))) (sb_cons (ss_expr (se_callD [false, false, false] c_check_number.up bd_check_number G rfl x.glo_check_number (sa_cons (se_var 4) (sa_cons se_int (sa_cons (se_gInt rfl x.int_MOST_LIMIT_1000000000000000000) sa_nil))))) (sb_cons (ss_put x.cls_Rule x.noat_Rule_limit (se_var 0) (se_var 3)) (sb_one (ss_put x.cls_Rule x.noat_Rule_parts (se_var 0) (se_tup (sa_cons (se_var 1) (sa_cons (se_var 2) (sa_cons (se_var 3) (sa_cons (se_var 4) sa_nil))))))))))))
theorem bd_check_rule : BindD d_check_rule ["value"] := ⟨rfl, rfl, fun _ _ _ _ _ _ us hl => match us, hl with | [_], _ => rfl⟩
theorem sc_check_rule : FnScope ["value"] ["value"] d_check_rule.scope := ⟨rfl, rfl, rfl, by decide +kernel, rfl, by decide +kernel, by decide +kernel⟩
theorem ok_check_rule (x : Fx K mg)  (D : ∃ fd, FunD K d_check_rule.name d_check_rule.qual d_check_rule.params d_check_rule.body d_check_rule.scope (d_check_rule.dvs K) (d_check_rule.kws K) (d_check_rule.at_ K) fd) : FnB P w K mg base 1 d_check_rule ["value"] 1 den_check_rule := by
  refine fnB_of (k := 0) D sc_check_rule rfl rfl fun cdv A outer s H E G => ?_
  unfold b_check_rule
  exact (sb_one (ss_if (st_not (st_val (se_callB call_isi (v_isi x.isi) rfl x.free_isinstance (sa_cons (se_var 0) (sa_cons (se_glo rfl x.glo_Rule) sa_nil))))) (sb_one ss_bad) sb_nil))
theorem bd_check_rounds : BindD d_check_rounds ["value"] := ⟨rfl, rfl, fun _ _ _ _ _ _ us hl => match us, hl with | [_], _ => rfl⟩
theorem sc_check_rounds : FnScope ["value"] ["value"] d_check_rounds.scope := ⟨rfl, rfl, rfl, by decide +kernel, rfl, by decide +kernel, by decide +kernel⟩
theorem ok_check_rounds (x : Fx K mg)  (D : ∃ fd, FunD K d_check_rounds.name d_check_rounds.qual d_check_rounds.params d_check_rounds.body d_check_rounds.scope (d_check_rounds.dvs K) (d_check_rounds.kws K) (d_check_rounds.at_ K) fd) : FnB P w K mg base 1 d_check_rounds ["value"] 1 den_check_rounds := by
  refine fnB_of (k := 0) D sc_check_rounds rfl rfl fun cdv A outer s H E G => ?_
  unfold b_check_rounds
  exact (sb_one (ss_if (st_not (st_val (se_callB call_isi (v_isi x.isi) rfl x.free_isinstance (sa_cons (se_var 0) (sa_cons (se_glo rfl x.glo_Rounds) sa_nil))))) (sb_one ss_bad) sb_nil))
theorem bd_check_ways : BindD d_check_ways ["rule", "rounds"] := ⟨rfl, rfl, fun _ _ _ _ _ _ us hl => match us, hl with | [_, _], _ => rfl⟩
theorem sc_check_ways : FnScope ["rule", "rounds"] ["rule", "rounds"] d_check_ways.scope := ⟨rfl, rfl, rfl, by decide +kernel, rfl, by decide +kernel, by decide +kernel⟩
theorem ok_check_ways (x : Fx K mg) (c_check_rule : FnB P w K mg base 1 d_check_rule ["value"] 1 den_check_rule) (c_check_rounds : FnB P w K mg base 1 d_check_rounds ["value"] 1 den_check_rounds) (D : ∃ fd, FunD K d_check_ways.name d_check_ways.qual d_check_ways.params d_check_ways.body d_check_ways.scope (d_check_ways.dvs K) (d_check_ways.kws K) (d_check_ways.at_ K) fd) : FnB P w K mg base 2 d_check_ways ["rule", "rounds"] 2 den_check_ways := by
  refine fnB_of (k := 1) D sc_check_ways rfl rfl fun cdv A outer s H E G => ?_
  unfold b_check_ways
  exact (sb_cons (ss_expr (se_callD [false] c_check_rule.up bd_check_rule G rfl x.glo_check_rule (sa_cons (se_var 0) sa_nil))) (sb_one (ss_expr (se_callD [false] c_check_rounds.up bd_check_rounds G rfl x.glo_check_rounds (sa_cons (se_var 1) sa_nil)))))
theorem bd_check_minute : BindD d_check_minute ["value"] := ⟨rfl, rfl, fun _ _ _ _ _ _ us hl => match us, hl with | [_], _ => rfl⟩
theorem sc_check_minute : FnScope ["value"] ["value"] d_check_minute.scope := ⟨rfl, rfl, rfl, by decide +kernel, rfl, by decide +kernel, by decide +kernel⟩
theorem ok_check_minute (x : Fx K mg) (c_check_number : FnB P w K mg base 3 d_check_number ["value", "least", "most"] 3 den_check_number) (D : ∃ fd, FunD K d_check_minute.name d_check_minute.qual d_check_minute.params d_check_minute.body d_check_minute.scope (d_check_minute.dvs K) (d_check_minute.kws K) (d_check_minute.at_ K) fd) : FnB P w K mg base 4 d_check_minute ["value"] 1 den_check_minute := by
  refine fnB_of (k := 3) D sc_check_minute rfl rfl fun cdv A outer s H E G => ?_
  unfold b_check_minute
  exact (sb_one (ss_expr (se_callD [false, false, false] c_check_number.up bd_check_number G rfl x.glo_check_number (sa_cons (se_var 0) (sa_cons se_int (sa_cons (se_gInt rfl x.int_MOST_MINUTE_1000000000000000000000000000000) sa_nil))))))
theorem bd_next_of : BindD d_next_of ["day", "times", "minute"] := ⟨rfl, rfl, fun _ _ _ _ _ _ us hl => match us, hl with | [_, _, _], _ => rfl⟩
theorem sc_next_of : FnScope ["day", "times", "minute", "later", "begin", "rest", "time"] ["day", "times", "minute"] d_next_of.scope := ⟨rfl, rfl, rfl, by decide +kernel, rfl, by decide +kernel, by decide +kernel⟩
theorem ok_next_of (x : Fx K mg)  (D : ∃ fd, FunD K d_next_of.name d_next_of.qual d_next_of.params d_next_of.body d_next_of.scope (d_next_of.dvs K) (d_next_of.kws K) (d_next_of.at_ K) fd) : FnB P w K mg base 1 d_next_of ["day", "times", "minute"] 3 den_next_of := by
  refine fnB_of (k := 0) D sc_next_of rfl rfl fun cdv A outer s H E G => ?_
  unfold b_next_of
  exact (sb_cons (ss_asg (ws := [4, 5]) (se_tup (sa_cons (se_bin op_sub v_sub (se_var 2) (se_bin op_mod v_mod (se_var 2) (se_var 0))) (sa_cons (se_bin op_mod v_mod (se_var 2) (se_var 0)) sa_nil))) (sg_tup G.calm (sgs_cons (sg_name 4 G.nd) (sgs_cons (sg_name 5 G.nd) sgs_nil)))) (sb_cons (ss_comp (own := [("time", 6)]) 3 G (si_seq (se_var 1)) (blkOk_by (by first | (show blkC ["day", "times", "minute", "later", "begin", "rest", "time"] d_next_of.scope _ _ = true; decide +kernel) | kernel_rfl)) (fun _ _ _ _ _ => (sg_name 6 G.blk.nd)) (fun _ _ _ _ _ => (sts_one (st_cmp op_ge v_ge b_I (se_var 6) (se_var 5)))) (fun _ _ _ _ _ => (se_var 6)) (by first | rfl | decide +kernel)) (sb_one (ss_ret (se_bin op_addA v_add (se_var 4) (se_ifE (st_cmp (op_neA G.room.units) v_ne b_ne (se_var 3) (se_lst sa_nil)) (se_ix (se_var 3) se_int) (se_bin op_addA v_add (se_var 0) (se_ix (se_var 1) se_int))))))))
theorem bd_Rule__setting : BindD d_Rule__setting ["self"] := ⟨rfl, rfl, fun _ _ _ _ _ _ us hl => match us, hl with | [_], _ => rfl⟩
theorem sc_Rule__setting : FnScope ["self"] ["self"] d_Rule__setting.scope := ⟨rfl, rfl, rfl, by decide +kernel, rfl, by decide +kernel, by decide +kernel⟩
theorem ok_Rule__setting (x : Fx K mg)  (D : ∃ fd, FunD K d_Rule__setting.name d_Rule__setting.qual d_Rule__setting.params d_Rule__setting.body d_Rule__setting.scope (d_Rule__setting.dvs K) (d_Rule__setting.kws K) (d_Rule__setting.at_ K) fd) : FnB P w K mg base 1 d_Rule__setting ["self"] 1 den_Rule__setting := by
  refine fnB_of (k := 0) D sc_Rule__setting rfl rfl fun cdv A outer s H E G => ?_
  unfold b_Rule__setting
  exact (sb_one (ss_ret (se_ix (se_get x.cls_Rule x.noat_Rule_parts (se_var 0)) se_int)))
theorem bd_Rule__step : BindD d_Rule__step ["self"] := ⟨rfl, rfl, fun _ _ _ _ _ _ us hl => match us, hl with | [_], _ => rfl⟩
theorem sc_Rule__step : FnScope ["self"] ["self"] d_Rule__step.scope := ⟨rfl, rfl, rfl, by decide +kernel, rfl, by decide +kernel, by decide +kernel⟩
theorem ok_Rule__step (x : Fx K mg)  (D : ∃ fd, FunD K d_Rule__step.name d_Rule__step.qual d_Rule__step.params d_Rule__step.body d_Rule__step.scope (d_Rule__step.dvs K) (d_Rule__step.kws K) (d_Rule__step.at_ K) fd) : FnB P w K mg base 1 d_Rule__step ["self"] 1 den_Rule__step := by
  refine fnB_of (k := 0) D sc_Rule__step rfl rfl fun cdv A outer s H E G => ?_
  unfold b_Rule__step
  exact (sb_one (ss_ret (se_ix (se_get x.cls_Rule x.noat_Rule_parts (se_var 0)) se_int)))
theorem bd_reach : BindD d_reach ["rule"] := ⟨rfl, rfl, fun _ _ _ _ _ _ us hl => match us, hl with | [_], _ => rfl⟩
theorem sc_reach : FnScope ["rule"] ["rule"] d_reach.scope := ⟨rfl, rfl, rfl, by decide +kernel, rfl, by decide +kernel, by decide +kernel⟩
theorem ok_reach (x : Fx K mg) (c_Rule__setting : FnB P w K mg base 1 d_Rule__setting ["self"] 1 den_Rule__setting) (c_Rule__step : FnB P w K mg base 1 d_Rule__step ["self"] 1 den_Rule__step) (D : ∃ fd, FunD K d_reach.name d_reach.qual d_reach.params d_reach.body d_reach.scope (d_reach.dvs K) (d_reach.kws K) (d_reach.at_ K) fd) : FnB P w K mg base 3 d_reach ["rule"] 1 den_reach := by
  refine fnB_of (k := 2) D sc_reach rfl rfl fun cdv A outer s H E G => ?_
  unfold b_reach
  exact (sb_cons (ss_if (st_cmp (op_eqA G.room.units) v_eq b_eq (se_propD (k := 1) (d := d_Rule__setting) (se_var 0) x.cls_Rule x.prop_Rule_setting c_Rule__setting.up bd_Rule__setting G) se_str) (sb_one (ss_ret (se_tup (sa_cons se_int (sa_cons (se_bin op_sub v_sub (se_propD (k := 1) (d := d_Rule__step) (se_var 0) x.cls_Rule x.prop_Rule_step c_Rule__step.up bd_Rule__step G) se_int) sa_nil))))) sb_nil) (sb_cons (ss_if (st_cmp (op_eqA G.room.units) v_eq b_eq (se_propD (k := 1) (d := d_Rule__setting) (se_var 0) x.cls_Rule x.prop_Rule_setting c_Rule__setting.up bd_Rule__setting G) se_str) (sb_one (ss_ret (se_tup (sa_cons (se_bin op_sub v_sub se_int (se_propD (k := 1) (d := d_Rule__step) (se_var 0) x.cls_Rule x.prop_Rule_step c_Rule__step.up bd_Rule__step G)) (sa_cons se_int sa_nil))))) sb_nil) (sb_one (ss_ret (se_tup (sa_cons (se_neg (se_bin op_fdivW v_div (se_bin op_sub v_sub (se_propD (k := 1) (d := d_Rule__step) (se_var 0) x.cls_Rule x.prop_Rule_step c_Rule__step.up bd_Rule__step G) se_int) se_int)) (sa_cons (se_bin op_fdivW v_div (se_propD (k := 1) (d := d_Rule__step) (se_var 0) x.cls_Rule x.prop_Rule_step c_Rule__step.up bd_Rule__step G) se_int) sa_nil)))))))
theorem bd_mark_at : BindD d_mark_at ["rule", "arrival"] := ⟨rfl, rfl, fun _ _ _ _ _ _ us hl => match us, hl with | [_, _], _ => rfl⟩
theorem sc_mark_at : FnScope ["rule", "arrival", "low"] ["rule", "arrival"] d_mark_at.scope := ⟨rfl, rfl, rfl, by decide +kernel, rfl, by decide +kernel, by decide +kernel⟩
theorem ok_mark_at (x : Fx K mg) (c_reach : FnB P w K mg base 3 d_reach ["rule"] 1 den_reach) (c_Rule__step : FnB P w K mg base 1 d_Rule__step ["self"] 1 den_Rule__step) (D : ∃ fd, FunD K d_mark_at.name d_mark_at.qual d_mark_at.params d_mark_at.body d_mark_at.scope (d_mark_at.dvs K) (d_mark_at.kws K) (d_mark_at.at_ K) fd) : FnB P w K mg base 4 d_mark_at ["rule", "arrival"] 2 den_mark_at := by
  refine fnB_of (k := 3) D sc_mark_at rfl rfl fun cdv A outer s H E G => ?_
  unfold b_mark_at
  exact (sb_cons (ss_set 2 G (se_ix (se_callD [false] c_reach.up bd_reach G rfl x.glo_reach (sa_cons (se_var 0) sa_nil)) se_int)) (sb_one (ss_ret (se_bin op_addA v_add (se_bin op_addA v_add (se_var 1) (se_var 2)) (se_bin op_mod v_mod (se_bin op_sub v_sub (se_neg (se_var 1)) (se_var 2)) (se_propD (k := 2) (d := d_Rule__step) (se_var 0) x.cls_Rule x.prop_Rule_step c_Rule__step.up bd_Rule__step G))))))
theorem bd_Rounds__times : BindD d_Rounds__times ["self"] := ⟨rfl, rfl, fun _ _ _ _ _ _ us hl => match us, hl with | [_], _ => rfl⟩
theorem sc_Rounds__times : FnScope ["self"] ["self"] d_Rounds__times.scope := ⟨rfl, rfl, rfl, by decide +kernel, rfl, by decide +kernel, by decide +kernel⟩
theorem ok_Rounds__times (x : Fx K mg)  (D : ∃ fd, FunD K d_Rounds__times.name d_Rounds__times.qual d_Rounds__times.params d_Rounds__times.body d_Rounds__times.scope (d_Rounds__times.dvs K) (d_Rounds__times.kws K) (d_Rounds__times.at_ K) fd) : FnB P w K mg base 1 d_Rounds__times ["self"] 1 den_Rounds__times := by
  refine fnB_of (k := 0) D sc_Rounds__times rfl rfl fun cdv A outer s H E G => ?_
  unfold b_Rounds__times
  exact (sb_one (ss_ret (se_ix (se_get x.cls_Rounds x.noat_Rounds_parts (se_var 0)) se_int)))
theorem bd_Rounds__day : BindD d_Rounds__day ["self"] := ⟨rfl, rfl, fun _ _ _ _ _ _ us hl => match us, hl with | [_], _ => rfl⟩
theorem sc_Rounds__day : FnScope ["self"] ["self"] d_Rounds__day.scope := ⟨rfl, rfl, rfl, by decide +kernel, rfl, by decide +kernel, by decide +kernel⟩
theorem ok_Rounds__day (x : Fx K mg)  (D : ∃ fd, FunD K d_Rounds__day.name d_Rounds__day.qual d_Rounds__day.params d_Rounds__day.body d_Rounds__day.scope (d_Rounds__day.dvs K) (d_Rounds__day.kws K) (d_Rounds__day.at_ K) fd) : FnB P w K mg base 1 d_Rounds__day ["self"] 1 den_Rounds__day := by
  refine fnB_of (k := 0) D sc_Rounds__day rfl rfl fun cdv A outer s H E G => ?_
  unfold b_Rounds__day
  exact (sb_one (ss_ret (se_ix (se_get x.cls_Rounds x.noat_Rounds_parts (se_var 0)) se_int)))
theorem bd_behind : BindD d_behind ["rule", "rounds", "arrival"] := ⟨rfl, rfl, fun _ _ _ _ _ _ us hl => match us, hl with | [_, _, _], _ => rfl⟩
theorem sc_behind : FnScope ["rule", "rounds", "arrival"] ["rule", "rounds", "arrival"] d_behind.scope := ⟨rfl, rfl, rfl, by decide +kernel, rfl, by decide +kernel, by decide +kernel⟩
theorem ok_behind (x : Fx K mg) (c_next_of : FnB P w K mg base 1 d_next_of ["day", "times", "minute"] 3 den_next_of) (c_mark_at : FnB P w K mg base 4 d_mark_at ["rule", "arrival"] 2 den_mark_at) (c_Rounds__times : FnB P w K mg base 1 d_Rounds__times ["self"] 1 den_Rounds__times) (c_Rounds__day : FnB P w K mg base 1 d_Rounds__day ["self"] 1 den_Rounds__day) (D : ∃ fd, FunD K d_behind.name d_behind.qual d_behind.params d_behind.body d_behind.scope (d_behind.dvs K) (d_behind.kws K) (d_behind.at_ K) fd) : FnB P w K mg base 5 d_behind ["rule", "rounds", "arrival"] 3 den_behind := by
  refine fnB_of (k := 4) D sc_behind rfl rfl fun cdv A outer s H E G => ?_
  unfold b_behind
  exact (sb_one (ss_ret (se_callD [false, false, false] c_next_of.up bd_next_of G rfl x.glo_next_of (sa_cons (se_propD (k := 3) (d := d_Rounds__day) (se_var 1) x.cls_Rounds x.prop_Rounds_day c_Rounds__day.up bd_Rounds__day G) (sa_cons (se_propD (k := 3) (d := d_Rounds__times) (se_var 1) x.cls_Rounds x.prop_Rounds_times c_Rounds__times.up bd_Rounds__times G) (sa_cons (se_bin op_addA v_add (se_bin op_addA v_add (se_callD [false, false] c_mark_at.up bd_mark_at G rfl x.glo_mark_at (sa_cons (se_var 0) (sa_cons (se_var 2) sa_nil))) (se_get x.cls_Rule x.noat_Rule_limit (se_var 0))) se_int) sa_nil))))))
theorem bd_free_stay : BindD d_free_stay ["rule", "rounds", "arrival"] := ⟨rfl, rfl, fun _ _ _ _ _ _ us hl => match us, hl with | [_, _, _], _ => rfl⟩
theorem bk_free_stay_0_arrival_rounds_rule : BindK d_free_stay ["rule", "rounds", "arrival"] 0 ["arrival", "rounds", "rule"] [2, 1, 0] := ⟨rfl, by decide, fun _ _ _ _ _ _ us ws h1 h2 => match us, ws, h1, h2 with | [], [_, _, _], _, _ => rfl⟩
theorem sc_free_stay : FnScope ["rule", "rounds", "arrival"] ["rule", "rounds", "arrival"] d_free_stay.scope := ⟨rfl, rfl, rfl, by decide +kernel, rfl, by decide +kernel, by decide +kernel⟩
theorem ok_free_stay (x : Fx K mg) (c_check_ways : FnB P w K mg base 2 d_check_ways ["rule", "rounds"] 2 den_check_ways) (c_check_minute : FnB P w K mg base 4 d_check_minute ["value"] 1 den_check_minute) (c_behind : FnB P w K mg base 5 d_behind ["rule", "rounds", "arrival"] 3 den_behind) (D : ∃ fd, FunD K d_free_stay.name d_free_stay.qual d_free_stay.params d_free_stay.body d_free_stay.scope (d_free_stay.dvs K) (d_free_stay.kws K) (d_free_stay.at_ K) fd) : FnB P w K mg base 6 d_free_stay ["rule", "rounds", "arrival"] 3 den_free_stay := by
  refine fnB_of (k := 5) D sc_free_stay rfl rfl fun cdv A outer s H E G => ?_
  unfold b_free_stay
  exact (sb_cons (ss_expr (se_callD [false, false] c_check_ways.up bd_check_ways G rfl x.glo_check_ways (sa_cons (se_var 0) (sa_cons (se_var 1) sa_nil)))) (sb_cons (ss_expr (se_callD [false] c_check_minute.up bd_check_minute G rfl x.glo_check_minute (sa_cons (se_var 2) sa_nil))) (sb_one (ss_ret (se_bin op_sub v_sub (se_bin op_sub v_sub (se_callD [false, false, false] c_behind.up bd_behind G rfl x.glo_behind (sa_cons (se_var 0) (sa_cons (se_var 1) (sa_cons (se_var 2) sa_nil)))) se_int) (se_var 2))))))
theorem bd_check_departure : BindD d_check_departure ["arrival", "departure"] := ⟨rfl, rfl, fun _ _ _ _ _ _ us hl => match us, hl with | [_, _], _ => rfl⟩
theorem sc_check_departure : FnScope ["arrival", "departure"] ["arrival", "departure"] d_check_departure.scope := ⟨rfl, rfl, rfl, by decide +kernel, rfl, by decide +kernel, by decide +kernel⟩
theorem ok_check_departure (x : Fx K mg) (c_check_minute : FnB P w K mg base 4 d_check_minute ["value"] 1 den_check_minute) (c_check_number : FnB P w K mg base 3 d_check_number ["value", "least", "most"] 3 den_check_number) (D : ∃ fd, FunD K d_check_departure.name d_check_departure.qual d_check_departure.params d_check_departure.body d_check_departure.scope (d_check_departure.dvs K) (d_check_departure.kws K) (d_check_departure.at_ K) fd) : FnB P w K mg base 5 d_check_departure ["arrival", "departure"] 2 den_check_departure := by
  refine fnB_of (k := 4) D sc_check_departure rfl rfl fun cdv A outer s H E G => ?_
  unfold b_check_departure
  exact (sb_cons (ss_expr (se_callD [false] c_check_minute.up bd_check_minute G rfl x.glo_check_minute (sa_cons (se_var 0) sa_nil))) (sb_one (ss_expr (se_callD [false, false, false] c_check_number.up bd_check_number G rfl x.glo_check_number (sa_cons (se_var 1) (sa_cons (se_var 0) (sa_cons (se_gInt rfl x.int_MOST_MINUTE_1000000000000000000000000000000) sa_nil)))))))
theorem bd_caught : BindD d_caught ["rule", "rounds", "arrival", "departure"] := ⟨rfl, rfl, fun _ _ _ _ _ _ us hl => match us, hl with | [_, _, _, _], _ => rfl⟩
theorem bk_caught_0_departure_arrival_rounds_rule : BindK d_caught ["rule", "rounds", "arrival", "departure"] 0 ["departure", "arrival", "rounds", "rule"] [3, 2, 1, 0] := ⟨rfl, by decide, fun _ _ _ _ _ _ us ws h1 h2 => match us, ws, h1, h2 with | [], [_, _, _, _], _, _ => rfl⟩
theorem sc_caught : FnScope ["rule", "rounds", "arrival", "departure"] ["rule", "rounds", "arrival", "departure"] d_caught.scope := ⟨rfl, rfl, rfl, by decide +kernel, rfl, by decide +kernel, by decide +kernel⟩
theorem ok_caught (x : Fx K mg) (c_check_ways : FnB P w K mg base 2 d_check_ways ["rule", "rounds"] 2 den_check_ways) (c_check_departure : FnB P w K mg base 5 d_check_departure ["arrival", "departure"] 2 den_check_departure) (c_behind : FnB P w K mg base 5 d_behind ["rule", "rounds", "arrival"] 3 den_behind) (D : ∃ fd, FunD K d_caught.name d_caught.qual d_caught.params d_caught.body d_caught.scope (d_caught.dvs K) (d_caught.kws K) (d_caught.at_ K) fd) : FnB P w K mg base 6 d_caught ["rule", "rounds", "arrival", "departure"] 4 den_caught := by
  refine fnB_of (k := 5) D sc_caught rfl rfl fun cdv A outer s H E G => ?_
  unfold b_caught
  exact (sb_cons (ss_expr (se_callD [false, false] c_check_ways.up bd_check_ways G rfl x.glo_check_ways (sa_cons (se_var 0) (sa_cons (se_var 1) sa_nil)))) (sb_cons (ss_expr (se_callD [false, false] c_check_departure.up bd_check_departure G rfl x.glo_check_departure (sa_cons (se_var 2) (sa_cons (se_var 3) sa_nil)))) (sb_one (ss_ret (se_cmp op_le v_le (se_callD [false, false, false] c_behind.up bd_behind G rfl x.glo_behind (sa_cons (se_var 0) (sa_cons (se_var 1) (sa_cons (se_var 2) sa_nil)))) (se_var 3))))))
theorem bd__law_sip : BindD d__law_sip ["_law_flask_here", "_law_top"] := ⟨rfl, rfl, fun _ _ _ _ _ _ us hl => match us, hl with | [_, _], _ => rfl⟩
theorem sc__law_sip : FnScope ["_law_flask_here", "_law_top", "_law_digit"] ["_law_flask_here", "_law_top"] d__law_sip.scope := ⟨rfl, rfl, rfl, by decide +kernel, rfl, by decide +kernel, by decide +kernel⟩
theorem ok__law_sip (x : Fx K mg)  (D : ∃ fd, FunD K d__law_sip.name d__law_sip.qual d__law_sip.params d__law_sip.body d__law_sip.scope (d__law_sip.dvs K) (d__law_sip.kws K) (d__law_sip.at_ K) fd) : FnB P w K mg base 1 d__law_sip ["_law_flask_here", "_law_top"] 2 den__law_sip := by
  refine fnB_of (k := 0) D sc__law_sip rfl rfl fun cdv A outer s H E G => ?_
  unfold b__law_sip
  exact (sb_cons (ss_asg (ws := []) (se_bin op_addA v_add (se_ix (se_var 0) se_int) se_int) (sg_sb (se_var 0) se_int)) (sb_cons (ss_if (st_cmp op_gt v_gt b_I (se_ix (se_var 0) se_int) se_int) (sb_cons (ss_set 2 G (se_bin op_mod v_mod (se_callT call_int1 v_int rfl x.free_int (sa_cons (se_ix (se_var 0) se_int) sa_nil)) (se_var 1))) (sb_cons (ss_asg (ws := []) (se_bin op_fdivW v_div (se_callT call_int1 v_int rfl x.free_int (sa_cons (se_ix (se_var 0) se_int) sa_nil)) (se_var 1)) (sg_sb (se_var 0) se_int)) (sb_one (ss_ret (se_var 2))))) sb_nil) (sb_cons (ss_asg (ws := []) (se_bin op_mod v_mod (se_callT call_int1 v_int rfl x.free_int (sa_cons (se_bin op_addA v_add (se_bin op_addA v_add (se_bin op_mulP v_mul (se_ix (se_var 0) se_int) se_int) (se_bin op_mulP v_mul se_int (se_ix (se_var 0) se_int))) se_int) sa_nil)) se_int) (sg_sb (se_var 0) se_int)) (sb_one (ss_ret (se_bin op_mod v_mod (se_callT call_int1 v_int rfl x.free_int (sa_cons (se_bin op_fdivW v_div (se_ix (se_var 0) se_int) se_int) sa_nil)) (se_var 1)))))))
theorem bd__law_pick : BindD d__law_pick ["_law_flask_here", "_law_menu"] := ⟨rfl, rfl, fun _ _ _ _ _ _ us hl => match us, hl with | [_, _], _ => rfl⟩
theorem sc__law_pick : FnScope ["_law_flask_here", "_law_menu"] ["_law_flask_here", "_law_menu"] d__law_pick.scope := ⟨rfl, rfl, rfl, by decide +kernel, rfl, by decide +kernel, by decide +kernel⟩
theorem ok__law_pick (x : Fx K mg) (c__law_sip : FnB P w K mg base 1 d__law_sip ["_law_flask_here", "_law_top"] 2 den__law_sip) (D : ∃ fd, FunD K d__law_pick.name d__law_pick.qual d__law_pick.params d__law_pick.body d__law_pick.scope (d__law_pick.dvs K) (d__law_pick.kws K) (d__law_pick.at_ K) fd) : FnB P w K mg base 2 d__law_pick ["_law_flask_here", "_law_menu"] 2 den__law_pick := by
  refine fnB_of (k := 1) D sc__law_pick rfl rfl fun cdv A outer s H E G => ?_
  unfold b__law_pick
  exact (sb_one (ss_ret (se_ix (se_var 1) (se_callD [true, false] c__law_sip.up bd__law_sip G rfl x.glo__law_sip (sa_cons (se_var 0) (sa_cons (se_callB c_len v_len rfl x.free_len (sa_cons (se_var 1) sa_nil)) sa_nil))))))
theorem bd__law_far : BindD d__law_far ["_law_flask_here", "_law_most"] := ⟨rfl, rfl, fun _ _ _ _ _ _ us hl => match us, hl with | [_, _], _ => rfl⟩
theorem sc__law_far : FnScope ["_law_flask_here", "_law_most", "_law_scale"] ["_law_flask_here", "_law_most"] d__law_far.scope := ⟨rfl, rfl, rfl, by decide +kernel, rfl, by decide +kernel, by decide +kernel⟩
theorem ok__law_far (x : Fx K mg) (c__law_sip : FnB P w K mg base 1 d__law_sip ["_law_flask_here", "_law_top"] 2 den__law_sip) (c__law_pick : FnB P w K mg base 2 d__law_pick ["_law_flask_here", "_law_menu"] 2 den__law_pick) (D : ∃ fd, FunD K d__law_far.name d__law_far.qual d__law_far.params d__law_far.body d__law_far.scope (d__law_far.dvs K) (d__law_far.kws K) (d__law_far.at_ K) fd) : FnB P w K mg base 3 d__law_far ["_law_flask_here", "_law_most"] 2 den__law_far := by
  refine fnB_of (k := 2) D sc__law_far rfl rfl fun cdv A outer s H E G => ?_
  unfold b__law_far
  exact (sb_cons (ss_if (st_cmp op_le v_le b_I (se_var 1) (se_bin op_pow v_pow se_int se_int)) (sb_one (ss_ret (se_bin op_addA v_add se_int (se_callD [true, false] c__law_sip.up bd__law_sip G rfl x.glo__law_sip (sa_cons (se_var 0) (sa_cons (se_var 1) sa_nil)))))) sb_nil) (sb_cons (ss_set 2 G (se_callD [true, false] c__law_pick.up bd__law_pick G rfl x.glo__law_pick (sa_cons (se_var 0) (sa_cons (se_lst (sa_cons se_int (sa_cons se_int (sa_cons (se_bin op_pow v_pow se_int se_int) (sa_cons (se_bin op_pow v_pow se_int se_int) (sa_cons (se_bin op_pow v_pow se_int se_int) (sa_cons (se_bin op_pow v_pow se_int se_int) (sa_cons (se_bin op_pow v_pow se_int se_int) (sa_cons (se_bin op_pow v_pow se_int se_int) sa_nil))))))))) sa_nil)))) (sb_one (ss_ret (se_bin op_addA v_add se_int (se_bin op_mod v_mod (se_callT call_int1 v_int rfl x.free_int (sa_cons (se_bin op_addA v_add (se_bin op_mulP v_mul (se_callD [true, false] c__law_sip.up bd__law_sip G rfl x.glo__law_sip (sa_cons (se_var 0) (sa_cons (se_bin op_pow v_pow se_int se_int) sa_nil))) (se_var 2)) (se_callD [true, false] c__law_sip.up bd__law_sip G rfl x.glo__law_sip (sa_cons (se_var 0) (sa_cons se_int sa_nil)))) sa_nil)) (se_var 1)))))))
theorem bd__law_plan : BindD d__law_plan ["_law_flask_here", "_law_most_step"] := ⟨rfl, rfl, fun _ _ _ _ _ _ us hl => match us, hl with | [_, _], _ => rfl⟩
theorem sc__law_plan : FnScope ["_law_flask_here", "_law_most_step", "_law_grid", "_law_free"] ["_law_flask_here", "_law_most_step"] d__law_plan.scope := ⟨rfl, rfl, rfl, by decide +kernel, rfl, by decide +kernel, by decide +kernel⟩
theorem ok__law_plan (x : Fx K mg) (c__law_pick : FnB P w K mg base 2 d__law_pick ["_law_flask_here", "_law_menu"] 2 den__law_pick) (c__law_far : FnB P w K mg base 3 d__law_far ["_law_flask_here", "_law_most"] 2 den__law_far) (c__law_sip : FnB P w K mg base 1 d__law_sip ["_law_flask_here", "_law_top"] 2 den__law_sip) (D : ∃ fd, FunD K d__law_plan.name d__law_plan.qual d__law_plan.params d__law_plan.body d__law_plan.scope (d__law_plan.dvs K) (d__law_plan.kws K) (d__law_plan.at_ K) fd) : FnB P w K mg base 4 d__law_plan ["_law_flask_here", "_law_most_step"] 2 den__law_plan := by
  refine fnB_of (k := 3) D sc__law_plan rfl rfl fun cdv A outer s H E G => ?_
  unfold b__law_plan
  exact (sb_cons (ss_set 2 G (se_callD [true, false] c__law_pick.up bd__law_pick G rfl x.glo__law_pick (sa_cons (se_var 0) (sa_cons (se_lst (sa_cons se_int (sa_cons se_int (sa_cons se_int (sa_cons se_int (sa_cons (se_callD [true, false] c__law_far.up bd__law_far G rfl x.glo__law_far (sa_cons (se_var 0) (sa_cons (se_var 1) sa_nil))) sa_nil)))))) sa_nil)))) (sb_cons (ss_set 3 G (se_bin op_addA v_add (se_var 2) (se_callD [true, false] c__law_pick.up bd__law_pick G rfl x.glo__law_pick (sa_cons (se_var 0) (sa_cons (se_lst (sa_cons se_int (sa_cons se_int (sa_cons se_int (sa_cons se_int (sa_cons (se_callD [true, false] c__law_sip.up bd__law_sip G rfl x.glo__law_sip (sa_cons (se_var 0) (sa_cons (se_bin op_addA v_add (se_bin op_mulP v_mul se_int (se_callB (call_min2 G.calm) v_min2 rfl x.free_min (sa_cons (se_var 2) (sa_cons (se_bin op_pow v_pow se_int se_int) sa_nil)))) se_int) sa_nil))) sa_nil)))))) sa_nil))))) (sb_one (ss_ret (se_lst (sa_cons (se_var 2) (sa_cons (se_callD [true, false] c__law_pick.up bd__law_pick G rfl x.glo__law_pick (sa_cons (se_var 0) (sa_cons (se_lst (sa_cons se_str (sa_cons se_str (sa_cons se_str sa_nil)))) sa_nil))) (sa_cons (se_var 3) (sa_cons (se_callD [true, false] c__law_pick.up bd__law_pick G rfl x.glo__law_pick (sa_cons (se_var 0) (sa_cons (se_lst (sa_cons se_int (sa_cons se_int (sa_cons se_int (sa_cons se_int (sa_cons se_int sa_nil)))))) sa_nil))) sa_nil)))))))))
theorem bd__law_made : BindD d__law_made ["_law_plan_here"] := ⟨rfl, rfl, fun _ _ _ _ _ _ us hl => match us, hl with | [_], _ => rfl⟩
theorem sc__law_made : FnScope ["_law_plan_here"] ["_law_plan_here"] d__law_made.scope := ⟨rfl, rfl, rfl, by decide +kernel, rfl, by decide +kernel, by decide +kernel⟩
theorem ok__law_made (x : Fx K mg) (c_Rule____init__ : FnB P w K mg base 4 d_Rule____init__ ["self", "step", "setting", "limit", "pause"] 5 den_Rule____init__) (D : ∃ fd, FunD K d__law_made.name d__law_made.qual d__law_made.params d__law_made.body d__law_made.scope (d__law_made.dvs K) (d__law_made.kws K) (d__law_made.at_ K) fd) : FnB P w K mg base 6 d__law_made ["_law_plan_here"] 1 den__law_made := by
  refine fnB_of (k := 5) D sc__law_made rfl rfl fun cdv A outer s H E G => ?_
  unfold b__law_made
  exact (sb_one (ss_ret (se_makeD (k := 4) (d := d_Rule____init__) [false, false, false, false] x.mkr_Rule c_Rule____init__.up bd_Rule____init__ G rfl x.glo_Rule (sa_cons (se_ix (se_var 0) se_int) (sa_cons (se_ix (se_var 0) se_int) (sa_cons (se_ix (se_var 0) se_int) (sa_cons (se_ix (se_var 0) se_int) sa_nil)))))))
theorem bd__law_mark : BindD d__law_mark ["_law_plan_here", "_law_a"] := ⟨rfl, rfl, fun _ _ _ _ _ _ us hl => match us, hl with | [_, _], _ => rfl⟩
theorem sc__law_mark : FnScope ["_law_plan_here", "_law_a", "_law_below"] ["_law_plan_here", "_law_a"] d__law_mark.scope := ⟨rfl, rfl, rfl, by decide +kernel, rfl, by decide +kernel, by decide +kernel⟩
theorem ok__law_mark (x : Fx K mg)  (D : ∃ fd, FunD K d__law_mark.name d__law_mark.qual d__law_mark.params d__law_mark.body d__law_mark.scope (d__law_mark.dvs K) (d__law_mark.kws K) (d__law_mark.at_ K) fd) : FnB P w K mg base 1 d__law_mark ["_law_plan_here", "_law_a"] 2 den__law_mark := by
  refine fnB_of (k := 0) D sc__law_mark rfl rfl fun cdv A outer s H E G => ?_
  unfold b__law_mark
  exact (sb_cons (ss_set 2 G (se_bin op_sub v_sub (se_var 1) (se_bin op_mod v_mod (se_callT call_int1 v_int rfl x.free_int (sa_cons (se_var 1) sa_nil)) (se_ix (se_var 0) se_int)))) (sb_cons (ss_if (st_w (sw_or (st_cmp (op_eqA G.room.units) v_eq b_eq (se_var 2) (se_var 1)) (sw_or1 (st_cmp (op_eqA G.room.units) v_eq b_eq (se_ix (se_var 0) se_int) se_str)))) (sb_one (ss_ret (se_var 2))) sb_nil) (sb_cons (ss_if (st_w (sw_or (st_cmp (op_eqA G.room.units) v_eq b_eq (se_ix (se_var 0) se_int) se_str) (sw_or1 (st_cmp op_ge v_ge b_I (se_bin op_mulP v_mul se_int (se_bin op_sub v_sub (se_var 1) (se_var 2))) (se_ix (se_var 0) se_int))))) (sb_one (ss_ret (se_bin op_addA v_add (se_var 2) (se_ix (se_var 0) se_int)))) sb_nil) (sb_one (ss_ret (se_var 2))))))
theorem bd__law_came : BindD d__law_came ["_law_day", "_law_times", "_law_low", "_law_high"] := ⟨rfl, rfl, fun _ _ _ _ _ _ us hl => match us, hl with | [_, _, _, _], _ => rfl⟩
theorem sc__law_came : FnScope ["_law_day", "_law_times", "_law_low", "_law_high", "_law_time", "_law_first"] ["_law_day", "_law_times", "_law_low", "_law_high"] d__law_came.scope := ⟨rfl, rfl, rfl, by decide +kernel, rfl, by decide +kernel, by decide +kernel⟩
theorem ok__law_came (x : Fx K mg)  (D : ∃ fd, FunD K d__law_came.name d__law_came.qual d__law_came.params d__law_came.body d__law_came.scope (d__law_came.dvs K) (d__law_came.kws K) (d__law_came.at_ K) fd) : FnB P w K mg base 1 d__law_came ["_law_day", "_law_times", "_law_low", "_law_high"] 4 den__law_came := by
  refine fnB_of (k := 0) D sc__law_came rfl rfl fun cdv A outer s H E G => ?_
  unfold b__law_came
  exact (sb_cons (ss_for (ws := [4]) G (si_seq (se_var 1)) (sg_name 4 G.nd) (sb_cons (ss_set 5 G (se_bin op_addA v_add (se_var 2) (se_bin op_mod v_mod (se_callT call_int1 v_int rfl x.free_int (sa_cons (se_bin op_sub v_sub (se_var 4) (se_var 2)) sa_nil)) (se_var 0)))) (sb_one (ss_if (st_cmp op_le v_le b_I (se_var 5) (se_var 3)) (sb_one (ss_ret se_bl)) sb_nil)))) (sb_one (ss_ret se_bl)))
theorem bd__law_right_k10 : BindD d__law_right_k10 ["_law_flask_here"] := ⟨rfl, rfl, fun _ _ _ _ _ _ us hl => match us, hl with | [_], _ => rfl⟩
theorem sc__law_right_k10 : FnScope ["_law_flask_here", "_law_turn", "_law_plan_here", "_law_day", "_law_times", "_law_a", "_law_mine", "_law_path", "_law_free", "_law_told", "_law_d", "_law_k"] ["_law_flask_here"] d__law_right_k10.scope := ⟨rfl, rfl, rfl, by decide +kernel, rfl, by decide +kernel, by decide +kernel⟩
theorem ok__law_right_k10 (x : Fx K mg) (c__law_plan : FnB P w K mg base 4 d__law_plan ["_law_flask_here", "_law_most_step"] 2 den__law_plan) (c__law_pick : FnB P w K mg base 2 d__law_pick ["_law_flask_here", "_law_menu"] 2 den__law_pick) (c__law_far : FnB P w K mg base 3 d__law_far ["_law_flask_here", "_law_most"] 2 den__law_far) (c__law_sip : FnB P w K mg base 1 d__law_sip ["_law_flask_here", "_law_top"] 2 den__law_sip) (c_Rounds____init__ : FnB P w K mg base 4 d_Rounds____init__ ["self", "day", "times"] 3 den_Rounds____init__) (c__law_made : FnB P w K mg base 6 d__law_made ["_law_plan_here"] 1 den__law_made) (c__law_mark : FnB P w K mg base 1 d__law_mark ["_law_plan_here", "_law_a"] 2 den__law_mark) (c_free_stay : FnB P w K mg base 6 d_free_stay ["rule", "rounds", "arrival"] 3 den_free_stay) (c__law_came : FnB P w K mg base 1 d__law_came ["_law_day", "_law_times", "_law_low", "_law_high"] 4 den__law_came) (c_caught : FnB P w K mg base 6 d_caught ["rule", "rounds", "arrival", "departure"] 4 den_caught) (D : ∃ fd, FunD K d__law_right_k10.name d__law_right_k10.qual d__law_right_k10.params d__law_right_k10.body d__law_right_k10.scope (d__law_right_k10.dvs K) (d__law_right_k10.kws K) (d__law_right_k10.at_ K) fd) : FnB P w K mg base 7 d__law_right_k10 ["_law_flask_here"] 1 den__law_right_k10 := by
  refine fnB_of (k := 6) D sc__law_right_k10 rfl rfl fun cdv A outer s H E G => ?_
  unfold b__law_right_k10
  exact (sb_cons (ss_for (ws := [1]) G (si_rng1 rfl x.free_range se_int) (sg_name 1 G.nd) (sb_cons (ss_set 2 G (se_callD [true, false] c__law_plan.up bd__law_plan G rfl x.glo__law_plan (sa_cons (se_var 0) (sa_cons (se_callD [true, false] c__law_pick.up bd__law_pick G rfl x.glo__law_pick (sa_cons (se_var 0) (sa_cons (se_lst (sa_cons se_int (sa_cons (se_bin op_pow v_pow se_int se_int) sa_nil))) sa_nil))) sa_nil)))) (sb_cons (ss_set 3 G (se_callD [true, false] c__law_pick.up bd__law_pick G rfl x.glo__law_pick (sa_cons (se_var 0) (sa_cons (se_lst (sa_cons se_int (sa_cons se_int (sa_cons se_int (sa_cons (se_callD [true, false] c__law_far.up bd__law_far G rfl x.glo__law_far (sa_cons (se_var 0) (sa_cons (se_bin op_pow v_pow se_int se_int) sa_nil))) sa_nil))))) sa_nil)))) (sb_cons (ss_set 4 G (se_callT call_tuple_of v_tup rfl x.free_tuple (sa_cons (se_sortSet G.calm rfl x.free_sorted rfl x.free_set (se_comp (own := [("_law_k", 11)]) G.calm G.nd (si_rng1 rfl x.free_range (se_bin op_addA v_add se_int (se_callD [true, false] c__law_sip.up bd__law_sip G rfl x.glo__law_sip (sa_cons (se_var 0) (sa_cons se_int sa_nil))))) (blkOk_by (by first | (show blkC ["_law_flask_here", "_law_turn", "_law_plan_here", "_law_day", "_law_times", "_law_a", "_law_mine", "_law_path", "_law_free", "_law_told", "_law_d", "_law_k"] d__law_right_k10.scope _ _ = true; decide +kernel) | kernel_rfl)) (fun _ _ _ _ _ => (sg_name 11 G.blk.nd)) (fun _ _ _ _ _ => sts_nil) (fun _ _ _ _ _ => (se_bin op_sub v_sub (se_callD [true, false] c__law_far.up bd__law_far G.blk rfl x.glo__law_far (sa_cons (se_var 0) (sa_cons (se_var 3) sa_nil))) se_int)))) sa_nil))) (sb_cons (ss_par 6 7 false G (sa_cons (se_callD [false] c__law_made.up bd__law_made G rfl x.glo__law_made (sa_cons (se_var 2) sa_nil)) (sa_cons (se_makeD (k := 5) (d := d_Rounds____init__) [false, false] x.mkr_Rounds c_Rounds____init__.up bd_Rounds____init__ G rfl x.glo_Rounds (sa_cons (se_var 3) (sa_cons (se_var 4) sa_nil))) sa_nil))) (sb_one (ss_for (ws := [5]) G (si_seq (se_lst (sa_cons (se_callD [true, false] c__law_sip.up bd__law_sip G rfl x.glo__law_sip (sa_cons (se_var 0) (sa_cons se_int sa_nil))) (sa_cons (se_callD [true, false] c__law_far.up bd__law_far G rfl x.glo__law_far (sa_cons (se_var 0) (sa_cons (se_bin op_pow v_pow se_int se_int) sa_nil))) (sa_cons (se_bin op_mulP v_mul (se_ix (se_var 2) se_int) (se_callD [true, false] c__law_sip.up bd__law_sip G rfl x.glo__law_sip (sa_cons (se_var 0) (sa_cons se_int sa_nil)))) (sa_cons (se_bin op_addA v_add (se_bin op_mulP v_mul (se_var 3) (se_callD [true, false] c__law_sip.up bd__law_sip G rfl x.glo__law_sip (sa_cons (se_var 0) (sa_cons se_int sa_nil)))) (se_ix (se_var 4) se_int)) sa_nil)))))) (sg_name 5 G.nd) (sb_cons (ss_set 8 G (se_bin op_addA v_add (se_bin op_addA v_add (se_callD [false, false] c__law_mark.up bd__law_mark G rfl x.glo__law_mark (sa_cons (se_var 2) (sa_cons (se_var 5) sa_nil))) (se_ix (se_var 2) se_int)) se_int)) (sb_cons (ss_set 9 G (se_callD [false, false, false] c_free_stay.up bd_free_stay G rfl x.glo_free_stay (sa_cons (se_var 6) (sa_cons (se_var 7) (sa_cons (se_var 5) sa_nil))))) (sb_cons (ss_if (st_w (sw_or (st_cmp (op_neA G.room.units) v_ne b_ne (se_callDK0 [false, false, false] c_free_stay.up (bk_free_stay_0_arrival_rounds_rule) G rfl x.glo_free_stay (sk_cons (se_var 5) (sk_cons (se_var 7) (sk_cons (se_var 6) sk_nil)))) (se_var 9)) (sw_or (st_not (st_val (se_callB call_isi (v_isi x.isi) rfl x.free_isinstance (sa_cons (se_var 9) (sa_cons (se_ty rfl x.free_int) sa_nil))))) (sw_or1 (st_cmp op_lt v_lt b_I (se_bin op_addA v_add (se_var 5) (se_var 9)) (se_bin op_sub v_sub (se_var 8) se_int)))))) (sb_one (ss_ret se_bl)) sb_nil) (sb_cons (ss_if (st_w (sw_or (st_val (se_callD [false, false, false, false] c__law_came.up bd__law_came G rfl x.glo__law_came (sa_cons (se_var 3) (sa_cons (se_var 4) (sa_cons (se_var 8) (sa_cons (se_bin op_addA v_add (se_var 5) (se_var 9)) sa_nil)))))) (sw_or1 (st_not (st_val (se_callD [false, false, false, false] c__law_came.up bd__law_came G rfl x.glo__law_came (sa_cons (se_var 3) (sa_cons (se_var 4) (sa_cons (se_var 8) (sa_cons (se_bin op_addA v_add (se_bin op_addA v_add (se_var 5) (se_var 9)) se_int) sa_nil)))))))))) (sb_one (ss_ret se_bl)) sb_nil) (sb_cons (ss_if (st_cmp (op_neA G.room.units) v_ne b_ne (se_lst (sa_cons (se_callD [false, false, false, false] c_caught.up bd_caught G rfl x.glo_caught (sa_cons (se_var 6) (sa_cons (se_var 7) (sa_cons (se_var 5) (sa_cons (se_bin op_addA v_add (se_var 5) (se_var 9)) sa_nil))))) (sa_cons (se_callDK0 [false, false, false, false] c_caught.up (bk_caught_0_departure_arrival_rounds_rule) G rfl x.glo_caught (sk_cons (se_bin op_addA v_add (se_bin op_addA v_add (se_var 5) (se_var 9)) se_int) (sk_cons (se_var 5) (sk_cons (se_var 7) (sk_cons (se_var 6) sk_nil))))) sa_nil))) (se_lst (sa_cons se_bl (sa_cons se_bl sa_nil)))) (sb_one (ss_ret se_bl)) sb_nil) (sb_cons (ss_set 10 G (se_bin op_addA v_add (se_var 5) (se_callD [true, false] c__law_pick.up bd__law_pick G rfl x.glo__law_pick (sa_cons (se_var 0) (sa_cons (se_lst (sa_cons se_int (sa_cons (se_ix (se_var 2) se_int) (sa_cons (se_bin op_addA v_add (se_var 9) se_int) (sa_cons (se_callD [true, false] c__law_far.up bd__law_far G rfl x.glo__law_far (sa_cons (se_var 0) (sa_cons (se_bin op_pow v_pow se_int se_int) sa_nil))) sa_nil))))) sa_nil))))) (sb_one (ss_if (st_cmp (op_neA G.room.units) v_ne b_ne (se_callD [false, false, false, false] c_caught.up bd_caught G rfl x.glo_caught (sa_cons (se_var 6) (sa_cons (se_var 7) (sa_cons (se_var 5) (sa_cons (se_var 10) sa_nil))))) (se_callD [false, false, false, false] c__law_came.up bd__law_came G rfl x.glo__law_came (sa_cons (se_var 3) (sa_cons (se_var 4) (sa_cons (se_var 8) (sa_cons (se_var 10) sa_nil)))))) (sb_one (ss_ret se_bl)) sb_nil))))))))))))))) (sb_one (ss_ret se_bl)))
theorem bd__law_flask : BindD d__law_flask ["_law_script", "_law_turn"] := ⟨rfl, rfl, fun _ _ _ _ _ _ us hl => match us, hl with | [_, _], _ => rfl⟩
theorem sc__law_flask : FnScope ["_law_script", "_law_turn", "_law_entry", "_law_stirred", "_law_each"] ["_law_script", "_law_turn"] d__law_flask.scope := ⟨rfl, rfl, rfl, by decide +kernel, rfl, by decide +kernel, by decide +kernel⟩
theorem ok__law_flask (x : Fx K mg)  (D : ∃ fd, FunD K d__law_flask.name d__law_flask.qual d__law_flask.params d__law_flask.body d__law_flask.scope (d__law_flask.dvs K) (d__law_flask.kws K) (d__law_flask.at_ K) fd) : FnB P w K mg base 1 d__law_flask ["_law_script", "_law_turn"] 2 den__law_flask := by
  refine fnB_of (k := 0) D sc__law_flask rfl rfl fun cdv A outer s H E G => ?_
  unfold b__law_flask
  exact (sb_cons (ss_set 2 G (se_ifE (st_cmp op_lt v_lt b_I (se_var 1) (se_callB c_len v_len rfl x.free_len (sa_cons (se_var 0) sa_nil))) (se_callT call_int1 v_int rfl x.free_int (sa_cons (se_ix (se_var 0) (se_var 1)) sa_nil)) (se_bin op_addA v_add (se_bin op_mulP v_mul se_int (se_var 1)) se_int))) (sb_cons (ss_set 3 G (se_bin op_addA v_add se_int (se_bin op_mulP v_mul se_int (se_var 1)))) (sb_cons (ss_for (ws := [4]) G (si_seq (se_slice (se_var 0) so_none (so_some se_int))) (sg_name 4 G.nd) (sb_one (ss_set 3 G (se_bin op_mod v_mod (se_callT call_int1 v_int rfl x.free_int (sa_cons (se_bin op_addA v_add (se_bin op_addA v_add (se_bin op_mulP v_mul (se_var 3) se_int) (se_bin op_mod v_mod (se_callT call_int1 v_int rfl x.free_int (sa_cons (se_var 4) sa_nil)) se_int)) (se_var 1)) sa_nil)) se_int)))) (sb_cons (ss_set 3 G (se_bin op_mod v_mod (se_callT call_int1 v_int rfl x.free_int (sa_cons (se_bin op_addA v_add (se_bin op_mulP v_mul (se_var 3) se_int) (se_bin op_mod v_mod (se_callT call_int1 v_int rfl x.free_int (sa_cons (se_var 2) sa_nil)) se_int)) sa_nil)) se_int)) (sb_one (ss_ret (se_lst (sa_cons (se_ifE (st_cmp op_ge v_ge b_I (se_callB call_abs v_abs rfl x.free_abs (sa_cons (se_var 2) sa_nil)) (se_bin op_pow v_pow se_int se_int)) (se_callB call_abs v_abs rfl x.free_abs (sa_cons (se_var 2) sa_nil)) se_int) (sa_cons (se_var 3) (sa_cons se_int sa_nil))))))))))
theorem bd_law_k10 : BindD d_law_k10 ["_law_script"] := ⟨rfl, rfl, fun _ _ _ _ _ _ us hl => match us, hl with | [_], _ => rfl⟩
theorem sc_law_k10 : FnScope ["_law_script", "_law_blue", "_law_twice", "_law_turn"] ["_law_script"] d_law_k10.scope := ⟨rfl, rfl, rfl, by decide +kernel, rfl, by decide +kernel, by decide +kernel⟩
theorem ok_law_k10 (x : Fx K mg) (c_Rounds____init__ : FnB P w K mg base 4 d_Rounds____init__ ["self", "day", "times"] 3 den_Rounds____init__) (c_Rule____init__ : FnB P w K mg base 4 d_Rule____init__ ["self", "step", "setting", "limit", "pause"] 5 den_Rule____init__) (c_free_stay : FnB P w K mg base 6 d_free_stay ["rule", "rounds", "arrival"] 3 den_free_stay) (c_caught : FnB P w K mg base 6 d_caught ["rule", "rounds", "arrival", "departure"] 4 den_caught) (c__law_right_k10 : FnB P w K mg base 7 d__law_right_k10 ["_law_flask_here"] 1 den__law_right_k10) (c__law_flask : FnB P w K mg base 1 d__law_flask ["_law_script", "_law_turn"] 2 den__law_flask) (D : ∃ fd, FunD K d_law_k10.name d_law_k10.qual d_law_k10.params d_law_k10.body d_law_k10.scope (d_law_k10.dvs K) (d_law_k10.kws K) (d_law_k10.at_ K) fd) : FnB P w K mg base 8 d_law_k10 ["_law_script"] 1 den_law_k10 := by
  refine fnB_of (k := 7) D sc_law_k10 rfl rfl fun cdv A outer s H E G => ?_
  unfold b_law_k10
  exact (sb_cons (ss_par 1 2 false G (sa_cons (se_makeD (k := 6) (d := d_Rule____init__) [false, false, false, false] x.mkr_Rule c_Rule____init__.up bd_Rule____init__ G rfl x.glo_Rule (sa_cons se_int (sa_cons se_str (sa_cons se_int (sa_cons se_int sa_nil))))) (sa_cons (se_makeD (k := 6) (d := d_Rounds____init__) [false, false] x.mkr_Rounds c_Rounds____init__.up bd_Rounds____init__ G rfl x.glo_Rounds (sa_cons se_int (sa_cons (se_tup (sa_cons se_int (sa_cons se_int sa_nil))) sa_nil))) sa_nil))) (sb_cons (ss_if (st_cmp (op_neA G.room.units) v_ne b_ne (se_lst (sa_cons (se_callD [false, false, false, false] c_caught.up bd_caught G rfl x.glo_caught (sa_cons (se_var 1) (sa_cons (se_var 2) (sa_cons se_int (sa_cons se_int sa_nil))))) (sa_cons (se_callD [false, false, false, false] c_caught.up bd_caught G rfl x.glo_caught (sa_cons (se_var 1) (sa_cons (se_var 2) (sa_cons se_int (sa_cons se_int sa_nil))))) (sa_cons (se_callD [false, false, false] c_free_stay.up bd_free_stay G rfl x.glo_free_stay (sa_cons (se_var 1) (sa_cons (se_var 2) (sa_cons se_int sa_nil)))) (sa_cons (se_callD [false, false, false] c_free_stay.up bd_free_stay G rfl x.glo_free_stay (sa_cons (se_var 1) (sa_cons (se_var 2) (sa_cons se_int sa_nil)))) sa_nil))))) (se_lst (sa_cons se_bl (sa_cons se_bl (sa_cons se_int (sa_cons se_int sa_nil)))))) (sb_one (ss_ret se_bl)) sb_nil) (sb_one (ss_ret (se_callB (cr_all G.calm) v_all rfl x.free_all (sa_cons (se_comp (own := [("_law_turn", 3)]) G.calm G.nd (si_rng1 rfl x.free_range (se_callB (call_max2 G.calm) v_max2 rfl x.free_max (sa_cons se_int (sa_cons (se_callB (call_min2 G.calm) v_min2 rfl x.free_min (sa_cons (se_callB c_len v_len rfl x.free_len (sa_cons (se_var 0) sa_nil)) (sa_cons se_int sa_nil))) sa_nil)))) (blkOk_by (by first | (show blkC ["_law_script", "_law_blue", "_law_twice", "_law_turn"] d_law_k10.scope _ _ = true; decide +kernel) | kernel_rfl)) (fun _ _ _ _ _ => (sg_name 3 G.blk.nd)) (fun _ _ _ _ _ => sts_nil) (fun _ _ _ _ _ => (se_callD [true] c__law_right_k10.up bd__law_right_k10 G.blk rfl x.glo__law_right (sa_cons (se_callD [false, false] c__law_flask.up bd__law_flask G.blk rfl x.glo__law_flask (sa_cons (se_var 0) (sa_cons (se_var 3) sa_nil))) sa_nil)))) sa_nil))))))
theorem all_ok {h : Heap} (X : K.In h) (Gm : h.Ns mainGlobals mg) (c : SaysP fa fn fy K) : FnB P w K mg base 8 d_law_k10 ["_law_script"] 1 den_law_k10 := by
  have x := fx_of X Gm c
  have c_is_integer := ok_is_integer (P := P) (w := w) (base := base) x  (c.a.def_ 0 (d := d_is_integer) rfl)
  have c_is_between := ok_is_between (P := P) (w := w) (base := base) x c_is_integer (c.a.def_ 1 (d := d_is_between) rfl)
  have c_check_number := ok_check_number (P := P) (w := w) (base := base) x c_is_between (c.a.def_ 2 (d := d_check_number) rfl)
  have c_Rounds____init__ := ok_Rounds____init__ (P := P) (w := w) (base := base) x c_check_number c_is_between (c.a.def_ 3 (d := d_Rounds____init__) rfl)
  have c_Rule____init__ := ok_Rule____init__ (P := P) (w := w) (base := base) x c_check_number (c.a.def_ 4 (d := d_Rule____init__) rfl)
  have c_check_rule := ok_check_rule (P := P) (w := w) (base := base) x  (c.a.def_ 5 (d := d_check_rule) rfl)
  have c_check_rounds := ok_check_rounds (P := P) (w := w) (base := base) x  (c.a.def_ 6 (d := d_check_rounds) rfl)
  have c_check_ways := ok_check_ways (P := P) (w := w) (base := base) x c_check_rule c_check_rounds (c.a.def_ 7 (d := d_check_ways) rfl)
  have c_check_minute := ok_check_minute (P := P) (w := w) (base := base) x c_check_number (c.a.def_ 8 (d := d_check_minute) rfl)
  have c_next_of := ok_next_of (P := P) (w := w) (base := base) x  (c.a.def_ 9 (d := d_next_of) rfl)
  have c_Rule__setting := ok_Rule__setting (P := P) (w := w) (base := base) x  (c.a.def_ 10 (d := d_Rule__setting) rfl)
  have c_Rule__step := ok_Rule__step (P := P) (w := w) (base := base) x  (c.a.def_ 11 (d := d_Rule__step) rfl)
  have c_reach := ok_reach (P := P) (w := w) (base := base) x c_Rule__setting c_Rule__step (c.a.def_ 12 (d := d_reach) rfl)
  have c_mark_at := ok_mark_at (P := P) (w := w) (base := base) x c_reach c_Rule__step (c.a.def_ 13 (d := d_mark_at) rfl)
  have c_Rounds__times := ok_Rounds__times (P := P) (w := w) (base := base) x  (c.a.def_ 14 (d := d_Rounds__times) rfl)
  have c_Rounds__day := ok_Rounds__day (P := P) (w := w) (base := base) x  (c.a.def_ 15 (d := d_Rounds__day) rfl)
  have c_behind := ok_behind (P := P) (w := w) (base := base) x c_next_of c_mark_at c_Rounds__times c_Rounds__day (c.a.def_ 16 (d := d_behind) rfl)
  have c_free_stay := ok_free_stay (P := P) (w := w) (base := base) x c_check_ways c_check_minute c_behind (c.a.def_ 17 (d := d_free_stay) rfl)
  have c_check_departure := ok_check_departure (P := P) (w := w) (base := base) x c_check_minute c_check_number (c.a.def_ 18 (d := d_check_departure) rfl)
  have c_caught := ok_caught (P := P) (w := w) (base := base) x c_check_ways c_check_departure c_behind (c.a.def_ 19 (d := d_caught) rfl)
  have c__law_sip := ok__law_sip (P := P) (w := w) (base := base) x  (c.a.def_ 20 (d := d__law_sip) rfl)
  have c__law_pick := ok__law_pick (P := P) (w := w) (base := base) x c__law_sip (c.a.def_ 21 (d := d__law_pick) rfl)
  have c__law_far := ok__law_far (P := P) (w := w) (base := base) x c__law_sip c__law_pick (c.a.def_ 22 (d := d__law_far) rfl)
  have c__law_plan := ok__law_plan (P := P) (w := w) (base := base) x c__law_pick c__law_far c__law_sip (c.a.def_ 23 (d := d__law_plan) rfl)
  have c__law_made := ok__law_made (P := P) (w := w) (base := base) x c_Rule____init__ (c.a.def_ 24 (d := d__law_made) rfl)
  have c__law_mark := ok__law_mark (P := P) (w := w) (base := base) x  (c.a.def_ 25 (d := d__law_mark) rfl)
  have c__law_came := ok__law_came (P := P) (w := w) (base := base) x  (c.a.def_ 26 (d := d__law_came) rfl)
  have c__law_right_k10 := ok__law_right_k10 (P := P) (w := w) (base := base) x c__law_plan c__law_pick c__law_far c__law_sip c_Rounds____init__ c__law_made c__law_mark c_free_stay c__law_came c_caught (c.a.def_ 27 (d := d__law_right_k10) rfl)
  have c__law_flask := ok__law_flask (P := P) (w := w) (base := base) x  (c.a.def_ 28 (d := d__law_flask) rfl)
  have c_law_k10 := ok_law_k10 (P := P) (w := w) (base := base) x c_Rounds____init__ c_Rule____init__ c_free_stay c_caught c__law_right_k10 c__law_flask (c.a.def_ 29 (d := d_law_k10) rfl)
  exact c_law_k10
end
def fnLaw : Nat := 29
theorem law_at {K : PySem.W.Frag} {h : Heap} {mg : Str → Option Value} (X : K.In h) (G : h.Ns mainGlobals mg) (c : SaysP fa fn fy K) : mg "law" = some (.ref (He.ga K "law")) := (fx_of X G c).glo_law
end Pu.Q
set_option Elab.async false
set_option linter.all false
set_option maxRecDepth 100000
set_option maxHeartbeats 4000000
namespace Pu.Q
open PySem PySem.Spec PyProof.Rows L2 Pu
theorem i_int {i : Int} : fIsi isT [.int i, .ty "int"] = mV (.bl true) := rfl
theorem i_boo {i : Int} : fIsi isT [.int i, .ty "bool"] = mV (.bl false) := rfl
theorem i_str {z : Str} : fIsi isT [.str z, .ty "str"] = mV (.bl true) := rfl
theorem i_rul {fs : List Str} {vs : List Val} : fIsi isT [.obj "Rule" fs vs, .glo "Rule"] = mV (.bl true) := rfl
section
variable {Q : RV → Ev → Prop}
theorem r_is_integer {i : Int} : Ok den_is_integer [.dat (.int i)] Q ↔ Q (.dat (.bl true)) [.un] := by
  simp (disch := first | omega | rfl) only [↓ok_d1, ↓ok_d2, ↓ok_d3, ↓ok_d4, ↓ok_d5, ↓ok_d6, ↓ok_d7, ↓ok_bind, ↓ok_ret, ↓ok_bad, ↓ok_mV, ↓ok_rdD, ↓ok_rdT, ↓ok_dtD, ↓ok_dtT, ↓ok_rds0, ↓ok_rdsC, ↓ok_dts0, ↓ok_dtsC, ↓ok_nil, ↓ok_cons, ↓ok_bin, ↓ok_cb, ↓ok_tup, ↓ok_lst, ↓ok_tru, ↓ok_truB, ↓ok_truI, ↓ok_truN, ↓ok_truL, ↓ok_truT, ↓ok_and, ↓ok_or, ↓ok_not, ↓ok_ifE, ↓ok_andV, ↓ok_orV, ↓ok_notV, ↓ok_neg, ↓ok_chain, ↓ok_seq, ↓ok_skip, ↓ok_retS, ↓ok_retN, ↓ok_bk, ↓ok_ct, ↓ok_ex1, ↓ok_if, ↓ok_set, ↓ok_setP, ↓ok_asg, ↓ok_gN, ↓ok_gsN, ↓ok_gsC, ↓ok_gT, ↓ok_gSb, ↓ok_par, ↓ok_put, ↓ok_get, ↓ok_run, ↓ok_call, ↓ok_callK, ↓ok_make, ↓ok_prop, ↓ok_for, ↓ok_items, ↓ok_rng1, ↓ok_rng2, ↓ok_comp, ↓ok_yes, ↓ok_compS0, ↓ok_compSC, wipeE, ↓ok_sl, ↓ok_noP, ↓ok_pt, ↓ok_slL, ↓ok_slT, ↓ok_rep, ↓ok_app, ↓ok_oSub, ↓ok_oMul, ↓ok_oDiv, ↓ok_oMod, ↓ok_oPow, ↓ok_oLt, ↓ok_oLe, ↓ok_oGt, ↓ok_oGe, ↓ok_oAdd, ↓ok_oAddL, ↓ok_oAddI, ↓ok_oEqI, ↓ok_oEqL, ↓ok_oEqT, ↓ok_oEqB, ↓ok_oEqN, ↓ok_oEqS, ↓ok_oNeI, ↓ok_oNeL, ↓ok_oNeT, ↓ok_oNeB, ↓ok_oNeN, ↓ok_oNeS, ↓ok_oIs, ↓ok_oIsN, ↓ix_0, ↓ix_1, ↓ix_2, ↓ix_3, ↓ix_4, ↓it_0, ↓it_1, ↓it_2, ↓it_3, ixn_0, ixn_1, ixn_2, ↓ok_len, ↓ok_lenT, ↓ok_absI, ↓ok_intI, ↓ok_max2, ↓ok_min2, ↓ok_max3, ↓ok_min3, ↓ok_dm, ↓ok_repr, argsE, backE, outE, Pu.M.dt, List.getElem?_cons_zero, List.getElem?_cons_succ, List.set_cons_zero, List.set_cons_succ, List.take_succ_cons, List.take_zero, List.replicate_zero, List.replicate_succ, List.append_nil, List.nil_append, List.cons_append, List.length_cons, List.length_nil, Nat.sub_self, Nat.reduceSub, Nat.reduceAdd, Nat.reduceLeDiff, decide_true, decide_false, reduceCtorEq, noBor, setsE, slotOf, setsS, putFs, putVs, lookV, sel, isNon, Bool.not_true, Bool.not_false, Bool.not_eq_true, decide_eq_true_eq, decide_eq_false_iff_not, Bool.true_eq_false, Bool.false_eq_true, false_implies, true_implies, and_true, true_and, not_true_eq_false, not_false_eq_true, and_self, implies_true, or_false, false_or, List.flatten_cons, List.flatten_nil, true_or, or_true, Int.sub_zero, eq_self, veq_int, veq_str, cMod, cDiv, cPow, cMul_r, cMul_l, strq, String.reduceEq, sz, szl, dOk_int, dOk_bl, dOk_non, if_true, if_false, Int.reducePow, Int.reduceToNat, Int.reduceMul, Int.reduceAdd, Int.reduceSub, Int.reduceNeg, Int.reduceLT, Int.reduceLE, Int.reduceGT, Int.reduceEq, gt_iff_lt, ge_iff_le, Nat.reducePow, Nat.reduceMul, Nat.reduceLT, Int.cast_ofNat_Int, false_and, and_false, Bool.and_true, Bool.true_and, Bool.and_false, Bool.false_and, Bool.or_true, Bool.true_or, Bool.or_false, Bool.false_or, ↓vD_0, ↓vO_0, ↓rD_0, ↓rO_0, ↓kD_0, ↓kO_0, ↓vD_1, ↓vO_1, ↓rD_1, ↓rO_1, ↓kD_1, ↓kO_1, ↓vD_2, ↓vO_2, ↓rD_2, ↓rO_2, ↓kD_2, ↓kO_2, ↓vD_3, ↓vO_3, ↓rD_3, ↓rO_3, ↓kD_3, ↓kO_3, ↓vD_4, ↓vO_4, ↓rD_4, ↓rO_4, ↓kD_4, ↓kO_4, ↓vD_5, ↓vO_5, ↓rD_5, ↓rO_5, ↓kD_5, ↓kO_5, ↓vD_6, ↓vO_6, ↓rD_6, ↓rO_6, ↓kD_6, ↓kO_6, ↓vD_7, ↓vO_7, ↓rD_7, ↓rO_7, ↓kD_7, ↓kO_7, ↓vD_8, ↓vO_8, ↓rD_8, ↓rO_8, ↓kD_8, ↓kO_8, ↓vD_9, ↓vO_9, ↓rD_9, ↓rO_9, ↓kD_9, ↓kO_9, ↓vD_10, ↓vO_10, ↓rD_10, ↓rO_10, ↓kD_10, ↓kO_10, ↓vD_11, ↓vO_11, ↓rD_11, ↓rO_11, ↓kD_11, ↓kO_11, ↓vD_12, ↓vO_12, ↓rD_12, ↓rO_12, ↓kD_12, ↓kO_12, ↓vD_13, ↓vO_13, ↓rD_13, ↓rO_13, ↓kD_13, ↓kO_13, ↓vD_14, ↓vO_14, ↓rD_14, ↓rO_14, ↓kD_14, ↓kO_14, ↓vD_15, ↓vO_15, ↓rD_15, ↓rO_15, ↓kD_15, ↓kO_15, ↓den_is_integer, ↓b_is_integer, ↓i_int, ↓i_boo]
theorem r_is_between {v lo hi : Int} (h1 : lo ≤ v) (h2 : v ≤ hi) : Ok den_is_between [.dat (.int v), .dat (.int lo), .dat (.int hi)] Q ↔ Q (.dat (.bl true)) [.un, .un, .un] := by
  simp (disch := first | omega | rfl) only [↓ok_d1, ↓ok_d2, ↓ok_d3, ↓ok_d4, ↓ok_d5, ↓ok_d6, ↓ok_d7, ↓ok_bind, ↓ok_ret, ↓ok_bad, ↓ok_mV, ↓ok_rdD, ↓ok_rdT, ↓ok_dtD, ↓ok_dtT, ↓ok_rds0, ↓ok_rdsC, ↓ok_dts0, ↓ok_dtsC, ↓ok_nil, ↓ok_cons, ↓ok_bin, ↓ok_cb, ↓ok_tup, ↓ok_lst, ↓ok_tru, ↓ok_truB, ↓ok_truI, ↓ok_truN, ↓ok_truL, ↓ok_truT, ↓ok_and, ↓ok_or, ↓ok_not, ↓ok_ifE, ↓ok_andV, ↓ok_orV, ↓ok_notV, ↓ok_neg, ↓ok_chain, ↓ok_seq, ↓ok_skip, ↓ok_retS, ↓ok_retN, ↓ok_bk, ↓ok_ct, ↓ok_ex1, ↓ok_if, ↓ok_set, ↓ok_setP, ↓ok_asg, ↓ok_gN, ↓ok_gsN, ↓ok_gsC, ↓ok_gT, ↓ok_gSb, ↓ok_par, ↓ok_put, ↓ok_get, ↓ok_run, ↓ok_call, ↓ok_callK, ↓ok_make, ↓ok_prop, ↓ok_for, ↓ok_items, ↓ok_rng1, ↓ok_rng2, ↓ok_comp, ↓ok_yes, ↓ok_compS0, ↓ok_compSC, wipeE, ↓ok_sl, ↓ok_noP, ↓ok_pt, ↓ok_slL, ↓ok_slT, ↓ok_rep, ↓ok_app, ↓ok_oSub, ↓ok_oMul, ↓ok_oDiv, ↓ok_oMod, ↓ok_oPow, ↓ok_oLt, ↓ok_oLe, ↓ok_oGt, ↓ok_oGe, ↓ok_oAdd, ↓ok_oAddL, ↓ok_oAddI, ↓ok_oEqI, ↓ok_oEqL, ↓ok_oEqT, ↓ok_oEqB, ↓ok_oEqN, ↓ok_oEqS, ↓ok_oNeI, ↓ok_oNeL, ↓ok_oNeT, ↓ok_oNeB, ↓ok_oNeN, ↓ok_oNeS, ↓ok_oIs, ↓ok_oIsN, ↓ix_0, ↓ix_1, ↓ix_2, ↓ix_3, ↓ix_4, ↓it_0, ↓it_1, ↓it_2, ↓it_3, ixn_0, ixn_1, ixn_2, ↓ok_len, ↓ok_lenT, ↓ok_absI, ↓ok_intI, ↓ok_max2, ↓ok_min2, ↓ok_max3, ↓ok_min3, ↓ok_dm, ↓ok_repr, argsE, backE, outE, Pu.M.dt, List.getElem?_cons_zero, List.getElem?_cons_succ, List.set_cons_zero, List.set_cons_succ, List.take_succ_cons, List.take_zero, List.replicate_zero, List.replicate_succ, List.append_nil, List.nil_append, List.cons_append, List.length_cons, List.length_nil, Nat.sub_self, Nat.reduceSub, Nat.reduceAdd, Nat.reduceLeDiff, decide_true, decide_false, reduceCtorEq, noBor, setsE, slotOf, setsS, putFs, putVs, lookV, sel, isNon, Bool.not_true, Bool.not_false, Bool.not_eq_true, decide_eq_true_eq, decide_eq_false_iff_not, Bool.true_eq_false, Bool.false_eq_true, false_implies, true_implies, and_true, true_and, not_true_eq_false, not_false_eq_true, and_self, implies_true, or_false, false_or, List.flatten_cons, List.flatten_nil, true_or, or_true, Int.sub_zero, eq_self, veq_int, veq_str, cMod, cDiv, cPow, cMul_r, cMul_l, strq, String.reduceEq, sz, szl, dOk_int, dOk_bl, dOk_non, if_true, if_false, Int.reducePow, Int.reduceToNat, Int.reduceMul, Int.reduceAdd, Int.reduceSub, Int.reduceNeg, Int.reduceLT, Int.reduceLE, Int.reduceGT, Int.reduceEq, gt_iff_lt, ge_iff_le, Nat.reducePow, Nat.reduceMul, Nat.reduceLT, Int.cast_ofNat_Int, false_and, and_false, Bool.and_true, Bool.true_and, Bool.and_false, Bool.false_and, Bool.or_true, Bool.true_or, Bool.or_false, Bool.false_or, ↓vD_0, ↓vO_0, ↓rD_0, ↓rO_0, ↓kD_0, ↓kO_0, ↓vD_1, ↓vO_1, ↓rD_1, ↓rO_1, ↓kD_1, ↓kO_1, ↓vD_2, ↓vO_2, ↓rD_2, ↓rO_2, ↓kD_2, ↓kO_2, ↓vD_3, ↓vO_3, ↓rD_3, ↓rO_3, ↓kD_3, ↓kO_3, ↓vD_4, ↓vO_4, ↓rD_4, ↓rO_4, ↓kD_4, ↓kO_4, ↓vD_5, ↓vO_5, ↓rD_5, ↓rO_5, ↓kD_5, ↓kO_5, ↓vD_6, ↓vO_6, ↓rD_6, ↓rO_6, ↓kD_6, ↓kO_6, ↓vD_7, ↓vO_7, ↓rD_7, ↓rO_7, ↓kD_7, ↓kO_7, ↓vD_8, ↓vO_8, ↓rD_8, ↓rO_8, ↓kD_8, ↓kO_8, ↓vD_9, ↓vO_9, ↓rD_9, ↓rO_9, ↓kD_9, ↓kO_9, ↓vD_10, ↓vO_10, ↓rD_10, ↓rO_10, ↓kD_10, ↓kO_10, ↓vD_11, ↓vO_11, ↓rD_11, ↓rO_11, ↓kD_11, ↓kO_11, ↓vD_12, ↓vO_12, ↓rD_12, ↓rO_12, ↓kD_12, ↓kO_12, ↓vD_13, ↓vO_13, ↓rD_13, ↓rO_13, ↓kD_13, ↓kO_13, ↓vD_14, ↓vO_14, ↓rD_14, ↓rO_14, ↓kD_14, ↓kO_14, ↓vD_15, ↓vO_15, ↓rD_15, ↓rO_15, ↓kD_15, ↓kO_15, ↓den_is_between, ↓b_is_between, ↓r_is_integer, ↓h1, ↓h2]
theorem r_check_number {v lo hi : Int} (h1 : lo ≤ v) (h2 : v ≤ hi) : Ok den_check_number [.dat (.int v), .dat (.int lo), .dat (.int hi)] Q ↔ Q (.dat .non) [.un, .un, .un] := by
  simp (disch := first | omega | rfl) only [↓ok_d1, ↓ok_d2, ↓ok_d3, ↓ok_d4, ↓ok_d5, ↓ok_d6, ↓ok_d7, ↓ok_bind, ↓ok_ret, ↓ok_bad, ↓ok_mV, ↓ok_rdD, ↓ok_rdT, ↓ok_dtD, ↓ok_dtT, ↓ok_rds0, ↓ok_rdsC, ↓ok_dts0, ↓ok_dtsC, ↓ok_nil, ↓ok_cons, ↓ok_bin, ↓ok_cb, ↓ok_tup, ↓ok_lst, ↓ok_tru, ↓ok_truB, ↓ok_truI, ↓ok_truN, ↓ok_truL, ↓ok_truT, ↓ok_and, ↓ok_or, ↓ok_not, ↓ok_ifE, ↓ok_andV, ↓ok_orV, ↓ok_notV, ↓ok_neg, ↓ok_chain, ↓ok_seq, ↓ok_skip, ↓ok_retS, ↓ok_retN, ↓ok_bk, ↓ok_ct, ↓ok_ex1, ↓ok_if, ↓ok_set, ↓ok_setP, ↓ok_asg, ↓ok_gN, ↓ok_gsN, ↓ok_gsC, ↓ok_gT, ↓ok_gSb, ↓ok_par, ↓ok_put, ↓ok_get, ↓ok_run, ↓ok_call, ↓ok_callK, ↓ok_make, ↓ok_prop, ↓ok_for, ↓ok_items, ↓ok_rng1, ↓ok_rng2, ↓ok_comp, ↓ok_yes, ↓ok_compS0, ↓ok_compSC, wipeE, ↓ok_sl, ↓ok_noP, ↓ok_pt, ↓ok_slL, ↓ok_slT, ↓ok_rep, ↓ok_app, ↓ok_oSub, ↓ok_oMul, ↓ok_oDiv, ↓ok_oMod, ↓ok_oPow, ↓ok_oLt, ↓ok_oLe, ↓ok_oGt, ↓ok_oGe, ↓ok_oAdd, ↓ok_oAddL, ↓ok_oAddI, ↓ok_oEqI, ↓ok_oEqL, ↓ok_oEqT, ↓ok_oEqB, ↓ok_oEqN, ↓ok_oEqS, ↓ok_oNeI, ↓ok_oNeL, ↓ok_oNeT, ↓ok_oNeB, ↓ok_oNeN, ↓ok_oNeS, ↓ok_oIs, ↓ok_oIsN, ↓ix_0, ↓ix_1, ↓ix_2, ↓ix_3, ↓ix_4, ↓it_0, ↓it_1, ↓it_2, ↓it_3, ixn_0, ixn_1, ixn_2, ↓ok_len, ↓ok_lenT, ↓ok_absI, ↓ok_intI, ↓ok_max2, ↓ok_min2, ↓ok_max3, ↓ok_min3, ↓ok_dm, ↓ok_repr, argsE, backE, outE, Pu.M.dt, List.getElem?_cons_zero, List.getElem?_cons_succ, List.set_cons_zero, List.set_cons_succ, List.take_succ_cons, List.take_zero, List.replicate_zero, List.replicate_succ, List.append_nil, List.nil_append, List.cons_append, List.length_cons, List.length_nil, Nat.sub_self, Nat.reduceSub, Nat.reduceAdd, Nat.reduceLeDiff, decide_true, decide_false, reduceCtorEq, noBor, setsE, slotOf, setsS, putFs, putVs, lookV, sel, isNon, Bool.not_true, Bool.not_false, Bool.not_eq_true, decide_eq_true_eq, decide_eq_false_iff_not, Bool.true_eq_false, Bool.false_eq_true, false_implies, true_implies, and_true, true_and, not_true_eq_false, not_false_eq_true, and_self, implies_true, or_false, false_or, List.flatten_cons, List.flatten_nil, true_or, or_true, Int.sub_zero, eq_self, veq_int, veq_str, cMod, cDiv, cPow, cMul_r, cMul_l, strq, String.reduceEq, sz, szl, dOk_int, dOk_bl, dOk_non, if_true, if_false, Int.reducePow, Int.reduceToNat, Int.reduceMul, Int.reduceAdd, Int.reduceSub, Int.reduceNeg, Int.reduceLT, Int.reduceLE, Int.reduceGT, Int.reduceEq, gt_iff_lt, ge_iff_le, Nat.reducePow, Nat.reduceMul, Nat.reduceLT, Int.cast_ofNat_Int, false_and, and_false, Bool.and_true, Bool.true_and, Bool.and_false, Bool.false_and, Bool.or_true, Bool.true_or, Bool.or_false, Bool.false_or, ↓vD_0, ↓vO_0, ↓rD_0, ↓rO_0, ↓kD_0, ↓kO_0, ↓vD_1, ↓vO_1, ↓rD_1, ↓rO_1, ↓kD_1, ↓kO_1, ↓vD_2, ↓vO_2, ↓rD_2, ↓rO_2, ↓kD_2, ↓kO_2, ↓vD_3, ↓vO_3, ↓rD_3, ↓rO_3, ↓kD_3, ↓kO_3, ↓vD_4, ↓vO_4, ↓rD_4, ↓rO_4, ↓kD_4, ↓kO_4, ↓vD_5, ↓vO_5, ↓rD_5, ↓rO_5, ↓kD_5, ↓kO_5, ↓vD_6, ↓vO_6, ↓rD_6, ↓rO_6, ↓kD_6, ↓kO_6, ↓vD_7, ↓vO_7, ↓rD_7, ↓rO_7, ↓kD_7, ↓kO_7, ↓vD_8, ↓vO_8, ↓rD_8, ↓rO_8, ↓kD_8, ↓kO_8, ↓vD_9, ↓vO_9, ↓rD_9, ↓rO_9, ↓kD_9, ↓kO_9, ↓vD_10, ↓vO_10, ↓rD_10, ↓rO_10, ↓kD_10, ↓kO_10, ↓vD_11, ↓vO_11, ↓rD_11, ↓rO_11, ↓kD_11, ↓kO_11, ↓vD_12, ↓vO_12, ↓rD_12, ↓rO_12, ↓kD_12, ↓kO_12, ↓vD_13, ↓vO_13, ↓rD_13, ↓rO_13, ↓kD_13, ↓kO_13, ↓vD_14, ↓vO_14, ↓rD_14, ↓rO_14, ↓kD_14, ↓kO_14, ↓vD_15, ↓vO_15, ↓rD_15, ↓rO_15, ↓kD_15, ↓kO_15, ↓den_check_number, ↓b_check_number, ↓r_is_between h1 h2]
theorem r_check_minute {a : Int} (h1 : 0 ≤ a) (h2 : a ≤ 1000000000000000000000000000000) : Ok den_check_minute [.dat (.int a)] Q ↔ Q (.dat .non) [.un] := by
  simp (disch := first | omega | rfl) only [↓ok_d1, ↓ok_d2, ↓ok_d3, ↓ok_d4, ↓ok_d5, ↓ok_d6, ↓ok_d7, ↓ok_bind, ↓ok_ret, ↓ok_bad, ↓ok_mV, ↓ok_rdD, ↓ok_rdT, ↓ok_dtD, ↓ok_dtT, ↓ok_rds0, ↓ok_rdsC, ↓ok_dts0, ↓ok_dtsC, ↓ok_nil, ↓ok_cons, ↓ok_bin, ↓ok_cb, ↓ok_tup, ↓ok_lst, ↓ok_tru, ↓ok_truB, ↓ok_truI, ↓ok_truN, ↓ok_truL, ↓ok_truT, ↓ok_and, ↓ok_or, ↓ok_not, ↓ok_ifE, ↓ok_andV, ↓ok_orV, ↓ok_notV, ↓ok_neg, ↓ok_chain, ↓ok_seq, ↓ok_skip, ↓ok_retS, ↓ok_retN, ↓ok_bk, ↓ok_ct, ↓ok_ex1, ↓ok_if, ↓ok_set, ↓ok_setP, ↓ok_asg, ↓ok_gN, ↓ok_gsN, ↓ok_gsC, ↓ok_gT, ↓ok_gSb, ↓ok_par, ↓ok_put, ↓ok_get, ↓ok_run, ↓ok_call, ↓ok_callK, ↓ok_make, ↓ok_prop, ↓ok_for, ↓ok_items, ↓ok_rng1, ↓ok_rng2, ↓ok_comp, ↓ok_yes, ↓ok_compS0, ↓ok_compSC, wipeE, ↓ok_sl, ↓ok_noP, ↓ok_pt, ↓ok_slL, ↓ok_slT, ↓ok_rep, ↓ok_app, ↓ok_oSub, ↓ok_oMul, ↓ok_oDiv, ↓ok_oMod, ↓ok_oPow, ↓ok_oLt, ↓ok_oLe, ↓ok_oGt, ↓ok_oGe, ↓ok_oAdd, ↓ok_oAddL, ↓ok_oAddI, ↓ok_oEqI, ↓ok_oEqL, ↓ok_oEqT, ↓ok_oEqB, ↓ok_oEqN, ↓ok_oEqS, ↓ok_oNeI, ↓ok_oNeL, ↓ok_oNeT, ↓ok_oNeB, ↓ok_oNeN, ↓ok_oNeS, ↓ok_oIs, ↓ok_oIsN, ↓ix_0, ↓ix_1, ↓ix_2, ↓ix_3, ↓ix_4, ↓it_0, ↓it_1, ↓it_2, ↓it_3, ixn_0, ixn_1, ixn_2, ↓ok_len, ↓ok_lenT, ↓ok_absI, ↓ok_intI, ↓ok_max2, ↓ok_min2, ↓ok_max3, ↓ok_min3, ↓ok_dm, ↓ok_repr, argsE, backE, outE, Pu.M.dt, List.getElem?_cons_zero, List.getElem?_cons_succ, List.set_cons_zero, List.set_cons_succ, List.take_succ_cons, List.take_zero, List.replicate_zero, List.replicate_succ, List.append_nil, List.nil_append, List.cons_append, List.length_cons, List.length_nil, Nat.sub_self, Nat.reduceSub, Nat.reduceAdd, Nat.reduceLeDiff, decide_true, decide_false, reduceCtorEq, noBor, setsE, slotOf, setsS, putFs, putVs, lookV, sel, isNon, Bool.not_true, Bool.not_false, Bool.not_eq_true, decide_eq_true_eq, decide_eq_false_iff_not, Bool.true_eq_false, Bool.false_eq_true, false_implies, true_implies, and_true, true_and, not_true_eq_false, not_false_eq_true, and_self, implies_true, or_false, false_or, List.flatten_cons, List.flatten_nil, true_or, or_true, Int.sub_zero, eq_self, veq_int, veq_str, cMod, cDiv, cPow, cMul_r, cMul_l, strq, String.reduceEq, sz, szl, dOk_int, dOk_bl, dOk_non, if_true, if_false, Int.reducePow, Int.reduceToNat, Int.reduceMul, Int.reduceAdd, Int.reduceSub, Int.reduceNeg, Int.reduceLT, Int.reduceLE, Int.reduceGT, Int.reduceEq, gt_iff_lt, ge_iff_le, Nat.reducePow, Nat.reduceMul, Nat.reduceLT, Int.cast_ofNat_Int, false_and, and_false, Bool.and_true, Bool.true_and, Bool.and_false, Bool.false_and, Bool.or_true, Bool.true_or, Bool.or_false, Bool.false_or, ↓vD_0, ↓vO_0, ↓rD_0, ↓rO_0, ↓kD_0, ↓kO_0, ↓vD_1, ↓vO_1, ↓rD_1, ↓rO_1, ↓kD_1, ↓kO_1, ↓vD_2, ↓vO_2, ↓rD_2, ↓rO_2, ↓kD_2, ↓kO_2, ↓vD_3, ↓vO_3, ↓rD_3, ↓rO_3, ↓kD_3, ↓kO_3, ↓vD_4, ↓vO_4, ↓rD_4, ↓rO_4, ↓kD_4, ↓kO_4, ↓vD_5, ↓vO_5, ↓rD_5, ↓rO_5, ↓kD_5, ↓kO_5, ↓vD_6, ↓vO_6, ↓rD_6, ↓rO_6, ↓kD_6, ↓kO_6, ↓vD_7, ↓vO_7, ↓rD_7, ↓rO_7, ↓kD_7, ↓kO_7, ↓vD_8, ↓vO_8, ↓rD_8, ↓rO_8, ↓kD_8, ↓kO_8, ↓vD_9, ↓vO_9, ↓rD_9, ↓rO_9, ↓kD_9, ↓kO_9, ↓vD_10, ↓vO_10, ↓rD_10, ↓rO_10, ↓kD_10, ↓kO_10, ↓vD_11, ↓vO_11, ↓rD_11, ↓rO_11, ↓kD_11, ↓kO_11, ↓vD_12, ↓vO_12, ↓rD_12, ↓rO_12, ↓kD_12, ↓kO_12, ↓vD_13, ↓vO_13, ↓rD_13, ↓rO_13, ↓kD_13, ↓kO_13, ↓vD_14, ↓vO_14, ↓rD_14, ↓rO_14, ↓kD_14, ↓kO_14, ↓vD_15, ↓vO_15, ↓rD_15, ↓rO_15, ↓kD_15, ↓kO_15, ↓den_check_minute, ↓b_check_minute, ↓r_check_number h1 h2]
abbrev rV (s l p : Int) (t : Str) : Val := .obj "Rule" ["limit", "parts"] [.int l, .tup [.int s, .str t, .int l, .int p]]
variable {s l p : Int} {t : Str}
theorem r_check_rule : Ok den_check_rule [.dat (rV s l p t)] Q ↔ Q (.dat .non) [.un] := by
  simp (disch := first | omega | rfl) only [↓ok_d1, ↓ok_d2, ↓ok_d3, ↓ok_d4, ↓ok_d5, ↓ok_d6, ↓ok_d7, ↓ok_bind, ↓ok_ret, ↓ok_bad, ↓ok_mV, ↓ok_rdD, ↓ok_rdT, ↓ok_dtD, ↓ok_dtT, ↓ok_rds0, ↓ok_rdsC, ↓ok_dts0, ↓ok_dtsC, ↓ok_nil, ↓ok_cons, ↓ok_bin, ↓ok_cb, ↓ok_tup, ↓ok_lst, ↓ok_tru, ↓ok_truB, ↓ok_truI, ↓ok_truN, ↓ok_truL, ↓ok_truT, ↓ok_and, ↓ok_or, ↓ok_not, ↓ok_ifE, ↓ok_andV, ↓ok_orV, ↓ok_notV, ↓ok_neg, ↓ok_chain, ↓ok_seq, ↓ok_skip, ↓ok_retS, ↓ok_retN, ↓ok_bk, ↓ok_ct, ↓ok_ex1, ↓ok_if, ↓ok_set, ↓ok_setP, ↓ok_asg, ↓ok_gN, ↓ok_gsN, ↓ok_gsC, ↓ok_gT, ↓ok_gSb, ↓ok_par, ↓ok_put, ↓ok_get, ↓ok_run, ↓ok_call, ↓ok_callK, ↓ok_make, ↓ok_prop, ↓ok_for, ↓ok_items, ↓ok_rng1, ↓ok_rng2, ↓ok_comp, ↓ok_yes, ↓ok_compS0, ↓ok_compSC, wipeE, ↓ok_sl, ↓ok_noP, ↓ok_pt, ↓ok_slL, ↓ok_slT, ↓ok_rep, ↓ok_app, ↓ok_oSub, ↓ok_oMul, ↓ok_oDiv, ↓ok_oMod, ↓ok_oPow, ↓ok_oLt, ↓ok_oLe, ↓ok_oGt, ↓ok_oGe, ↓ok_oAdd, ↓ok_oAddL, ↓ok_oAddI, ↓ok_oEqI, ↓ok_oEqL, ↓ok_oEqT, ↓ok_oEqB, ↓ok_oEqN, ↓ok_oEqS, ↓ok_oNeI, ↓ok_oNeL, ↓ok_oNeT, ↓ok_oNeB, ↓ok_oNeN, ↓ok_oNeS, ↓ok_oIs, ↓ok_oIsN, ↓ix_0, ↓ix_1, ↓ix_2, ↓ix_3, ↓ix_4, ↓it_0, ↓it_1, ↓it_2, ↓it_3, ixn_0, ixn_1, ixn_2, ↓ok_len, ↓ok_lenT, ↓ok_absI, ↓ok_intI, ↓ok_max2, ↓ok_min2, ↓ok_max3, ↓ok_min3, ↓ok_dm, ↓ok_repr, argsE, backE, outE, Pu.M.dt, List.getElem?_cons_zero, List.getElem?_cons_succ, List.set_cons_zero, List.set_cons_succ, List.take_succ_cons, List.take_zero, List.replicate_zero, List.replicate_succ, List.append_nil, List.nil_append, List.cons_append, List.length_cons, List.length_nil, Nat.sub_self, Nat.reduceSub, Nat.reduceAdd, Nat.reduceLeDiff, decide_true, decide_false, reduceCtorEq, noBor, setsE, slotOf, setsS, putFs, putVs, lookV, sel, isNon, Bool.not_true, Bool.not_false, Bool.not_eq_true, decide_eq_true_eq, decide_eq_false_iff_not, Bool.true_eq_false, Bool.false_eq_true, false_implies, true_implies, and_true, true_and, not_true_eq_false, not_false_eq_true, and_self, implies_true, or_false, false_or, List.flatten_cons, List.flatten_nil, true_or, or_true, Int.sub_zero, eq_self, veq_int, veq_str, cMod, cDiv, cPow, cMul_r, cMul_l, strq, String.reduceEq, sz, szl, dOk_int, dOk_bl, dOk_non, if_true, if_false, Int.reducePow, Int.reduceToNat, Int.reduceMul, Int.reduceAdd, Int.reduceSub, Int.reduceNeg, Int.reduceLT, Int.reduceLE, Int.reduceGT, Int.reduceEq, gt_iff_lt, ge_iff_le, Nat.reducePow, Nat.reduceMul, Nat.reduceLT, Int.cast_ofNat_Int, false_and, and_false, Bool.and_true, Bool.true_and, Bool.and_false, Bool.false_and, Bool.or_true, Bool.true_or, Bool.or_false, Bool.false_or, ↓vD_0, ↓vO_0, ↓rD_0, ↓rO_0, ↓kD_0, ↓kO_0, ↓vD_1, ↓vO_1, ↓rD_1, ↓rO_1, ↓kD_1, ↓kO_1, ↓vD_2, ↓vO_2, ↓rD_2, ↓rO_2, ↓kD_2, ↓kO_2, ↓vD_3, ↓vO_3, ↓rD_3, ↓rO_3, ↓kD_3, ↓kO_3, ↓vD_4, ↓vO_4, ↓rD_4, ↓rO_4, ↓kD_4, ↓kO_4, ↓vD_5, ↓vO_5, ↓rD_5, ↓rO_5, ↓kD_5, ↓kO_5, ↓vD_6, ↓vO_6, ↓rD_6, ↓rO_6, ↓kD_6, ↓kO_6, ↓vD_7, ↓vO_7, ↓rD_7, ↓rO_7, ↓kD_7, ↓kO_7, ↓vD_8, ↓vO_8, ↓rD_8, ↓rO_8, ↓kD_8, ↓kO_8, ↓vD_9, ↓vO_9, ↓rD_9, ↓rO_9, ↓kD_9, ↓kO_9, ↓vD_10, ↓vO_10, ↓rD_10, ↓rO_10, ↓kD_10, ↓kO_10, ↓vD_11, ↓vO_11, ↓rD_11, ↓rO_11, ↓kD_11, ↓kO_11, ↓vD_12, ↓vO_12, ↓rD_12, ↓rO_12, ↓kD_12, ↓kO_12, ↓vD_13, ↓vO_13, ↓rD_13, ↓rO_13, ↓kD_13, ↓kO_13, ↓vD_14, ↓vO_14, ↓rD_14, ↓rO_14, ↓kD_14, ↓kO_14, ↓vD_15, ↓vO_15, ↓rD_15, ↓rO_15, ↓kD_15, ↓kO_15, ↓den_check_rule, ↓b_check_rule, ↓i_rul]
theorem r_step : Ok den_Rule__step [.dat (rV s l p t)] Q ↔ Q (.dat (.int s)) [.un] := by
  simp (disch := first | omega | rfl) only [↓ok_d1, ↓ok_d2, ↓ok_d3, ↓ok_d4, ↓ok_d5, ↓ok_d6, ↓ok_d7, ↓ok_bind, ↓ok_ret, ↓ok_bad, ↓ok_mV, ↓ok_rdD, ↓ok_rdT, ↓ok_dtD, ↓ok_dtT, ↓ok_rds0, ↓ok_rdsC, ↓ok_dts0, ↓ok_dtsC, ↓ok_nil, ↓ok_cons, ↓ok_bin, ↓ok_cb, ↓ok_tup, ↓ok_lst, ↓ok_tru, ↓ok_truB, ↓ok_truI, ↓ok_truN, ↓ok_truL, ↓ok_truT, ↓ok_and, ↓ok_or, ↓ok_not, ↓ok_ifE, ↓ok_andV, ↓ok_orV, ↓ok_notV, ↓ok_neg, ↓ok_chain, ↓ok_seq, ↓ok_skip, ↓ok_retS, ↓ok_retN, ↓ok_bk, ↓ok_ct, ↓ok_ex1, ↓ok_if, ↓ok_set, ↓ok_setP, ↓ok_asg, ↓ok_gN, ↓ok_gsN, ↓ok_gsC, ↓ok_gT, ↓ok_gSb, ↓ok_par, ↓ok_put, ↓ok_get, ↓ok_run, ↓ok_call, ↓ok_callK, ↓ok_make, ↓ok_prop, ↓ok_for, ↓ok_items, ↓ok_rng1, ↓ok_rng2, ↓ok_comp, ↓ok_yes, ↓ok_compS0, ↓ok_compSC, wipeE, ↓ok_sl, ↓ok_noP, ↓ok_pt, ↓ok_slL, ↓ok_slT, ↓ok_rep, ↓ok_app, ↓ok_oSub, ↓ok_oMul, ↓ok_oDiv, ↓ok_oMod, ↓ok_oPow, ↓ok_oLt, ↓ok_oLe, ↓ok_oGt, ↓ok_oGe, ↓ok_oAdd, ↓ok_oAddL, ↓ok_oAddI, ↓ok_oEqI, ↓ok_oEqL, ↓ok_oEqT, ↓ok_oEqB, ↓ok_oEqN, ↓ok_oEqS, ↓ok_oNeI, ↓ok_oNeL, ↓ok_oNeT, ↓ok_oNeB, ↓ok_oNeN, ↓ok_oNeS, ↓ok_oIs, ↓ok_oIsN, ↓ix_0, ↓ix_1, ↓ix_2, ↓ix_3, ↓ix_4, ↓it_0, ↓it_1, ↓it_2, ↓it_3, ixn_0, ixn_1, ixn_2, ↓ok_len, ↓ok_lenT, ↓ok_absI, ↓ok_intI, ↓ok_max2, ↓ok_min2, ↓ok_max3, ↓ok_min3, ↓ok_dm, ↓ok_repr, argsE, backE, outE, Pu.M.dt, List.getElem?_cons_zero, List.getElem?_cons_succ, List.set_cons_zero, List.set_cons_succ, List.take_succ_cons, List.take_zero, List.replicate_zero, List.replicate_succ, List.append_nil, List.nil_append, List.cons_append, List.length_cons, List.length_nil, Nat.sub_self, Nat.reduceSub, Nat.reduceAdd, Nat.reduceLeDiff, decide_true, decide_false, reduceCtorEq, noBor, setsE, slotOf, setsS, putFs, putVs, lookV, sel, isNon, Bool.not_true, Bool.not_false, Bool.not_eq_true, decide_eq_true_eq, decide_eq_false_iff_not, Bool.true_eq_false, Bool.false_eq_true, false_implies, true_implies, and_true, true_and, not_true_eq_false, not_false_eq_true, and_self, implies_true, or_false, false_or, List.flatten_cons, List.flatten_nil, true_or, or_true, Int.sub_zero, eq_self, veq_int, veq_str, cMod, cDiv, cPow, cMul_r, cMul_l, strq, String.reduceEq, sz, szl, dOk_int, dOk_bl, dOk_non, if_true, if_false, Int.reducePow, Int.reduceToNat, Int.reduceMul, Int.reduceAdd, Int.reduceSub, Int.reduceNeg, Int.reduceLT, Int.reduceLE, Int.reduceGT, Int.reduceEq, gt_iff_lt, ge_iff_le, Nat.reducePow, Nat.reduceMul, Nat.reduceLT, Int.cast_ofNat_Int, false_and, and_false, Bool.and_true, Bool.true_and, Bool.and_false, Bool.false_and, Bool.or_true, Bool.true_or, Bool.or_false, Bool.false_or, ↓vD_0, ↓vO_0, ↓rD_0, ↓rO_0, ↓kD_0, ↓kO_0, ↓vD_1, ↓vO_1, ↓rD_1, ↓rO_1, ↓kD_1, ↓kO_1, ↓vD_2, ↓vO_2, ↓rD_2, ↓rO_2, ↓kD_2, ↓kO_2, ↓vD_3, ↓vO_3, ↓rD_3, ↓rO_3, ↓kD_3, ↓kO_3, ↓vD_4, ↓vO_4, ↓rD_4, ↓rO_4, ↓kD_4, ↓kO_4, ↓vD_5, ↓vO_5, ↓rD_5, ↓rO_5, ↓kD_5, ↓kO_5, ↓vD_6, ↓vO_6, ↓rD_6, ↓rO_6, ↓kD_6, ↓kO_6, ↓vD_7, ↓vO_7, ↓rD_7, ↓rO_7, ↓kD_7, ↓kO_7, ↓vD_8, ↓vO_8, ↓rD_8, ↓rO_8, ↓kD_8, ↓kO_8, ↓vD_9, ↓vO_9, ↓rD_9, ↓rO_9, ↓kD_9, ↓kO_9, ↓vD_10, ↓vO_10, ↓rD_10, ↓rO_10, ↓kD_10, ↓kO_10, ↓vD_11, ↓vO_11, ↓rD_11, ↓rO_11, ↓kD_11, ↓kO_11, ↓vD_12, ↓vO_12, ↓rD_12, ↓rO_12, ↓kD_12, ↓kO_12, ↓vD_13, ↓vO_13, ↓rD_13, ↓rO_13, ↓kD_13, ↓kO_13, ↓vD_14, ↓vO_14, ↓rD_14, ↓rO_14, ↓kD_14, ↓kO_14, ↓vD_15, ↓vO_15, ↓rD_15, ↓rO_15, ↓kD_15, ↓kO_15, ↓den_Rule__step, ↓b_Rule__step]
theorem r_setting : Ok den_Rule__setting [.dat (rV s l p t)] Q ↔ Q (.dat (.str t)) [.un] := by
  simp (disch := first | omega | rfl) only [↓ok_d1, ↓ok_d2, ↓ok_d3, ↓ok_d4, ↓ok_d5, ↓ok_d6, ↓ok_d7, ↓ok_bind, ↓ok_ret, ↓ok_bad, ↓ok_mV, ↓ok_rdD, ↓ok_rdT, ↓ok_dtD, ↓ok_dtT, ↓ok_rds0, ↓ok_rdsC, ↓ok_dts0, ↓ok_dtsC, ↓ok_nil, ↓ok_cons, ↓ok_bin, ↓ok_cb, ↓ok_tup, ↓ok_lst, ↓ok_tru, ↓ok_truB, ↓ok_truI, ↓ok_truN, ↓ok_truL, ↓ok_truT, ↓ok_and, ↓ok_or, ↓ok_not, ↓ok_ifE, ↓ok_andV, ↓ok_orV, ↓ok_notV, ↓ok_neg, ↓ok_chain, ↓ok_seq, ↓ok_skip, ↓ok_retS, ↓ok_retN, ↓ok_bk, ↓ok_ct, ↓ok_ex1, ↓ok_if, ↓ok_set, ↓ok_setP, ↓ok_asg, ↓ok_gN, ↓ok_gsN, ↓ok_gsC, ↓ok_gT, ↓ok_gSb, ↓ok_par, ↓ok_put, ↓ok_get, ↓ok_run, ↓ok_call, ↓ok_callK, ↓ok_make, ↓ok_prop, ↓ok_for, ↓ok_items, ↓ok_rng1, ↓ok_rng2, ↓ok_comp, ↓ok_yes, ↓ok_compS0, ↓ok_compSC, wipeE, ↓ok_sl, ↓ok_noP, ↓ok_pt, ↓ok_slL, ↓ok_slT, ↓ok_rep, ↓ok_app, ↓ok_oSub, ↓ok_oMul, ↓ok_oDiv, ↓ok_oMod, ↓ok_oPow, ↓ok_oLt, ↓ok_oLe, ↓ok_oGt, ↓ok_oGe, ↓ok_oAdd, ↓ok_oAddL, ↓ok_oAddI, ↓ok_oEqI, ↓ok_oEqL, ↓ok_oEqT, ↓ok_oEqB, ↓ok_oEqN, ↓ok_oEqS, ↓ok_oNeI, ↓ok_oNeL, ↓ok_oNeT, ↓ok_oNeB, ↓ok_oNeN, ↓ok_oNeS, ↓ok_oIs, ↓ok_oIsN, ↓ix_0, ↓ix_1, ↓ix_2, ↓ix_3, ↓ix_4, ↓it_0, ↓it_1, ↓it_2, ↓it_3, ixn_0, ixn_1, ixn_2, ↓ok_len, ↓ok_lenT, ↓ok_absI, ↓ok_intI, ↓ok_max2, ↓ok_min2, ↓ok_max3, ↓ok_min3, ↓ok_dm, ↓ok_repr, argsE, backE, outE, Pu.M.dt, List.getElem?_cons_zero, List.getElem?_cons_succ, List.set_cons_zero, List.set_cons_succ, List.take_succ_cons, List.take_zero, List.replicate_zero, List.replicate_succ, List.append_nil, List.nil_append, List.cons_append, List.length_cons, List.length_nil, Nat.sub_self, Nat.reduceSub, Nat.reduceAdd, Nat.reduceLeDiff, decide_true, decide_false, reduceCtorEq, noBor, setsE, slotOf, setsS, putFs, putVs, lookV, sel, isNon, Bool.not_true, Bool.not_false, Bool.not_eq_true, decide_eq_true_eq, decide_eq_false_iff_not, Bool.true_eq_false, Bool.false_eq_true, false_implies, true_implies, and_true, true_and, not_true_eq_false, not_false_eq_true, and_self, implies_true, or_false, false_or, List.flatten_cons, List.flatten_nil, true_or, or_true, Int.sub_zero, eq_self, veq_int, veq_str, cMod, cDiv, cPow, cMul_r, cMul_l, strq, String.reduceEq, sz, szl, dOk_int, dOk_bl, dOk_non, if_true, if_false, Int.reducePow, Int.reduceToNat, Int.reduceMul, Int.reduceAdd, Int.reduceSub, Int.reduceNeg, Int.reduceLT, Int.reduceLE, Int.reduceGT, Int.reduceEq, gt_iff_lt, ge_iff_le, Nat.reducePow, Nat.reduceMul, Nat.reduceLT, Int.cast_ofNat_Int, false_and, and_false, Bool.and_true, Bool.true_and, Bool.and_false, Bool.false_and, Bool.or_true, Bool.true_or, Bool.or_false, Bool.false_or, ↓vD_0, ↓vO_0, ↓rD_0, ↓rO_0, ↓kD_0, ↓kO_0, ↓vD_1, ↓vO_1, ↓rD_1, ↓rO_1, ↓kD_1, ↓kO_1, ↓vD_2, ↓vO_2, ↓rD_2, ↓rO_2, ↓kD_2, ↓kO_2, ↓vD_3, ↓vO_3, ↓rD_3, ↓rO_3, ↓kD_3, ↓kO_3, ↓vD_4, ↓vO_4, ↓rD_4, ↓rO_4, ↓kD_4, ↓kO_4, ↓vD_5, ↓vO_5, ↓rD_5, ↓rO_5, ↓kD_5, ↓kO_5, ↓vD_6, ↓vO_6, ↓rD_6, ↓rO_6, ↓kD_6, ↓kO_6, ↓vD_7, ↓vO_7, ↓rD_7, ↓rO_7, ↓kD_7, ↓kO_7, ↓vD_8, ↓vO_8, ↓rD_8, ↓rO_8, ↓kD_8, ↓kO_8, ↓vD_9, ↓vO_9, ↓rD_9, ↓rO_9, ↓kD_9, ↓kO_9, ↓vD_10, ↓vO_10, ↓rD_10, ↓rO_10, ↓kD_10, ↓kO_10, ↓vD_11, ↓vO_11, ↓rD_11, ↓rO_11, ↓kD_11, ↓kO_11, ↓vD_12, ↓vO_12, ↓rD_12, ↓rO_12, ↓kD_12, ↓kO_12, ↓vD_13, ↓vO_13, ↓rD_13, ↓rO_13, ↓kD_13, ↓kO_13, ↓vD_14, ↓vO_14, ↓rD_14, ↓rO_14, ↓kD_14, ↓kO_14, ↓vD_15, ↓vO_15, ↓rD_15, ↓rO_15, ↓kD_15, ↓kO_15, ↓den_Rule__setting, ↓b_Rule__setting]
def low (t : Str) (s : Int) : Int := if t = "next" then 0 else if t = "last" then 1 - s else -((s - 1) / 2)
def high (t : Str) (s : Int) : Int := if t = "next" then s - 1 else if t = "last" then 0 else s / 2
theorem r_reach : Ok den_reach [.dat (rV s l p t)] Q ↔ Q (.dat (.tup [.int (low t s), .int (high t s)])) [.un] := by
  unfold low high
  by_cases h1 : t = "next"
  · simp (disch := first | omega | rfl) only [↓ok_d1, ↓ok_d2, ↓ok_d3, ↓ok_d4, ↓ok_d5, ↓ok_d6, ↓ok_d7, ↓ok_bind, ↓ok_ret, ↓ok_bad, ↓ok_mV, ↓ok_rdD, ↓ok_rdT, ↓ok_dtD, ↓ok_dtT, ↓ok_rds0, ↓ok_rdsC, ↓ok_dts0, ↓ok_dtsC, ↓ok_nil, ↓ok_cons, ↓ok_bin, ↓ok_cb, ↓ok_tup, ↓ok_lst, ↓ok_tru, ↓ok_truB, ↓ok_truI, ↓ok_truN, ↓ok_truL, ↓ok_truT, ↓ok_and, ↓ok_or, ↓ok_not, ↓ok_ifE, ↓ok_andV, ↓ok_orV, ↓ok_notV, ↓ok_neg, ↓ok_chain, ↓ok_seq, ↓ok_skip, ↓ok_retS, ↓ok_retN, ↓ok_bk, ↓ok_ct, ↓ok_ex1, ↓ok_if, ↓ok_set, ↓ok_setP, ↓ok_asg, ↓ok_gN, ↓ok_gsN, ↓ok_gsC, ↓ok_gT, ↓ok_gSb, ↓ok_par, ↓ok_put, ↓ok_get, ↓ok_run, ↓ok_call, ↓ok_callK, ↓ok_make, ↓ok_prop, ↓ok_for, ↓ok_items, ↓ok_rng1, ↓ok_rng2, ↓ok_comp, ↓ok_yes, ↓ok_compS0, ↓ok_compSC, wipeE, ↓ok_sl, ↓ok_noP, ↓ok_pt, ↓ok_slL, ↓ok_slT, ↓ok_rep, ↓ok_app, ↓ok_oSub, ↓ok_oMul, ↓ok_oDiv, ↓ok_oMod, ↓ok_oPow, ↓ok_oLt, ↓ok_oLe, ↓ok_oGt, ↓ok_oGe, ↓ok_oAdd, ↓ok_oAddL, ↓ok_oAddI, ↓ok_oEqI, ↓ok_oEqL, ↓ok_oEqT, ↓ok_oEqB, ↓ok_oEqN, ↓ok_oEqS, ↓ok_oNeI, ↓ok_oNeL, ↓ok_oNeT, ↓ok_oNeB, ↓ok_oNeN, ↓ok_oNeS, ↓ok_oIs, ↓ok_oIsN, ↓ix_0, ↓ix_1, ↓ix_2, ↓ix_3, ↓ix_4, ↓it_0, ↓it_1, ↓it_2, ↓it_3, ixn_0, ixn_1, ixn_2, ↓ok_len, ↓ok_lenT, ↓ok_absI, ↓ok_intI, ↓ok_max2, ↓ok_min2, ↓ok_max3, ↓ok_min3, ↓ok_dm, ↓ok_repr, argsE, backE, outE, Pu.M.dt, List.getElem?_cons_zero, List.getElem?_cons_succ, List.set_cons_zero, List.set_cons_succ, List.take_succ_cons, List.take_zero, List.replicate_zero, List.replicate_succ, List.append_nil, List.nil_append, List.cons_append, List.length_cons, List.length_nil, Nat.sub_self, Nat.reduceSub, Nat.reduceAdd, Nat.reduceLeDiff, decide_true, decide_false, reduceCtorEq, noBor, setsE, slotOf, setsS, putFs, putVs, lookV, sel, isNon, Bool.not_true, Bool.not_false, Bool.not_eq_true, decide_eq_true_eq, decide_eq_false_iff_not, Bool.true_eq_false, Bool.false_eq_true, false_implies, true_implies, and_true, true_and, not_true_eq_false, not_false_eq_true, and_self, implies_true, or_false, false_or, List.flatten_cons, List.flatten_nil, true_or, or_true, Int.sub_zero, eq_self, veq_int, veq_str, cMod, cDiv, cPow, cMul_r, cMul_l, strq, String.reduceEq, sz, szl, dOk_int, dOk_bl, dOk_non, if_true, if_false, Int.reducePow, Int.reduceToNat, Int.reduceMul, Int.reduceAdd, Int.reduceSub, Int.reduceNeg, Int.reduceLT, Int.reduceLE, Int.reduceGT, Int.reduceEq, gt_iff_lt, ge_iff_le, Nat.reducePow, Nat.reduceMul, Nat.reduceLT, Int.cast_ofNat_Int, false_and, and_false, Bool.and_true, Bool.true_and, Bool.and_false, Bool.false_and, Bool.or_true, Bool.true_or, Bool.or_false, Bool.false_or, ↓vD_0, ↓vO_0, ↓rD_0, ↓rO_0, ↓kD_0, ↓kO_0, ↓vD_1, ↓vO_1, ↓rD_1, ↓rO_1, ↓kD_1, ↓kO_1, ↓vD_2, ↓vO_2, ↓rD_2, ↓rO_2, ↓kD_2, ↓kO_2, ↓vD_3, ↓vO_3, ↓rD_3, ↓rO_3, ↓kD_3, ↓kO_3, ↓vD_4, ↓vO_4, ↓rD_4, ↓rO_4, ↓kD_4, ↓kO_4, ↓vD_5, ↓vO_5, ↓rD_5, ↓rO_5, ↓kD_5, ↓kO_5, ↓vD_6, ↓vO_6, ↓rD_6, ↓rO_6, ↓kD_6, ↓kO_6, ↓vD_7, ↓vO_7, ↓rD_7, ↓rO_7, ↓kD_7, ↓kO_7, ↓vD_8, ↓vO_8, ↓rD_8, ↓rO_8, ↓kD_8, ↓kO_8, ↓vD_9, ↓vO_9, ↓rD_9, ↓rO_9, ↓kD_9, ↓kO_9, ↓vD_10, ↓vO_10, ↓rD_10, ↓rO_10, ↓kD_10, ↓kO_10, ↓vD_11, ↓vO_11, ↓rD_11, ↓rO_11, ↓kD_11, ↓kO_11, ↓vD_12, ↓vO_12, ↓rD_12, ↓rO_12, ↓kD_12, ↓kO_12, ↓vD_13, ↓vO_13, ↓rD_13, ↓rO_13, ↓kD_13, ↓kO_13, ↓vD_14, ↓vO_14, ↓rD_14, ↓rO_14, ↓kD_14, ↓kO_14, ↓vD_15, ↓vO_15, ↓rD_15, ↓rO_15, ↓kD_15, ↓kO_15, ↓den_reach, ↓b_reach, ↓r_setting, ↓r_step, ↓h1]
  · by_cases h2 : t = "last"
    · simp (disch := first | omega | rfl) only [↓ok_d1, ↓ok_d2, ↓ok_d3, ↓ok_d4, ↓ok_d5, ↓ok_d6, ↓ok_d7, ↓ok_bind, ↓ok_ret, ↓ok_bad, ↓ok_mV, ↓ok_rdD, ↓ok_rdT, ↓ok_dtD, ↓ok_dtT, ↓ok_rds0, ↓ok_rdsC, ↓ok_dts0, ↓ok_dtsC, ↓ok_nil, ↓ok_cons, ↓ok_bin, ↓ok_cb, ↓ok_tup, ↓ok_lst, ↓ok_tru, ↓ok_truB, ↓ok_truI, ↓ok_truN, ↓ok_truL, ↓ok_truT, ↓ok_and, ↓ok_or, ↓ok_not, ↓ok_ifE, ↓ok_andV, ↓ok_orV, ↓ok_notV, ↓ok_neg, ↓ok_chain, ↓ok_seq, ↓ok_skip, ↓ok_retS, ↓ok_retN, ↓ok_bk, ↓ok_ct, ↓ok_ex1, ↓ok_if, ↓ok_set, ↓ok_setP, ↓ok_asg, ↓ok_gN, ↓ok_gsN, ↓ok_gsC, ↓ok_gT, ↓ok_gSb, ↓ok_par, ↓ok_put, ↓ok_get, ↓ok_run, ↓ok_call, ↓ok_callK, ↓ok_make, ↓ok_prop, ↓ok_for, ↓ok_items, ↓ok_rng1, ↓ok_rng2, ↓ok_comp, ↓ok_yes, ↓ok_compS0, ↓ok_compSC, wipeE, ↓ok_sl, ↓ok_noP, ↓ok_pt, ↓ok_slL, ↓ok_slT, ↓ok_rep, ↓ok_app, ↓ok_oSub, ↓ok_oMul, ↓ok_oDiv, ↓ok_oMod, ↓ok_oPow, ↓ok_oLt, ↓ok_oLe, ↓ok_oGt, ↓ok_oGe, ↓ok_oAdd, ↓ok_oAddL, ↓ok_oAddI, ↓ok_oEqI, ↓ok_oEqL, ↓ok_oEqT, ↓ok_oEqB, ↓ok_oEqN, ↓ok_oEqS, ↓ok_oNeI, ↓ok_oNeL, ↓ok_oNeT, ↓ok_oNeB, ↓ok_oNeN, ↓ok_oNeS, ↓ok_oIs, ↓ok_oIsN, ↓ix_0, ↓ix_1, ↓ix_2, ↓ix_3, ↓ix_4, ↓it_0, ↓it_1, ↓it_2, ↓it_3, ixn_0, ixn_1, ixn_2, ↓ok_len, ↓ok_lenT, ↓ok_absI, ↓ok_intI, ↓ok_max2, ↓ok_min2, ↓ok_max3, ↓ok_min3, ↓ok_dm, ↓ok_repr, argsE, backE, outE, Pu.M.dt, List.getElem?_cons_zero, List.getElem?_cons_succ, List.set_cons_zero, List.set_cons_succ, List.take_succ_cons, List.take_zero, List.replicate_zero, List.replicate_succ, List.append_nil, List.nil_append, List.cons_append, List.length_cons, List.length_nil, Nat.sub_self, Nat.reduceSub, Nat.reduceAdd, Nat.reduceLeDiff, decide_true, decide_false, reduceCtorEq, noBor, setsE, slotOf, setsS, putFs, putVs, lookV, sel, isNon, Bool.not_true, Bool.not_false, Bool.not_eq_true, decide_eq_true_eq, decide_eq_false_iff_not, Bool.true_eq_false, Bool.false_eq_true, false_implies, true_implies, and_true, true_and, not_true_eq_false, not_false_eq_true, and_self, implies_true, or_false, false_or, List.flatten_cons, List.flatten_nil, true_or, or_true, Int.sub_zero, eq_self, veq_int, veq_str, cMod, cDiv, cPow, cMul_r, cMul_l, strq, String.reduceEq, sz, szl, dOk_int, dOk_bl, dOk_non, if_true, if_false, Int.reducePow, Int.reduceToNat, Int.reduceMul, Int.reduceAdd, Int.reduceSub, Int.reduceNeg, Int.reduceLT, Int.reduceLE, Int.reduceGT, Int.reduceEq, gt_iff_lt, ge_iff_le, Nat.reducePow, Nat.reduceMul, Nat.reduceLT, Int.cast_ofNat_Int, false_and, and_false, Bool.and_true, Bool.true_and, Bool.and_false, Bool.false_and, Bool.or_true, Bool.true_or, Bool.or_false, Bool.false_or, ↓vD_0, ↓vO_0, ↓rD_0, ↓rO_0, ↓kD_0, ↓kO_0, ↓vD_1, ↓vO_1, ↓rD_1, ↓rO_1, ↓kD_1, ↓kO_1, ↓vD_2, ↓vO_2, ↓rD_2, ↓rO_2, ↓kD_2, ↓kO_2, ↓vD_3, ↓vO_3, ↓rD_3, ↓rO_3, ↓kD_3, ↓kO_3, ↓vD_4, ↓vO_4, ↓rD_4, ↓rO_4, ↓kD_4, ↓kO_4, ↓vD_5, ↓vO_5, ↓rD_5, ↓rO_5, ↓kD_5, ↓kO_5, ↓vD_6, ↓vO_6, ↓rD_6, ↓rO_6, ↓kD_6, ↓kO_6, ↓vD_7, ↓vO_7, ↓rD_7, ↓rO_7, ↓kD_7, ↓kO_7, ↓vD_8, ↓vO_8, ↓rD_8, ↓rO_8, ↓kD_8, ↓kO_8, ↓vD_9, ↓vO_9, ↓rD_9, ↓rO_9, ↓kD_9, ↓kO_9, ↓vD_10, ↓vO_10, ↓rD_10, ↓rO_10, ↓kD_10, ↓kO_10, ↓vD_11, ↓vO_11, ↓rD_11, ↓rO_11, ↓kD_11, ↓kO_11, ↓vD_12, ↓vO_12, ↓rD_12, ↓rO_12, ↓kD_12, ↓kO_12, ↓vD_13, ↓vO_13, ↓rD_13, ↓rO_13, ↓kD_13, ↓kO_13, ↓vD_14, ↓vO_14, ↓rD_14, ↓rO_14, ↓kD_14, ↓kO_14, ↓vD_15, ↓vO_15, ↓rD_15, ↓rO_15, ↓kD_15, ↓kO_15, ↓den_reach, ↓b_reach, ↓r_setting, ↓r_step, ↓h1, ↓h2]
    · simp (disch := first | omega | rfl) only [↓ok_d1, ↓ok_d2, ↓ok_d3, ↓ok_d4, ↓ok_d5, ↓ok_d6, ↓ok_d7, ↓ok_bind, ↓ok_ret, ↓ok_bad, ↓ok_mV, ↓ok_rdD, ↓ok_rdT, ↓ok_dtD, ↓ok_dtT, ↓ok_rds0, ↓ok_rdsC, ↓ok_dts0, ↓ok_dtsC, ↓ok_nil, ↓ok_cons, ↓ok_bin, ↓ok_cb, ↓ok_tup, ↓ok_lst, ↓ok_tru, ↓ok_truB, ↓ok_truI, ↓ok_truN, ↓ok_truL, ↓ok_truT, ↓ok_and, ↓ok_or, ↓ok_not, ↓ok_ifE, ↓ok_andV, ↓ok_orV, ↓ok_notV, ↓ok_neg, ↓ok_chain, ↓ok_seq, ↓ok_skip, ↓ok_retS, ↓ok_retN, ↓ok_bk, ↓ok_ct, ↓ok_ex1, ↓ok_if, ↓ok_set, ↓ok_setP, ↓ok_asg, ↓ok_gN, ↓ok_gsN, ↓ok_gsC, ↓ok_gT, ↓ok_gSb, ↓ok_par, ↓ok_put, ↓ok_get, ↓ok_run, ↓ok_call, ↓ok_callK, ↓ok_make, ↓ok_prop, ↓ok_for, ↓ok_items, ↓ok_rng1, ↓ok_rng2, ↓ok_comp, ↓ok_yes, ↓ok_compS0, ↓ok_compSC, wipeE, ↓ok_sl, ↓ok_noP, ↓ok_pt, ↓ok_slL, ↓ok_slT, ↓ok_rep, ↓ok_app, ↓ok_oSub, ↓ok_oMul, ↓ok_oDiv, ↓ok_oMod, ↓ok_oPow, ↓ok_oLt, ↓ok_oLe, ↓ok_oGt, ↓ok_oGe, ↓ok_oAdd, ↓ok_oAddL, ↓ok_oAddI, ↓ok_oEqI, ↓ok_oEqL, ↓ok_oEqT, ↓ok_oEqB, ↓ok_oEqN, ↓ok_oEqS, ↓ok_oNeI, ↓ok_oNeL, ↓ok_oNeT, ↓ok_oNeB, ↓ok_oNeN, ↓ok_oNeS, ↓ok_oIs, ↓ok_oIsN, ↓ix_0, ↓ix_1, ↓ix_2, ↓ix_3, ↓ix_4, ↓it_0, ↓it_1, ↓it_2, ↓it_3, ixn_0, ixn_1, ixn_2, ↓ok_len, ↓ok_lenT, ↓ok_absI, ↓ok_intI, ↓ok_max2, ↓ok_min2, ↓ok_max3, ↓ok_min3, ↓ok_dm, ↓ok_repr, argsE, backE, outE, Pu.M.dt, List.getElem?_cons_zero, List.getElem?_cons_succ, List.set_cons_zero, List.set_cons_succ, List.take_succ_cons, List.take_zero, List.replicate_zero, List.replicate_succ, List.append_nil, List.nil_append, List.cons_append, List.length_cons, List.length_nil, Nat.sub_self, Nat.reduceSub, Nat.reduceAdd, Nat.reduceLeDiff, decide_true, decide_false, reduceCtorEq, noBor, setsE, slotOf, setsS, putFs, putVs, lookV, sel, isNon, Bool.not_true, Bool.not_false, Bool.not_eq_true, decide_eq_true_eq, decide_eq_false_iff_not, Bool.true_eq_false, Bool.false_eq_true, false_implies, true_implies, and_true, true_and, not_true_eq_false, not_false_eq_true, and_self, implies_true, or_false, false_or, List.flatten_cons, List.flatten_nil, true_or, or_true, Int.sub_zero, eq_self, veq_int, veq_str, cMod, cDiv, cPow, cMul_r, cMul_l, strq, String.reduceEq, sz, szl, dOk_int, dOk_bl, dOk_non, if_true, if_false, Int.reducePow, Int.reduceToNat, Int.reduceMul, Int.reduceAdd, Int.reduceSub, Int.reduceNeg, Int.reduceLT, Int.reduceLE, Int.reduceGT, Int.reduceEq, gt_iff_lt, ge_iff_le, Nat.reducePow, Nat.reduceMul, Nat.reduceLT, Int.cast_ofNat_Int, false_and, and_false, Bool.and_true, Bool.true_and, Bool.and_false, Bool.false_and, Bool.or_true, Bool.true_or, Bool.or_false, Bool.false_or, ↓vD_0, ↓vO_0, ↓rD_0, ↓rO_0, ↓kD_0, ↓kO_0, ↓vD_1, ↓vO_1, ↓rD_1, ↓rO_1, ↓kD_1, ↓kO_1, ↓vD_2, ↓vO_2, ↓rD_2, ↓rO_2, ↓kD_2, ↓kO_2, ↓vD_3, ↓vO_3, ↓rD_3, ↓rO_3, ↓kD_3, ↓kO_3, ↓vD_4, ↓vO_4, ↓rD_4, ↓rO_4, ↓kD_4, ↓kO_4, ↓vD_5, ↓vO_5, ↓rD_5, ↓rO_5, ↓kD_5, ↓kO_5, ↓vD_6, ↓vO_6, ↓rD_6, ↓rO_6, ↓kD_6, ↓kO_6, ↓vD_7, ↓vO_7, ↓rD_7, ↓rO_7, ↓kD_7, ↓kO_7, ↓vD_8, ↓vO_8, ↓rD_8, ↓rO_8, ↓kD_8, ↓kO_8, ↓vD_9, ↓vO_9, ↓rD_9, ↓rO_9, ↓kD_9, ↓kO_9, ↓vD_10, ↓vO_10, ↓rD_10, ↓rO_10, ↓kD_10, ↓kO_10, ↓vD_11, ↓vO_11, ↓rD_11, ↓rO_11, ↓kD_11, ↓kO_11, ↓vD_12, ↓vO_12, ↓rD_12, ↓rO_12, ↓kD_12, ↓kO_12, ↓vD_13, ↓vO_13, ↓rD_13, ↓rO_13, ↓kD_13, ↓kO_13, ↓vD_14, ↓vO_14, ↓rD_14, ↓rO_14, ↓kD_14, ↓kO_14, ↓vD_15, ↓vO_15, ↓rD_15, ↓rO_15, ↓kD_15, ↓kO_15, ↓den_reach, ↓b_reach, ↓r_setting, ↓r_step, ↓h1, ↓h2]
theorem r_sip {a b c top : Int} (h1 : 0 < top) (h2 : top < 1606938044258990275541962092341162602522202993782792835301376) :
    Ok den__law_sip [.own (.lst [.int a, .int b, .int c]), .dat (.int top)] fun r e' => ∃ d a' b' c', r = .dat (.int d) ∧ e' = [.own (.lst [.int a', .int b', .int c']), .un] ∧ 0 ≤ d ∧ d < top := by
  simp (disch := first | omega | rfl) only [↓ok_d1, ↓ok_d2, ↓ok_d3, ↓ok_d4, ↓ok_d5, ↓ok_d6, ↓ok_d7, ↓ok_bind, ↓ok_ret, ↓ok_bad, ↓ok_mV, ↓ok_rdD, ↓ok_rdT, ↓ok_dtD, ↓ok_dtT, ↓ok_rds0, ↓ok_rdsC, ↓ok_dts0, ↓ok_dtsC, ↓ok_nil, ↓ok_cons, ↓ok_bin, ↓ok_cb, ↓ok_tup, ↓ok_lst, ↓ok_tru, ↓ok_truB, ↓ok_truI, ↓ok_truN, ↓ok_truL, ↓ok_truT, ↓ok_and, ↓ok_or, ↓ok_not, ↓ok_ifE, ↓ok_andV, ↓ok_orV, ↓ok_notV, ↓ok_neg, ↓ok_chain, ↓ok_seq, ↓ok_skip, ↓ok_retS, ↓ok_retN, ↓ok_bk, ↓ok_ct, ↓ok_ex1, ↓ok_if, ↓ok_set, ↓ok_setP, ↓ok_asg, ↓ok_gN, ↓ok_gsN, ↓ok_gsC, ↓ok_gT, ↓ok_gSb, ↓ok_par, ↓ok_put, ↓ok_get, ↓ok_run, ↓ok_call, ↓ok_callK, ↓ok_make, ↓ok_prop, ↓ok_for, ↓ok_items, ↓ok_rng1, ↓ok_rng2, ↓ok_comp, ↓ok_yes, ↓ok_compS0, ↓ok_compSC, wipeE, ↓ok_sl, ↓ok_noP, ↓ok_pt, ↓ok_slL, ↓ok_slT, ↓ok_rep, ↓ok_app, ↓ok_oSub, ↓ok_oMul, ↓ok_oDiv, ↓ok_oMod, ↓ok_oPow, ↓ok_oLt, ↓ok_oLe, ↓ok_oGt, ↓ok_oGe, ↓ok_oAdd, ↓ok_oAddL, ↓ok_oAddI, ↓ok_oEqI, ↓ok_oEqL, ↓ok_oEqT, ↓ok_oEqB, ↓ok_oEqN, ↓ok_oEqS, ↓ok_oNeI, ↓ok_oNeL, ↓ok_oNeT, ↓ok_oNeB, ↓ok_oNeN, ↓ok_oNeS, ↓ok_oIs, ↓ok_oIsN, ↓ix_0, ↓ix_1, ↓ix_2, ↓ix_3, ↓ix_4, ↓it_0, ↓it_1, ↓it_2, ↓it_3, ixn_0, ixn_1, ixn_2, ↓ok_len, ↓ok_lenT, ↓ok_absI, ↓ok_intI, ↓ok_max2, ↓ok_min2, ↓ok_max3, ↓ok_min3, ↓ok_dm, ↓ok_repr, argsE, backE, outE, Pu.M.dt, List.getElem?_cons_zero, List.getElem?_cons_succ, List.set_cons_zero, List.set_cons_succ, List.take_succ_cons, List.take_zero, List.replicate_zero, List.replicate_succ, List.append_nil, List.nil_append, List.cons_append, List.length_cons, List.length_nil, Nat.sub_self, Nat.reduceSub, Nat.reduceAdd, Nat.reduceLeDiff, decide_true, decide_false, reduceCtorEq, noBor, setsE, slotOf, setsS, putFs, putVs, lookV, sel, isNon, Bool.not_true, Bool.not_false, Bool.not_eq_true, decide_eq_true_eq, decide_eq_false_iff_not, Bool.true_eq_false, Bool.false_eq_true, false_implies, true_implies, and_true, true_and, not_true_eq_false, not_false_eq_true, and_self, implies_true, or_false, false_or, List.flatten_cons, List.flatten_nil, true_or, or_true, Int.sub_zero, eq_self, veq_int, veq_str, cMod, cDiv, cPow, cMul_r, cMul_l, strq, String.reduceEq, sz, szl, dOk_int, dOk_bl, dOk_non, if_true, if_false, Int.reducePow, Int.reduceToNat, Int.reduceMul, Int.reduceAdd, Int.reduceSub, Int.reduceNeg, Int.reduceLT, Int.reduceLE, Int.reduceGT, Int.reduceEq, gt_iff_lt, ge_iff_le, Nat.reducePow, Nat.reduceMul, Nat.reduceLT, Int.cast_ofNat_Int, false_and, and_false, Bool.and_true, Bool.true_and, Bool.and_false, Bool.false_and, Bool.or_true, Bool.true_or, Bool.or_false, Bool.false_or, ↓vD_0, ↓vO_0, ↓rD_0, ↓rO_0, ↓kD_0, ↓kO_0, ↓vD_1, ↓vO_1, ↓rD_1, ↓rO_1, ↓kD_1, ↓kO_1, ↓vD_2, ↓vO_2, ↓rD_2, ↓rO_2, ↓kD_2, ↓kO_2, ↓vD_3, ↓vO_3, ↓rD_3, ↓rO_3, ↓kD_3, ↓kO_3, ↓vD_4, ↓vO_4, ↓rD_4, ↓rO_4, ↓kD_4, ↓kO_4, ↓vD_5, ↓vO_5, ↓rD_5, ↓rO_5, ↓kD_5, ↓kO_5, ↓vD_6, ↓vO_6, ↓rD_6, ↓rO_6, ↓kD_6, ↓kO_6, ↓vD_7, ↓vO_7, ↓rD_7, ↓rO_7, ↓kD_7, ↓kO_7, ↓vD_8, ↓vO_8, ↓rD_8, ↓rO_8, ↓kD_8, ↓kO_8, ↓vD_9, ↓vO_9, ↓rD_9, ↓rO_9, ↓kD_9, ↓kO_9, ↓vD_10, ↓vO_10, ↓rD_10, ↓rO_10, ↓kD_10, ↓kO_10, ↓vD_11, ↓vO_11, ↓rD_11, ↓rO_11, ↓kD_11, ↓kO_11, ↓vD_12, ↓vO_12, ↓rD_12, ↓rO_12, ↓kD_12, ↓kO_12, ↓vD_13, ↓vO_13, ↓rD_13, ↓rO_13, ↓kD_13, ↓kO_13, ↓vD_14, ↓vO_14, ↓rD_14, ↓rO_14, ↓kD_14, ↓kO_14, ↓vD_15, ↓vO_15, ↓rD_15, ↓rO_15, ↓kD_15, ↓kO_15, ↓den__law_sip, ↓b__law_sip, ↓h1, ↓h2]
  refine ⟨fun q => ⟨_, _, _, _, rfl, rfl, Int.emod_nonneg _ (by omega), Int.emod_lt_of_pos _ h1⟩, fun q => ⟨_, _, _, _, rfl, rfl, Int.emod_nonneg _ (by omega), Int.emod_lt_of_pos _ h1⟩⟩
end
section
variable {Q : RV → Ev → Prop} {s l p : Int} {t : Str}
def markV (t : Str) (s a : Int) : Int := a + low t s + (-a - low t s) % s
theorem r_mark_at {a : Int} (hs : 0 < s) : Ok den_mark_at [.dat (rV s l p t), .dat (.int a)] Q ↔ Q (.dat (.int (markV t s a))) [.un, .un] := by
  unfold markV
  simp (disch := first | omega | rfl) only [↓ok_d1, ↓ok_d2, ↓ok_d3, ↓ok_d4, ↓ok_d5, ↓ok_d6, ↓ok_d7, ↓ok_bind, ↓ok_ret, ↓ok_bad, ↓ok_mV, ↓ok_rdD, ↓ok_rdT, ↓ok_dtD, ↓ok_dtT, ↓ok_rds0, ↓ok_rdsC, ↓ok_dts0, ↓ok_dtsC, ↓ok_nil, ↓ok_cons, ↓ok_bin, ↓ok_cb, ↓ok_tup, ↓ok_lst, ↓ok_tru, ↓ok_truB, ↓ok_truI, ↓ok_truN, ↓ok_truL, ↓ok_truT, ↓ok_and, ↓ok_or, ↓ok_not, ↓ok_ifE, ↓ok_andV, ↓ok_orV, ↓ok_notV, ↓ok_neg, ↓ok_chain, ↓ok_seq, ↓ok_skip, ↓ok_retS, ↓ok_retN, ↓ok_bk, ↓ok_ct, ↓ok_ex1, ↓ok_if, ↓ok_set, ↓ok_setP, ↓ok_asg, ↓ok_gN, ↓ok_gsN, ↓ok_gsC, ↓ok_gT, ↓ok_gSb, ↓ok_par, ↓ok_put, ↓ok_get, ↓ok_run, ↓ok_call, ↓ok_callK, ↓ok_make, ↓ok_prop, ↓ok_for, ↓ok_items, ↓ok_rng1, ↓ok_rng2, ↓ok_comp, ↓ok_yes, ↓ok_compS0, ↓ok_compSC, wipeE, ↓ok_sl, ↓ok_noP, ↓ok_pt, ↓ok_slL, ↓ok_slT, ↓ok_rep, ↓ok_app, ↓ok_oSub, ↓ok_oMul, ↓ok_oDiv, ↓ok_oMod, ↓ok_oPow, ↓ok_oLt, ↓ok_oLe, ↓ok_oGt, ↓ok_oGe, ↓ok_oAdd, ↓ok_oAddL, ↓ok_oAddI, ↓ok_oEqI, ↓ok_oEqL, ↓ok_oEqT, ↓ok_oEqB, ↓ok_oEqN, ↓ok_oEqS, ↓ok_oNeI, ↓ok_oNeL, ↓ok_oNeT, ↓ok_oNeB, ↓ok_oNeN, ↓ok_oNeS, ↓ok_oIs, ↓ok_oIsN, ↓ix_0, ↓ix_1, ↓ix_2, ↓ix_3, ↓ix_4, ↓it_0, ↓it_1, ↓it_2, ↓it_3, ixn_0, ixn_1, ixn_2, ↓ok_len, ↓ok_lenT, ↓ok_absI, ↓ok_intI, ↓ok_max2, ↓ok_min2, ↓ok_max3, ↓ok_min3, ↓ok_dm, ↓ok_repr, argsE, backE, outE, Pu.M.dt, List.getElem?_cons_zero, List.getElem?_cons_succ, List.set_cons_zero, List.set_cons_succ, List.take_succ_cons, List.take_zero, List.replicate_zero, List.replicate_succ, List.append_nil, List.nil_append, List.cons_append, List.length_cons, List.length_nil, Nat.sub_self, Nat.reduceSub, Nat.reduceAdd, Nat.reduceLeDiff, decide_true, decide_false, reduceCtorEq, noBor, setsE, slotOf, setsS, putFs, putVs, lookV, sel, isNon, Bool.not_true, Bool.not_false, Bool.not_eq_true, decide_eq_true_eq, decide_eq_false_iff_not, Bool.true_eq_false, Bool.false_eq_true, false_implies, true_implies, and_true, true_and, not_true_eq_false, not_false_eq_true, and_self, implies_true, or_false, false_or, List.flatten_cons, List.flatten_nil, true_or, or_true, Int.sub_zero, eq_self, veq_int, veq_str, cMod, cDiv, cPow, cMul_r, cMul_l, strq, String.reduceEq, sz, szl, dOk_int, dOk_bl, dOk_non, if_true, if_false, Int.reducePow, Int.reduceToNat, Int.reduceMul, Int.reduceAdd, Int.reduceSub, Int.reduceNeg, Int.reduceLT, Int.reduceLE, Int.reduceGT, Int.reduceEq, gt_iff_lt, ge_iff_le, Nat.reducePow, Nat.reduceMul, Nat.reduceLT, Int.cast_ofNat_Int, false_and, and_false, Bool.and_true, Bool.true_and, Bool.and_false, Bool.false_and, Bool.or_true, Bool.true_or, Bool.or_false, Bool.false_or, ↓vD_0, ↓vO_0, ↓rD_0, ↓rO_0, ↓kD_0, ↓kO_0, ↓vD_1, ↓vO_1, ↓rD_1, ↓rO_1, ↓kD_1, ↓kO_1, ↓vD_2, ↓vO_2, ↓rD_2, ↓rO_2, ↓kD_2, ↓kO_2, ↓vD_3, ↓vO_3, ↓rD_3, ↓rO_3, ↓kD_3, ↓kO_3, ↓vD_4, ↓vO_4, ↓rD_4, ↓rO_4, ↓kD_4, ↓kO_4, ↓vD_5, ↓vO_5, ↓rD_5, ↓rO_5, ↓kD_5, ↓kO_5, ↓vD_6, ↓vO_6, ↓rD_6, ↓rO_6, ↓kD_6, ↓kO_6, ↓vD_7, ↓vO_7, ↓rD_7, ↓rO_7, ↓kD_7, ↓kO_7, ↓vD_8, ↓vO_8, ↓rD_8, ↓rO_8, ↓kD_8, ↓kO_8, ↓vD_9, ↓vO_9, ↓rD_9, ↓rO_9, ↓kD_9, ↓kO_9, ↓vD_10, ↓vO_10, ↓rD_10, ↓rO_10, ↓kD_10, ↓kO_10, ↓vD_11, ↓vO_11, ↓rD_11, ↓rO_11, ↓kD_11, ↓kO_11, ↓vD_12, ↓vO_12, ↓rD_12, ↓rO_12, ↓kD_12, ↓kO_12, ↓vD_13, ↓vO_13, ↓rD_13, ↓rO_13, ↓kD_13, ↓kO_13, ↓vD_14, ↓vO_14, ↓rD_14, ↓rO_14, ↓kD_14, ↓kO_14, ↓vD_15, ↓vO_15, ↓rD_15, ↓rO_15, ↓kD_15, ↓kO_15, ↓den_mark_at, ↓b_mark_at, ↓r_reach, ↓r_step, ↓hs]
def mx (i j : Int) : Int := if j > i then j else i
theorem r_check_departure {a d : Int} (h1 : 0 ≤ a) (h2 : a ≤ d) (h3 : d ≤ 1000000000000000000000000000000) : Ok den_check_departure [.dat (.int a), .dat (.int d)] Q ↔ Q (.dat .non) [.un, .un] := by
  simp (disch := first | omega | rfl) only [↓ok_d1, ↓ok_d2, ↓ok_d3, ↓ok_d4, ↓ok_d5, ↓ok_d6, ↓ok_d7, ↓ok_bind, ↓ok_ret, ↓ok_bad, ↓ok_mV, ↓ok_rdD, ↓ok_rdT, ↓ok_dtD, ↓ok_dtT, ↓ok_rds0, ↓ok_rdsC, ↓ok_dts0, ↓ok_dtsC, ↓ok_nil, ↓ok_cons, ↓ok_bin, ↓ok_cb, ↓ok_tup, ↓ok_lst, ↓ok_tru, ↓ok_truB, ↓ok_truI, ↓ok_truN, ↓ok_truL, ↓ok_truT, ↓ok_and, ↓ok_or, ↓ok_not, ↓ok_ifE, ↓ok_andV, ↓ok_orV, ↓ok_notV, ↓ok_neg, ↓ok_chain, ↓ok_seq, ↓ok_skip, ↓ok_retS, ↓ok_retN, ↓ok_bk, ↓ok_ct, ↓ok_ex1, ↓ok_if, ↓ok_set, ↓ok_setP, ↓ok_asg, ↓ok_gN, ↓ok_gsN, ↓ok_gsC, ↓ok_gT, ↓ok_gSb, ↓ok_par, ↓ok_put, ↓ok_get, ↓ok_run, ↓ok_call, ↓ok_callK, ↓ok_make, ↓ok_prop, ↓ok_for, ↓ok_items, ↓ok_rng1, ↓ok_rng2, ↓ok_comp, ↓ok_yes, ↓ok_compS0, ↓ok_compSC, wipeE, ↓ok_sl, ↓ok_noP, ↓ok_pt, ↓ok_slL, ↓ok_slT, ↓ok_rep, ↓ok_app, ↓ok_oSub, ↓ok_oMul, ↓ok_oDiv, ↓ok_oMod, ↓ok_oPow, ↓ok_oLt, ↓ok_oLe, ↓ok_oGt, ↓ok_oGe, ↓ok_oAdd, ↓ok_oAddL, ↓ok_oAddI, ↓ok_oEqI, ↓ok_oEqL, ↓ok_oEqT, ↓ok_oEqB, ↓ok_oEqN, ↓ok_oEqS, ↓ok_oNeI, ↓ok_oNeL, ↓ok_oNeT, ↓ok_oNeB, ↓ok_oNeN, ↓ok_oNeS, ↓ok_oIs, ↓ok_oIsN, ↓ix_0, ↓ix_1, ↓ix_2, ↓ix_3, ↓ix_4, ↓it_0, ↓it_1, ↓it_2, ↓it_3, ixn_0, ixn_1, ixn_2, ↓ok_len, ↓ok_lenT, ↓ok_absI, ↓ok_intI, ↓ok_max2, ↓ok_min2, ↓ok_max3, ↓ok_min3, ↓ok_dm, ↓ok_repr, argsE, backE, outE, Pu.M.dt, List.getElem?_cons_zero, List.getElem?_cons_succ, List.set_cons_zero, List.set_cons_succ, List.take_succ_cons, List.take_zero, List.replicate_zero, List.replicate_succ, List.append_nil, List.nil_append, List.cons_append, List.length_cons, List.length_nil, Nat.sub_self, Nat.reduceSub, Nat.reduceAdd, Nat.reduceLeDiff, decide_true, decide_false, reduceCtorEq, noBor, setsE, slotOf, setsS, putFs, putVs, lookV, sel, isNon, Bool.not_true, Bool.not_false, Bool.not_eq_true, decide_eq_true_eq, decide_eq_false_iff_not, Bool.true_eq_false, Bool.false_eq_true, false_implies, true_implies, and_true, true_and, not_true_eq_false, not_false_eq_true, and_self, implies_true, or_false, false_or, List.flatten_cons, List.flatten_nil, true_or, or_true, Int.sub_zero, eq_self, veq_int, veq_str, cMod, cDiv, cPow, cMul_r, cMul_l, strq, String.reduceEq, sz, szl, dOk_int, dOk_bl, dOk_non, if_true, if_false, Int.reducePow, Int.reduceToNat, Int.reduceMul, Int.reduceAdd, Int.reduceSub, Int.reduceNeg, Int.reduceLT, Int.reduceLE, Int.reduceGT, Int.reduceEq, gt_iff_lt, ge_iff_le, Nat.reducePow, Nat.reduceMul, Nat.reduceLT, Int.cast_ofNat_Int, false_and, and_false, Bool.and_true, Bool.true_and, Bool.and_false, Bool.false_and, Bool.or_true, Bool.true_or, Bool.or_false, Bool.false_or, ↓vD_0, ↓vO_0, ↓rD_0, ↓rO_0, ↓kD_0, ↓kO_0, ↓vD_1, ↓vO_1, ↓rD_1, ↓rO_1, ↓kD_1, ↓kO_1, ↓vD_2, ↓vO_2, ↓rD_2, ↓rO_2, ↓kD_2, ↓kO_2, ↓vD_3, ↓vO_3, ↓rD_3, ↓rO_3, ↓kD_3, ↓kO_3, ↓vD_4, ↓vO_4, ↓rD_4, ↓rO_4, ↓kD_4, ↓kO_4, ↓vD_5, ↓vO_5, ↓rD_5, ↓rO_5, ↓kD_5, ↓kO_5, ↓vD_6, ↓vO_6, ↓rD_6, ↓rO_6, ↓kD_6, ↓kO_6, ↓vD_7, ↓vO_7, ↓rD_7, ↓rO_7, ↓kD_7, ↓kO_7, ↓vD_8, ↓vO_8, ↓rD_8, ↓rO_8, ↓kD_8, ↓kO_8, ↓vD_9, ↓vO_9, ↓rD_9, ↓rO_9, ↓kD_9, ↓kO_9, ↓vD_10, ↓vO_10, ↓rD_10, ↓rO_10, ↓kD_10, ↓kO_10, ↓vD_11, ↓vO_11, ↓rD_11, ↓rO_11, ↓kD_11, ↓kO_11, ↓vD_12, ↓vO_12, ↓rD_12, ↓rO_12, ↓kD_12, ↓kO_12, ↓vD_13, ↓vO_13, ↓rD_13, ↓rO_13, ↓kD_13, ↓kO_13, ↓vD_14, ↓vO_14, ↓rD_14, ↓rO_14, ↓kD_14, ↓kO_14, ↓vD_15, ↓vO_15, ↓rD_15, ↓rO_15, ↓kD_15, ↓kO_15, ↓den_check_departure, ↓b_check_departure, ↓r_check_minute h1 (Int.le_trans h2 h3), ↓r_check_number h2 h3]
def inMenu (t : Str) : Prop := t = "next" ∨ t = "last" ∨ t = "near"
theorem notin {t : Str} (h : inMenu t) : oInG true (.str t) (.tup [.str "next", .str "last", .str "near"]) = mV (.bl false) := by
  rcases h with rfl | rfl | rfl <;> rfl
theorem r_init {s l p : Int} {t : Str} (h1 : 1 ≤ s) (h2 : s ≤ 1000000000000) (h3 : s ≤ l) (h4 : l ≤ 1000000000000000000) (h5 : 1 ≤ p) (h6 : p ≤ 1000000000000000000) (ht : inMenu t) :
    Ok den_Rule____init__ [.own (.obj "Rule" [] []), .dat (.int s), .dat (.str t), .dat (.int l), .dat (.int p)] Q ↔ Q (.dat .non) [.own (rV s l p t), .un, .un, .un, .un] := by
  simp (disch := first | omega | rfl) only [↓ok_d1, ↓ok_d2, ↓ok_d3, ↓ok_d4, ↓ok_d5, ↓ok_d6, ↓ok_d7, ↓ok_bind, ↓ok_ret, ↓ok_bad, ↓ok_mV, ↓ok_rdD, ↓ok_rdT, ↓ok_dtD, ↓ok_dtT, ↓ok_rds0, ↓ok_rdsC, ↓ok_dts0, ↓ok_dtsC, ↓ok_nil, ↓ok_cons, ↓ok_bin, ↓ok_cb, ↓ok_tup, ↓ok_lst, ↓ok_tru, ↓ok_truB, ↓ok_truI, ↓ok_truN, ↓ok_truL, ↓ok_truT, ↓ok_and, ↓ok_or, ↓ok_not, ↓ok_ifE, ↓ok_andV, ↓ok_orV, ↓ok_notV, ↓ok_neg, ↓ok_chain, ↓ok_seq, ↓ok_skip, ↓ok_retS, ↓ok_retN, ↓ok_bk, ↓ok_ct, ↓ok_ex1, ↓ok_if, ↓ok_set, ↓ok_setP, ↓ok_asg, ↓ok_gN, ↓ok_gsN, ↓ok_gsC, ↓ok_gT, ↓ok_gSb, ↓ok_par, ↓ok_put, ↓ok_get, ↓ok_run, ↓ok_call, ↓ok_callK, ↓ok_make, ↓ok_prop, ↓ok_for, ↓ok_items, ↓ok_rng1, ↓ok_rng2, ↓ok_comp, ↓ok_yes, ↓ok_compS0, ↓ok_compSC, wipeE, ↓ok_sl, ↓ok_noP, ↓ok_pt, ↓ok_slL, ↓ok_slT, ↓ok_rep, ↓ok_app, ↓ok_oSub, ↓ok_oMul, ↓ok_oDiv, ↓ok_oMod, ↓ok_oPow, ↓ok_oLt, ↓ok_oLe, ↓ok_oGt, ↓ok_oGe, ↓ok_oAdd, ↓ok_oAddL, ↓ok_oAddI, ↓ok_oEqI, ↓ok_oEqL, ↓ok_oEqT, ↓ok_oEqB, ↓ok_oEqN, ↓ok_oEqS, ↓ok_oNeI, ↓ok_oNeL, ↓ok_oNeT, ↓ok_oNeB, ↓ok_oNeN, ↓ok_oNeS, ↓ok_oIs, ↓ok_oIsN, ↓ix_0, ↓ix_1, ↓ix_2, ↓ix_3, ↓ix_4, ↓it_0, ↓it_1, ↓it_2, ↓it_3, ixn_0, ixn_1, ixn_2, ↓ok_len, ↓ok_lenT, ↓ok_absI, ↓ok_intI, ↓ok_max2, ↓ok_min2, ↓ok_max3, ↓ok_min3, ↓ok_dm, ↓ok_repr, argsE, backE, outE, Pu.M.dt, List.getElem?_cons_zero, List.getElem?_cons_succ, List.set_cons_zero, List.set_cons_succ, List.take_succ_cons, List.take_zero, List.replicate_zero, List.replicate_succ, List.append_nil, List.nil_append, List.cons_append, List.length_cons, List.length_nil, Nat.sub_self, Nat.reduceSub, Nat.reduceAdd, Nat.reduceLeDiff, decide_true, decide_false, reduceCtorEq, noBor, setsE, slotOf, setsS, putFs, putVs, lookV, sel, isNon, Bool.not_true, Bool.not_false, Bool.not_eq_true, decide_eq_true_eq, decide_eq_false_iff_not, Bool.true_eq_false, Bool.false_eq_true, false_implies, true_implies, and_true, true_and, not_true_eq_false, not_false_eq_true, and_self, implies_true, or_false, false_or, List.flatten_cons, List.flatten_nil, true_or, or_true, Int.sub_zero, eq_self, veq_int, veq_str, cMod, cDiv, cPow, cMul_r, cMul_l, strq, String.reduceEq, sz, szl, dOk_int, dOk_bl, dOk_non, if_true, if_false, Int.reducePow, Int.reduceToNat, Int.reduceMul, Int.reduceAdd, Int.reduceSub, Int.reduceNeg, Int.reduceLT, Int.reduceLE, Int.reduceGT, Int.reduceEq, gt_iff_lt, ge_iff_le, Nat.reducePow, Nat.reduceMul, Nat.reduceLT, Int.cast_ofNat_Int, false_and, and_false, Bool.and_true, Bool.true_and, Bool.and_false, Bool.false_and, Bool.or_true, Bool.true_or, Bool.or_false, Bool.false_or, ↓vD_0, ↓vO_0, ↓rD_0, ↓rO_0, ↓kD_0, ↓kO_0, ↓vD_1, ↓vO_1, ↓rD_1, ↓rO_1, ↓kD_1, ↓kO_1, ↓vD_2, ↓vO_2, ↓rD_2, ↓rO_2, ↓kD_2, ↓kO_2, ↓vD_3, ↓vO_3, ↓rD_3, ↓rO_3, ↓kD_3, ↓kO_3, ↓vD_4, ↓vO_4, ↓rD_4, ↓rO_4, ↓kD_4, ↓kO_4, ↓vD_5, ↓vO_5, ↓rD_5, ↓rO_5, ↓kD_5, ↓kO_5, ↓vD_6, ↓vO_6, ↓rD_6, ↓rO_6, ↓kD_6, ↓kO_6, ↓vD_7, ↓vO_7, ↓rD_7, ↓rO_7, ↓kD_7, ↓kO_7, ↓vD_8, ↓vO_8, ↓rD_8, ↓rO_8, ↓kD_8, ↓kO_8, ↓vD_9, ↓vO_9, ↓rD_9, ↓rO_9, ↓kD_9, ↓kO_9, ↓vD_10, ↓vO_10, ↓rD_10, ↓rO_10, ↓kD_10, ↓kO_10, ↓vD_11, ↓vO_11, ↓rD_11, ↓rO_11, ↓kD_11, ↓kO_11, ↓vD_12, ↓vO_12, ↓rD_12, ↓rO_12, ↓kD_12, ↓kO_12, ↓vD_13, ↓vO_13, ↓rD_13, ↓rO_13, ↓kD_13, ↓kO_13, ↓vD_14, ↓vO_14, ↓rD_14, ↓rO_14, ↓kD_14, ↓kO_14, ↓vD_15, ↓vO_15, ↓rD_15, ↓rO_15, ↓kD_15, ↓kO_15, ↓den_Rule____init__, ↓b_Rule____init__, ↓r_check_number h1 h2, ↓r_check_number h3 h4, ↓r_check_number h5 h6, ↓i_str, ↓notin ht]
theorem r_made {s l p : Int} {t : Str} (h1 : 1 ≤ s) (h2 : s ≤ 1000000000000) (h3 : s ≤ l) (h4 : l ≤ 1000000000000000000) (h5 : 1 ≤ p) (h6 : p ≤ 1000000000000000000) (ht : inMenu t) :
    Ok den__law_made [.dat (.lst [.int s, .str t, .int l, .int p])] Q ↔ Q (.tmp (rV s l p t)) [.un] := by
  simp (disch := first | omega | rfl) only [↓ok_d1, ↓ok_d2, ↓ok_d3, ↓ok_d4, ↓ok_d5, ↓ok_d6, ↓ok_d7, ↓ok_bind, ↓ok_ret, ↓ok_bad, ↓ok_mV, ↓ok_rdD, ↓ok_rdT, ↓ok_dtD, ↓ok_dtT, ↓ok_rds0, ↓ok_rdsC, ↓ok_dts0, ↓ok_dtsC, ↓ok_nil, ↓ok_cons, ↓ok_bin, ↓ok_cb, ↓ok_tup, ↓ok_lst, ↓ok_tru, ↓ok_truB, ↓ok_truI, ↓ok_truN, ↓ok_truL, ↓ok_truT, ↓ok_and, ↓ok_or, ↓ok_not, ↓ok_ifE, ↓ok_andV, ↓ok_orV, ↓ok_notV, ↓ok_neg, ↓ok_chain, ↓ok_seq, ↓ok_skip, ↓ok_retS, ↓ok_retN, ↓ok_bk, ↓ok_ct, ↓ok_ex1, ↓ok_if, ↓ok_set, ↓ok_setP, ↓ok_asg, ↓ok_gN, ↓ok_gsN, ↓ok_gsC, ↓ok_gT, ↓ok_gSb, ↓ok_par, ↓ok_put, ↓ok_get, ↓ok_run, ↓ok_call, ↓ok_callK, ↓ok_make, ↓ok_prop, ↓ok_for, ↓ok_items, ↓ok_rng1, ↓ok_rng2, ↓ok_comp, ↓ok_yes, ↓ok_compS0, ↓ok_compSC, wipeE, ↓ok_sl, ↓ok_noP, ↓ok_pt, ↓ok_slL, ↓ok_slT, ↓ok_rep, ↓ok_app, ↓ok_oSub, ↓ok_oMul, ↓ok_oDiv, ↓ok_oMod, ↓ok_oPow, ↓ok_oLt, ↓ok_oLe, ↓ok_oGt, ↓ok_oGe, ↓ok_oAdd, ↓ok_oAddL, ↓ok_oAddI, ↓ok_oEqI, ↓ok_oEqL, ↓ok_oEqT, ↓ok_oEqB, ↓ok_oEqN, ↓ok_oEqS, ↓ok_oNeI, ↓ok_oNeL, ↓ok_oNeT, ↓ok_oNeB, ↓ok_oNeN, ↓ok_oNeS, ↓ok_oIs, ↓ok_oIsN, ↓ix_0, ↓ix_1, ↓ix_2, ↓ix_3, ↓ix_4, ↓it_0, ↓it_1, ↓it_2, ↓it_3, ixn_0, ixn_1, ixn_2, ↓ok_len, ↓ok_lenT, ↓ok_absI, ↓ok_intI, ↓ok_max2, ↓ok_min2, ↓ok_max3, ↓ok_min3, ↓ok_dm, ↓ok_repr, argsE, backE, outE, Pu.M.dt, List.getElem?_cons_zero, List.getElem?_cons_succ, List.set_cons_zero, List.set_cons_succ, List.take_succ_cons, List.take_zero, List.replicate_zero, List.replicate_succ, List.append_nil, List.nil_append, List.cons_append, List.length_cons, List.length_nil, Nat.sub_self, Nat.reduceSub, Nat.reduceAdd, Nat.reduceLeDiff, decide_true, decide_false, reduceCtorEq, noBor, setsE, slotOf, setsS, putFs, putVs, lookV, sel, isNon, Bool.not_true, Bool.not_false, Bool.not_eq_true, decide_eq_true_eq, decide_eq_false_iff_not, Bool.true_eq_false, Bool.false_eq_true, false_implies, true_implies, and_true, true_and, not_true_eq_false, not_false_eq_true, and_self, implies_true, or_false, false_or, List.flatten_cons, List.flatten_nil, true_or, or_true, Int.sub_zero, eq_self, veq_int, veq_str, cMod, cDiv, cPow, cMul_r, cMul_l, strq, String.reduceEq, sz, szl, dOk_int, dOk_bl, dOk_non, if_true, if_false, Int.reducePow, Int.reduceToNat, Int.reduceMul, Int.reduceAdd, Int.reduceSub, Int.reduceNeg, Int.reduceLT, Int.reduceLE, Int.reduceGT, Int.reduceEq, gt_iff_lt, ge_iff_le, Nat.reducePow, Nat.reduceMul, Nat.reduceLT, Int.cast_ofNat_Int, false_and, and_false, Bool.and_true, Bool.true_and, Bool.and_false, Bool.false_and, Bool.or_true, Bool.true_or, Bool.or_false, Bool.false_or, ↓vD_0, ↓vO_0, ↓rD_0, ↓rO_0, ↓kD_0, ↓kO_0, ↓vD_1, ↓vO_1, ↓rD_1, ↓rO_1, ↓kD_1, ↓kO_1, ↓vD_2, ↓vO_2, ↓rD_2, ↓rO_2, ↓kD_2, ↓kO_2, ↓vD_3, ↓vO_3, ↓rD_3, ↓rO_3, ↓kD_3, ↓kO_3, ↓vD_4, ↓vO_4, ↓rD_4, ↓rO_4, ↓kD_4, ↓kO_4, ↓vD_5, ↓vO_5, ↓rD_5, ↓rO_5, ↓kD_5, ↓kO_5, ↓vD_6, ↓vO_6, ↓rD_6, ↓rO_6, ↓kD_6, ↓kO_6, ↓vD_7, ↓vO_7, ↓rD_7, ↓rO_7, ↓kD_7, ↓kO_7, ↓vD_8, ↓vO_8, ↓rD_8, ↓rO_8, ↓kD_8, ↓kO_8, ↓vD_9, ↓vO_9, ↓rD_9, ↓rO_9, ↓kD_9, ↓kO_9, ↓vD_10, ↓vO_10, ↓rD_10, ↓rO_10, ↓kD_10, ↓kO_10, ↓vD_11, ↓vO_11, ↓rD_11, ↓rO_11, ↓kD_11, ↓kO_11, ↓vD_12, ↓vO_12, ↓rD_12, ↓rO_12, ↓kD_12, ↓kO_12, ↓vD_13, ↓vO_13, ↓rD_13, ↓rO_13, ↓kD_13, ↓kO_13, ↓vD_14, ↓vO_14, ↓rD_14, ↓rO_14, ↓kD_14, ↓kO_14, ↓vD_15, ↓vO_15, ↓rD_15, ↓rO_15, ↓kD_15, ↓kO_15, ↓den__law_made, ↓b__law_made, ↓r_init h1 h2 h3 h4 h5 h6 ht]
theorem r_pick {a b c : Int} {xs : List Val} (h1 : xs ≠ []) (h2 : xs.length ≤ 1000) :
    Ok den__law_pick [.own (.lst [.int a, .int b, .int c]), .dat (.lst xs)] fun r e' => ∃ v a' b' c', v ∈ xs ∧ r = .dat v ∧ e' = [.own (.lst [.int a', .int b', .int c']), .un] := by
  have h3 : 0 < xs.length := List.length_pos_iff.mpr h1
  simp (disch := first | omega | rfl) only [↓ok_d1, ↓ok_d2, ↓ok_d3, ↓ok_d4, ↓ok_d5, ↓ok_d6, ↓ok_d7, ↓ok_bind, ↓ok_ret, ↓ok_bad, ↓ok_mV, ↓ok_rdD, ↓ok_rdT, ↓ok_dtD, ↓ok_dtT, ↓ok_rds0, ↓ok_rdsC, ↓ok_dts0, ↓ok_dtsC, ↓ok_nil, ↓ok_cons, ↓ok_bin, ↓ok_cb, ↓ok_tup, ↓ok_lst, ↓ok_tru, ↓ok_truB, ↓ok_truI, ↓ok_truN, ↓ok_truL, ↓ok_truT, ↓ok_and, ↓ok_or, ↓ok_not, ↓ok_ifE, ↓ok_andV, ↓ok_orV, ↓ok_notV, ↓ok_neg, ↓ok_chain, ↓ok_seq, ↓ok_skip, ↓ok_retS, ↓ok_retN, ↓ok_bk, ↓ok_ct, ↓ok_ex1, ↓ok_if, ↓ok_set, ↓ok_setP, ↓ok_asg, ↓ok_gN, ↓ok_gsN, ↓ok_gsC, ↓ok_gT, ↓ok_gSb, ↓ok_par, ↓ok_put, ↓ok_get, ↓ok_run, ↓ok_call, ↓ok_callK, ↓ok_make, ↓ok_prop, ↓ok_for, ↓ok_items, ↓ok_rng1, ↓ok_rng2, ↓ok_comp, ↓ok_yes, ↓ok_compS0, ↓ok_compSC, wipeE, ↓ok_sl, ↓ok_noP, ↓ok_pt, ↓ok_slL, ↓ok_slT, ↓ok_rep, ↓ok_app, ↓ok_oSub, ↓ok_oMul, ↓ok_oDiv, ↓ok_oMod, ↓ok_oPow, ↓ok_oLt, ↓ok_oLe, ↓ok_oGt, ↓ok_oGe, ↓ok_oAdd, ↓ok_oAddL, ↓ok_oAddI, ↓ok_oEqI, ↓ok_oEqL, ↓ok_oEqT, ↓ok_oEqB, ↓ok_oEqN, ↓ok_oEqS, ↓ok_oNeI, ↓ok_oNeL, ↓ok_oNeT, ↓ok_oNeB, ↓ok_oNeN, ↓ok_oNeS, ↓ok_oIs, ↓ok_oIsN, ↓ix_0, ↓ix_1, ↓ix_2, ↓ix_3, ↓ix_4, ↓it_0, ↓it_1, ↓it_2, ↓it_3, ixn_0, ixn_1, ixn_2, ↓ok_len, ↓ok_lenT, ↓ok_absI, ↓ok_intI, ↓ok_max2, ↓ok_min2, ↓ok_max3, ↓ok_min3, ↓ok_dm, ↓ok_repr, argsE, backE, outE, Pu.M.dt, List.getElem?_cons_zero, List.getElem?_cons_succ, List.set_cons_zero, List.set_cons_succ, List.take_succ_cons, List.take_zero, List.replicate_zero, List.replicate_succ, List.append_nil, List.nil_append, List.cons_append, List.length_cons, List.length_nil, Nat.sub_self, Nat.reduceSub, Nat.reduceAdd, Nat.reduceLeDiff, decide_true, decide_false, reduceCtorEq, noBor, setsE, slotOf, setsS, putFs, putVs, lookV, sel, isNon, Bool.not_true, Bool.not_false, Bool.not_eq_true, decide_eq_true_eq, decide_eq_false_iff_not, Bool.true_eq_false, Bool.false_eq_true, false_implies, true_implies, and_true, true_and, not_true_eq_false, not_false_eq_true, and_self, implies_true, or_false, false_or, List.flatten_cons, List.flatten_nil, true_or, or_true, Int.sub_zero, eq_self, veq_int, veq_str, cMod, cDiv, cPow, cMul_r, cMul_l, strq, String.reduceEq, sz, szl, dOk_int, dOk_bl, dOk_non, if_true, if_false, Int.reducePow, Int.reduceToNat, Int.reduceMul, Int.reduceAdd, Int.reduceSub, Int.reduceNeg, Int.reduceLT, Int.reduceLE, Int.reduceGT, Int.reduceEq, gt_iff_lt, ge_iff_le, Nat.reducePow, Nat.reduceMul, Nat.reduceLT, Int.cast_ofNat_Int, false_and, and_false, Bool.and_true, Bool.true_and, Bool.and_false, Bool.false_and, Bool.or_true, Bool.true_or, Bool.or_false, Bool.false_or, ↓vD_0, ↓vO_0, ↓rD_0, ↓rO_0, ↓kD_0, ↓kO_0, ↓vD_1, ↓vO_1, ↓rD_1, ↓rO_1, ↓kD_1, ↓kO_1, ↓vD_2, ↓vO_2, ↓rD_2, ↓rO_2, ↓kD_2, ↓kO_2, ↓vD_3, ↓vO_3, ↓rD_3, ↓rO_3, ↓kD_3, ↓kO_3, ↓vD_4, ↓vO_4, ↓rD_4, ↓rO_4, ↓kD_4, ↓kO_4, ↓vD_5, ↓vO_5, ↓rD_5, ↓rO_5, ↓kD_5, ↓kO_5, ↓vD_6, ↓vO_6, ↓rD_6, ↓rO_6, ↓kD_6, ↓kO_6, ↓vD_7, ↓vO_7, ↓rD_7, ↓rO_7, ↓kD_7, ↓kO_7, ↓vD_8, ↓vO_8, ↓rD_8, ↓rO_8, ↓kD_8, ↓kO_8, ↓vD_9, ↓vO_9, ↓rD_9, ↓rO_9, ↓kD_9, ↓kO_9, ↓vD_10, ↓vO_10, ↓rD_10, ↓rO_10, ↓kD_10, ↓kO_10, ↓vD_11, ↓vO_11, ↓rD_11, ↓rO_11, ↓kD_11, ↓kO_11, ↓vD_12, ↓vO_12, ↓rD_12, ↓rO_12, ↓kD_12, ↓kO_12, ↓vD_13, ↓vO_13, ↓rD_13, ↓rO_13, ↓kD_13, ↓kO_13, ↓vD_14, ↓vO_14, ↓rD_14, ↓rO_14, ↓kD_14, ↓kO_14, ↓vD_15, ↓vO_15, ↓rD_15, ↓rO_15, ↓kD_15, ↓kO_15, ↓den__law_pick, ↓b__law_pick]
  refine Ok.mono (r_sip (top := (xs.length : Int)) (by omega) (by omega)) ?_
  rintro _ _ ⟨d, a', b', c', rfl, rfl, h4, h5⟩
  obtain ⟨v, hv, e1⟩ := atI_mem h4 h5
  simp (disch := first | omega | rfl) only [↓ok_d1, ↓ok_d2, ↓ok_d3, ↓ok_d4, ↓ok_d5, ↓ok_d6, ↓ok_d7, ↓ok_bind, ↓ok_ret, ↓ok_bad, ↓ok_mV, ↓ok_rdD, ↓ok_rdT, ↓ok_dtD, ↓ok_dtT, ↓ok_rds0, ↓ok_rdsC, ↓ok_dts0, ↓ok_dtsC, ↓ok_nil, ↓ok_cons, ↓ok_bin, ↓ok_cb, ↓ok_tup, ↓ok_lst, ↓ok_tru, ↓ok_truB, ↓ok_truI, ↓ok_truN, ↓ok_truL, ↓ok_truT, ↓ok_and, ↓ok_or, ↓ok_not, ↓ok_ifE, ↓ok_andV, ↓ok_orV, ↓ok_notV, ↓ok_neg, ↓ok_chain, ↓ok_seq, ↓ok_skip, ↓ok_retS, ↓ok_retN, ↓ok_bk, ↓ok_ct, ↓ok_ex1, ↓ok_if, ↓ok_set, ↓ok_setP, ↓ok_asg, ↓ok_gN, ↓ok_gsN, ↓ok_gsC, ↓ok_gT, ↓ok_gSb, ↓ok_par, ↓ok_put, ↓ok_get, ↓ok_run, ↓ok_call, ↓ok_callK, ↓ok_make, ↓ok_prop, ↓ok_for, ↓ok_items, ↓ok_rng1, ↓ok_rng2, ↓ok_comp, ↓ok_yes, ↓ok_compS0, ↓ok_compSC, wipeE, ↓ok_sl, ↓ok_noP, ↓ok_pt, ↓ok_slL, ↓ok_slT, ↓ok_rep, ↓ok_app, ↓ok_oSub, ↓ok_oMul, ↓ok_oDiv, ↓ok_oMod, ↓ok_oPow, ↓ok_oLt, ↓ok_oLe, ↓ok_oGt, ↓ok_oGe, ↓ok_oAdd, ↓ok_oAddL, ↓ok_oAddI, ↓ok_oEqI, ↓ok_oEqL, ↓ok_oEqT, ↓ok_oEqB, ↓ok_oEqN, ↓ok_oEqS, ↓ok_oNeI, ↓ok_oNeL, ↓ok_oNeT, ↓ok_oNeB, ↓ok_oNeN, ↓ok_oNeS, ↓ok_oIs, ↓ok_oIsN, ↓ix_0, ↓ix_1, ↓ix_2, ↓ix_3, ↓ix_4, ↓it_0, ↓it_1, ↓it_2, ↓it_3, ixn_0, ixn_1, ixn_2, ↓ok_len, ↓ok_lenT, ↓ok_absI, ↓ok_intI, ↓ok_max2, ↓ok_min2, ↓ok_max3, ↓ok_min3, ↓ok_dm, ↓ok_repr, argsE, backE, outE, Pu.M.dt, List.getElem?_cons_zero, List.getElem?_cons_succ, List.set_cons_zero, List.set_cons_succ, List.take_succ_cons, List.take_zero, List.replicate_zero, List.replicate_succ, List.append_nil, List.nil_append, List.cons_append, List.length_cons, List.length_nil, Nat.sub_self, Nat.reduceSub, Nat.reduceAdd, Nat.reduceLeDiff, decide_true, decide_false, reduceCtorEq, noBor, setsE, slotOf, setsS, putFs, putVs, lookV, sel, isNon, Bool.not_true, Bool.not_false, Bool.not_eq_true, decide_eq_true_eq, decide_eq_false_iff_not, Bool.true_eq_false, Bool.false_eq_true, false_implies, true_implies, and_true, true_and, not_true_eq_false, not_false_eq_true, and_self, implies_true, or_false, false_or, List.flatten_cons, List.flatten_nil, true_or, or_true, Int.sub_zero, eq_self, veq_int, veq_str, cMod, cDiv, cPow, cMul_r, cMul_l, strq, String.reduceEq, sz, szl, dOk_int, dOk_bl, dOk_non, if_true, if_false, Int.reducePow, Int.reduceToNat, Int.reduceMul, Int.reduceAdd, Int.reduceSub, Int.reduceNeg, Int.reduceLT, Int.reduceLE, Int.reduceGT, Int.reduceEq, gt_iff_lt, ge_iff_le, Nat.reducePow, Nat.reduceMul, Nat.reduceLT, Int.cast_ofNat_Int, false_and, and_false, Bool.and_true, Bool.true_and, Bool.and_false, Bool.false_and, Bool.or_true, Bool.true_or, Bool.or_false, Bool.false_or, ↓vD_0, ↓vO_0, ↓rD_0, ↓rO_0, ↓kD_0, ↓kO_0, ↓vD_1, ↓vO_1, ↓rD_1, ↓rO_1, ↓kD_1, ↓kO_1, ↓vD_2, ↓vO_2, ↓rD_2, ↓rO_2, ↓kD_2, ↓kO_2, ↓vD_3, ↓vO_3, ↓rD_3, ↓rO_3, ↓kD_3, ↓kO_3, ↓vD_4, ↓vO_4, ↓rD_4, ↓rO_4, ↓kD_4, ↓kO_4, ↓vD_5, ↓vO_5, ↓rD_5, ↓rO_5, ↓kD_5, ↓kO_5, ↓vD_6, ↓vO_6, ↓rD_6, ↓rO_6, ↓kD_6, ↓kO_6, ↓vD_7, ↓vO_7, ↓rD_7, ↓rO_7, ↓kD_7, ↓kO_7, ↓vD_8, ↓vO_8, ↓rD_8, ↓rO_8, ↓kD_8, ↓kO_8, ↓vD_9, ↓vO_9, ↓rD_9, ↓rO_9, ↓kD_9, ↓kO_9, ↓vD_10, ↓vO_10, ↓rD_10, ↓rO_10, ↓kD_10, ↓kO_10, ↓vD_11, ↓vO_11, ↓rD_11, ↓rO_11, ↓kD_11, ↓kO_11, ↓vD_12, ↓vO_12, ↓rD_12, ↓rO_12, ↓kD_12, ↓kO_12, ↓vD_13, ↓vO_13, ↓rD_13, ↓rO_13, ↓kD_13, ↓kO_13, ↓vD_14, ↓vO_14, ↓rD_14, ↓rO_14, ↓kD_14, ↓kO_14, ↓vD_15, ↓vO_15, ↓rD_15, ↓rO_15, ↓kD_15, ↓kO_15, ↓ok_ixL]
  exact ⟨v, e1, v, a', b', c', hv, rfl, rfl⟩
end
section
variable {Q : RV → Ev → Prop} {s l p : Int} {t : Str}
theorem r_far {a b c most : Int} (h1 : 1 ≤ most) (h2 : most < 1606938044258990275541962092341162602522202993782792835301376) :
    Ok den__law_far [.own (.lst [.int a, .int b, .int c]), .dat (.int most)] fun r e' => ∃ d a' b' c', r = .dat (.int d) ∧ e' = [.own (.lst [.int a', .int b', .int c']), .un] ∧ 1 ≤ d ∧ d ≤ most := by
  simp (disch := first | omega | rfl) only [↓ok_d1, ↓ok_d2, ↓ok_d3, ↓ok_d4, ↓ok_d5, ↓ok_d6, ↓ok_d7, ↓ok_bind, ↓ok_ret, ↓ok_bad, ↓ok_mV, ↓ok_rdD, ↓ok_rdT, ↓ok_dtD, ↓ok_dtT, ↓ok_rds0, ↓ok_rdsC, ↓ok_dts0, ↓ok_dtsC, ↓ok_nil, ↓ok_cons, ↓ok_bin, ↓ok_cb, ↓ok_tup, ↓ok_lst, ↓ok_tru, ↓ok_truB, ↓ok_truI, ↓ok_truN, ↓ok_truL, ↓ok_truT, ↓ok_and, ↓ok_or, ↓ok_not, ↓ok_ifE, ↓ok_andV, ↓ok_orV, ↓ok_notV, ↓ok_neg, ↓ok_chain, ↓ok_seq, ↓ok_skip, ↓ok_retS, ↓ok_retN, ↓ok_bk, ↓ok_ct, ↓ok_ex1, ↓ok_if, ↓ok_set, ↓ok_setP, ↓ok_asg, ↓ok_gN, ↓ok_gsN, ↓ok_gsC, ↓ok_gT, ↓ok_gSb, ↓ok_par, ↓ok_put, ↓ok_get, ↓ok_run, ↓ok_call, ↓ok_callK, ↓ok_make, ↓ok_prop, ↓ok_for, ↓ok_items, ↓ok_rng1, ↓ok_rng2, ↓ok_comp, ↓ok_yes, ↓ok_compS0, ↓ok_compSC, wipeE, ↓ok_sl, ↓ok_noP, ↓ok_pt, ↓ok_slL, ↓ok_slT, ↓ok_rep, ↓ok_app, ↓ok_oSub, ↓ok_oMul, ↓ok_oDiv, ↓ok_oMod, ↓ok_oPow, ↓ok_oLt, ↓ok_oLe, ↓ok_oGt, ↓ok_oGe, ↓ok_oAdd, ↓ok_oAddL, ↓ok_oAddI, ↓ok_oEqI, ↓ok_oEqL, ↓ok_oEqT, ↓ok_oEqB, ↓ok_oEqN, ↓ok_oEqS, ↓ok_oNeI, ↓ok_oNeL, ↓ok_oNeT, ↓ok_oNeB, ↓ok_oNeN, ↓ok_oNeS, ↓ok_oIs, ↓ok_oIsN, ↓ix_0, ↓ix_1, ↓ix_2, ↓ix_3, ↓ix_4, ↓it_0, ↓it_1, ↓it_2, ↓it_3, ixn_0, ixn_1, ixn_2, ↓ok_len, ↓ok_lenT, ↓ok_absI, ↓ok_intI, ↓ok_max2, ↓ok_min2, ↓ok_max3, ↓ok_min3, ↓ok_dm, ↓ok_repr, argsE, backE, outE, Pu.M.dt, List.getElem?_cons_zero, List.getElem?_cons_succ, List.set_cons_zero, List.set_cons_succ, List.take_succ_cons, List.take_zero, List.replicate_zero, List.replicate_succ, List.append_nil, List.nil_append, List.cons_append, List.length_cons, List.length_nil, Nat.sub_self, Nat.reduceSub, Nat.reduceAdd, Nat.reduceLeDiff, decide_true, decide_false, reduceCtorEq, noBor, setsE, slotOf, setsS, putFs, putVs, lookV, sel, isNon, Bool.not_true, Bool.not_false, Bool.not_eq_true, decide_eq_true_eq, decide_eq_false_iff_not, Bool.true_eq_false, Bool.false_eq_true, false_implies, true_implies, and_true, true_and, not_true_eq_false, not_false_eq_true, and_self, implies_true, or_false, false_or, List.flatten_cons, List.flatten_nil, true_or, or_true, Int.sub_zero, eq_self, veq_int, veq_str, cMod, cDiv, cPow, cMul_r, cMul_l, strq, String.reduceEq, sz, szl, dOk_int, dOk_bl, dOk_non, if_true, if_false, Int.reducePow, Int.reduceToNat, Int.reduceMul, Int.reduceAdd, Int.reduceSub, Int.reduceNeg, Int.reduceLT, Int.reduceLE, Int.reduceGT, Int.reduceEq, gt_iff_lt, ge_iff_le, Nat.reducePow, Nat.reduceMul, Nat.reduceLT, Int.cast_ofNat_Int, false_and, and_false, Bool.and_true, Bool.true_and, Bool.and_false, Bool.false_and, Bool.or_true, Bool.true_or, Bool.or_false, Bool.false_or, ↓vD_0, ↓vO_0, ↓rD_0, ↓rO_0, ↓kD_0, ↓kO_0, ↓vD_1, ↓vO_1, ↓rD_1, ↓rO_1, ↓kD_1, ↓kO_1, ↓vD_2, ↓vO_2, ↓rD_2, ↓rO_2, ↓kD_2, ↓kO_2, ↓vD_3, ↓vO_3, ↓rD_3, ↓rO_3, ↓kD_3, ↓kO_3, ↓vD_4, ↓vO_4, ↓rD_4, ↓rO_4, ↓kD_4, ↓kO_4, ↓vD_5, ↓vO_5, ↓rD_5, ↓rO_5, ↓kD_5, ↓kO_5, ↓vD_6, ↓vO_6, ↓rD_6, ↓rO_6, ↓kD_6, ↓kO_6, ↓vD_7, ↓vO_7, ↓rD_7, ↓rO_7, ↓kD_7, ↓kO_7, ↓vD_8, ↓vO_8, ↓rD_8, ↓rO_8, ↓kD_8, ↓kO_8, ↓vD_9, ↓vO_9, ↓rD_9, ↓rO_9, ↓kD_9, ↓kO_9, ↓vD_10, ↓vO_10, ↓rD_10, ↓rO_10, ↓kD_10, ↓kO_10, ↓vD_11, ↓vO_11, ↓rD_11, ↓rO_11, ↓kD_11, ↓kO_11, ↓vD_12, ↓vO_12, ↓rD_12, ↓rO_12, ↓kD_12, ↓kO_12, ↓vD_13, ↓vO_13, ↓rD_13, ↓rO_13, ↓kD_13, ↓kO_13, ↓vD_14, ↓vO_14, ↓rD_14, ↓rO_14, ↓kD_14, ↓kO_14, ↓vD_15, ↓vO_15, ↓rD_15, ↓rO_15, ↓kD_15, ↓kO_15, ↓den__law_far, ↓b__law_far]
  refine ⟨fun q => ?_, fun q => ?_⟩
  · refine Ok.mono (r_sip (by omega) (by omega)) ?_
    rintro _ _ ⟨d, a', b', c', rfl, rfl, h4, h5⟩
    simp (disch := first | omega | rfl) only [↓ok_d1, ↓ok_d2, ↓ok_d3, ↓ok_d4, ↓ok_d5, ↓ok_d6, ↓ok_d7, ↓ok_bind, ↓ok_ret, ↓ok_bad, ↓ok_mV, ↓ok_rdD, ↓ok_rdT, ↓ok_dtD, ↓ok_dtT, ↓ok_rds0, ↓ok_rdsC, ↓ok_dts0, ↓ok_dtsC, ↓ok_nil, ↓ok_cons, ↓ok_bin, ↓ok_cb, ↓ok_tup, ↓ok_lst, ↓ok_tru, ↓ok_truB, ↓ok_truI, ↓ok_truN, ↓ok_truL, ↓ok_truT, ↓ok_and, ↓ok_or, ↓ok_not, ↓ok_ifE, ↓ok_andV, ↓ok_orV, ↓ok_notV, ↓ok_neg, ↓ok_chain, ↓ok_seq, ↓ok_skip, ↓ok_retS, ↓ok_retN, ↓ok_bk, ↓ok_ct, ↓ok_ex1, ↓ok_if, ↓ok_set, ↓ok_setP, ↓ok_asg, ↓ok_gN, ↓ok_gsN, ↓ok_gsC, ↓ok_gT, ↓ok_gSb, ↓ok_par, ↓ok_put, ↓ok_get, ↓ok_run, ↓ok_call, ↓ok_callK, ↓ok_make, ↓ok_prop, ↓ok_for, ↓ok_items, ↓ok_rng1, ↓ok_rng2, ↓ok_comp, ↓ok_yes, ↓ok_compS0, ↓ok_compSC, wipeE, ↓ok_sl, ↓ok_noP, ↓ok_pt, ↓ok_slL, ↓ok_slT, ↓ok_rep, ↓ok_app, ↓ok_oSub, ↓ok_oMul, ↓ok_oDiv, ↓ok_oMod, ↓ok_oPow, ↓ok_oLt, ↓ok_oLe, ↓ok_oGt, ↓ok_oGe, ↓ok_oAdd, ↓ok_oAddL, ↓ok_oAddI, ↓ok_oEqI, ↓ok_oEqL, ↓ok_oEqT, ↓ok_oEqB, ↓ok_oEqN, ↓ok_oEqS, ↓ok_oNeI, ↓ok_oNeL, ↓ok_oNeT, ↓ok_oNeB, ↓ok_oNeN, ↓ok_oNeS, ↓ok_oIs, ↓ok_oIsN, ↓ix_0, ↓ix_1, ↓ix_2, ↓ix_3, ↓ix_4, ↓it_0, ↓it_1, ↓it_2, ↓it_3, ixn_0, ixn_1, ixn_2, ↓ok_len, ↓ok_lenT, ↓ok_absI, ↓ok_intI, ↓ok_max2, ↓ok_min2, ↓ok_max3, ↓ok_min3, ↓ok_dm, ↓ok_repr, argsE, backE, outE, Pu.M.dt, List.getElem?_cons_zero, List.getElem?_cons_succ, List.set_cons_zero, List.set_cons_succ, List.take_succ_cons, List.take_zero, List.replicate_zero, List.replicate_succ, List.append_nil, List.nil_append, List.cons_append, List.length_cons, List.length_nil, Nat.sub_self, Nat.reduceSub, Nat.reduceAdd, Nat.reduceLeDiff, decide_true, decide_false, reduceCtorEq, noBor, setsE, slotOf, setsS, putFs, putVs, lookV, sel, isNon, Bool.not_true, Bool.not_false, Bool.not_eq_true, decide_eq_true_eq, decide_eq_false_iff_not, Bool.true_eq_false, Bool.false_eq_true, false_implies, true_implies, and_true, true_and, not_true_eq_false, not_false_eq_true, and_self, implies_true, or_false, false_or, List.flatten_cons, List.flatten_nil, true_or, or_true, Int.sub_zero, eq_self, veq_int, veq_str, cMod, cDiv, cPow, cMul_r, cMul_l, strq, String.reduceEq, sz, szl, dOk_int, dOk_bl, dOk_non, if_true, if_false, Int.reducePow, Int.reduceToNat, Int.reduceMul, Int.reduceAdd, Int.reduceSub, Int.reduceNeg, Int.reduceLT, Int.reduceLE, Int.reduceGT, Int.reduceEq, gt_iff_lt, ge_iff_le, Nat.reducePow, Nat.reduceMul, Nat.reduceLT, Int.cast_ofNat_Int, false_and, and_false, Bool.and_true, Bool.true_and, Bool.and_false, Bool.false_and, Bool.or_true, Bool.true_or, Bool.or_false, Bool.false_or, ↓vD_0, ↓vO_0, ↓rD_0, ↓rO_0, ↓kD_0, ↓kO_0, ↓vD_1, ↓vO_1, ↓rD_1, ↓rO_1, ↓kD_1, ↓kO_1, ↓vD_2, ↓vO_2, ↓rD_2, ↓rO_2, ↓kD_2, ↓kO_2, ↓vD_3, ↓vO_3, ↓rD_3, ↓rO_3, ↓kD_3, ↓kO_3, ↓vD_4, ↓vO_4, ↓rD_4, ↓rO_4, ↓kD_4, ↓kO_4, ↓vD_5, ↓vO_5, ↓rD_5, ↓rO_5, ↓kD_5, ↓kO_5, ↓vD_6, ↓vO_6, ↓rD_6, ↓rO_6, ↓kD_6, ↓kO_6, ↓vD_7, ↓vO_7, ↓rD_7, ↓rO_7, ↓kD_7, ↓kO_7, ↓vD_8, ↓vO_8, ↓rD_8, ↓rO_8, ↓kD_8, ↓kO_8, ↓vD_9, ↓vO_9, ↓rD_9, ↓rO_9, ↓kD_9, ↓kO_9, ↓vD_10, ↓vO_10, ↓rD_10, ↓rO_10, ↓kD_10, ↓kO_10, ↓vD_11, ↓vO_11, ↓rD_11, ↓rO_11, ↓kD_11, ↓kO_11, ↓vD_12, ↓vO_12, ↓rD_12, ↓rO_12, ↓kD_12, ↓kO_12, ↓vD_13, ↓vO_13, ↓rD_13, ↓rO_13, ↓kD_13, ↓kO_13, ↓vD_14, ↓vO_14, ↓rD_14, ↓rO_14, ↓kD_14, ↓kO_14, ↓vD_15, ↓vO_15, ↓rD_15, ↓rO_15, ↓kD_15, ↓kO_15]
    exact ⟨_, _, _, _, rfl, rfl, by omega, by omega⟩
  · refine Ok.mono (r_pick (by simp) (by simp)) ?_
    rintro _ _ ⟨v, a', b', c', hv, rfl, rfl⟩
    have hi : ∃ k, v = .int k := by
      simp only [List.mem_cons, List.not_mem_nil, or_false] at hv
      rcases hv with rfl | rfl | rfl | rfl | rfl | rfl | rfl | rfl <;> exact ⟨_, rfl⟩
    obtain ⟨k, rfl⟩ := hi
    simp (disch := first | omega | rfl) only [↓ok_d1, ↓ok_d2, ↓ok_d3, ↓ok_d4, ↓ok_d5, ↓ok_d6, ↓ok_d7, ↓ok_bind, ↓ok_ret, ↓ok_bad, ↓ok_mV, ↓ok_rdD, ↓ok_rdT, ↓ok_dtD, ↓ok_dtT, ↓ok_rds0, ↓ok_rdsC, ↓ok_dts0, ↓ok_dtsC, ↓ok_nil, ↓ok_cons, ↓ok_bin, ↓ok_cb, ↓ok_tup, ↓ok_lst, ↓ok_tru, ↓ok_truB, ↓ok_truI, ↓ok_truN, ↓ok_truL, ↓ok_truT, ↓ok_and, ↓ok_or, ↓ok_not, ↓ok_ifE, ↓ok_andV, ↓ok_orV, ↓ok_notV, ↓ok_neg, ↓ok_chain, ↓ok_seq, ↓ok_skip, ↓ok_retS, ↓ok_retN, ↓ok_bk, ↓ok_ct, ↓ok_ex1, ↓ok_if, ↓ok_set, ↓ok_setP, ↓ok_asg, ↓ok_gN, ↓ok_gsN, ↓ok_gsC, ↓ok_gT, ↓ok_gSb, ↓ok_par, ↓ok_put, ↓ok_get, ↓ok_run, ↓ok_call, ↓ok_callK, ↓ok_make, ↓ok_prop, ↓ok_for, ↓ok_items, ↓ok_rng1, ↓ok_rng2, ↓ok_comp, ↓ok_yes, ↓ok_compS0, ↓ok_compSC, wipeE, ↓ok_sl, ↓ok_noP, ↓ok_pt, ↓ok_slL, ↓ok_slT, ↓ok_rep, ↓ok_app, ↓ok_oSub, ↓ok_oMul, ↓ok_oDiv, ↓ok_oMod, ↓ok_oPow, ↓ok_oLt, ↓ok_oLe, ↓ok_oGt, ↓ok_oGe, ↓ok_oAdd, ↓ok_oAddL, ↓ok_oAddI, ↓ok_oEqI, ↓ok_oEqL, ↓ok_oEqT, ↓ok_oEqB, ↓ok_oEqN, ↓ok_oEqS, ↓ok_oNeI, ↓ok_oNeL, ↓ok_oNeT, ↓ok_oNeB, ↓ok_oNeN, ↓ok_oNeS, ↓ok_oIs, ↓ok_oIsN, ↓ix_0, ↓ix_1, ↓ix_2, ↓ix_3, ↓ix_4, ↓it_0, ↓it_1, ↓it_2, ↓it_3, ixn_0, ixn_1, ixn_2, ↓ok_len, ↓ok_lenT, ↓ok_absI, ↓ok_intI, ↓ok_max2, ↓ok_min2, ↓ok_max3, ↓ok_min3, ↓ok_dm, ↓ok_repr, argsE, backE, outE, Pu.M.dt, List.getElem?_cons_zero, List.getElem?_cons_succ, List.set_cons_zero, List.set_cons_succ, List.take_succ_cons, List.take_zero, List.replicate_zero, List.replicate_succ, List.append_nil, List.nil_append, List.cons_append, List.length_cons, List.length_nil, Nat.sub_self, Nat.reduceSub, Nat.reduceAdd, Nat.reduceLeDiff, decide_true, decide_false, reduceCtorEq, noBor, setsE, slotOf, setsS, putFs, putVs, lookV, sel, isNon, Bool.not_true, Bool.not_false, Bool.not_eq_true, decide_eq_true_eq, decide_eq_false_iff_not, Bool.true_eq_false, Bool.false_eq_true, false_implies, true_implies, and_true, true_and, not_true_eq_false, not_false_eq_true, and_self, implies_true, or_false, false_or, List.flatten_cons, List.flatten_nil, true_or, or_true, Int.sub_zero, eq_self, veq_int, veq_str, cMod, cDiv, cPow, cMul_r, cMul_l, strq, String.reduceEq, sz, szl, dOk_int, dOk_bl, dOk_non, if_true, if_false, Int.reducePow, Int.reduceToNat, Int.reduceMul, Int.reduceAdd, Int.reduceSub, Int.reduceNeg, Int.reduceLT, Int.reduceLE, Int.reduceGT, Int.reduceEq, gt_iff_lt, ge_iff_le, Nat.reducePow, Nat.reduceMul, Nat.reduceLT, Int.cast_ofNat_Int, false_and, and_false, Bool.and_true, Bool.true_and, Bool.and_false, Bool.false_and, Bool.or_true, Bool.true_or, Bool.or_false, Bool.false_or, ↓vD_0, ↓vO_0, ↓rD_0, ↓rO_0, ↓kD_0, ↓kO_0, ↓vD_1, ↓vO_1, ↓rD_1, ↓rO_1, ↓kD_1, ↓kO_1, ↓vD_2, ↓vO_2, ↓rD_2, ↓rO_2, ↓kD_2, ↓kO_2, ↓vD_3, ↓vO_3, ↓rD_3, ↓rO_3, ↓kD_3, ↓kO_3, ↓vD_4, ↓vO_4, ↓rD_4, ↓rO_4, ↓kD_4, ↓kO_4, ↓vD_5, ↓vO_5, ↓rD_5, ↓rO_5, ↓kD_5, ↓kO_5, ↓vD_6, ↓vO_6, ↓rD_6, ↓rO_6, ↓kD_6, ↓kO_6, ↓vD_7, ↓vO_7, ↓rD_7, ↓rO_7, ↓kD_7, ↓kO_7, ↓vD_8, ↓vO_8, ↓rD_8, ↓rO_8, ↓kD_8, ↓kO_8, ↓vD_9, ↓vO_9, ↓rD_9, ↓rO_9, ↓kD_9, ↓kO_9, ↓vD_10, ↓vO_10, ↓rD_10, ↓rO_10, ↓kD_10, ↓kO_10, ↓vD_11, ↓vO_11, ↓rD_11, ↓rO_11, ↓kD_11, ↓kO_11, ↓vD_12, ↓vO_12, ↓rD_12, ↓rO_12, ↓kD_12, ↓kO_12, ↓vD_13, ↓vO_13, ↓rD_13, ↓rO_13, ↓kD_13, ↓kO_13, ↓vD_14, ↓vO_14, ↓rD_14, ↓rO_14, ↓kD_14, ↓kO_14, ↓vD_15, ↓vO_15, ↓rD_15, ↓rO_15, ↓kD_15, ↓kO_15]
    refine Ok.mono (r_sip (by omega) (by omega)) ?_
    rintro _ _ ⟨d, a1, b1, c1, rfl, rfl, h4, h5⟩
    simp (disch := first | omega | rfl) only [↓ok_d1, ↓ok_d2, ↓ok_d3, ↓ok_d4, ↓ok_d5, ↓ok_d6, ↓ok_d7, ↓ok_bind, ↓ok_ret, ↓ok_bad, ↓ok_mV, ↓ok_rdD, ↓ok_rdT, ↓ok_dtD, ↓ok_dtT, ↓ok_rds0, ↓ok_rdsC, ↓ok_dts0, ↓ok_dtsC, ↓ok_nil, ↓ok_cons, ↓ok_bin, ↓ok_cb, ↓ok_tup, ↓ok_lst, ↓ok_tru, ↓ok_truB, ↓ok_truI, ↓ok_truN, ↓ok_truL, ↓ok_truT, ↓ok_and, ↓ok_or, ↓ok_not, ↓ok_ifE, ↓ok_andV, ↓ok_orV, ↓ok_notV, ↓ok_neg, ↓ok_chain, ↓ok_seq, ↓ok_skip, ↓ok_retS, ↓ok_retN, ↓ok_bk, ↓ok_ct, ↓ok_ex1, ↓ok_if, ↓ok_set, ↓ok_setP, ↓ok_asg, ↓ok_gN, ↓ok_gsN, ↓ok_gsC, ↓ok_gT, ↓ok_gSb, ↓ok_par, ↓ok_put, ↓ok_get, ↓ok_run, ↓ok_call, ↓ok_callK, ↓ok_make, ↓ok_prop, ↓ok_for, ↓ok_items, ↓ok_rng1, ↓ok_rng2, ↓ok_comp, ↓ok_yes, ↓ok_compS0, ↓ok_compSC, wipeE, ↓ok_sl, ↓ok_noP, ↓ok_pt, ↓ok_slL, ↓ok_slT, ↓ok_rep, ↓ok_app, ↓ok_oSub, ↓ok_oMul, ↓ok_oDiv, ↓ok_oMod, ↓ok_oPow, ↓ok_oLt, ↓ok_oLe, ↓ok_oGt, ↓ok_oGe, ↓ok_oAdd, ↓ok_oAddL, ↓ok_oAddI, ↓ok_oEqI, ↓ok_oEqL, ↓ok_oEqT, ↓ok_oEqB, ↓ok_oEqN, ↓ok_oEqS, ↓ok_oNeI, ↓ok_oNeL, ↓ok_oNeT, ↓ok_oNeB, ↓ok_oNeN, ↓ok_oNeS, ↓ok_oIs, ↓ok_oIsN, ↓ix_0, ↓ix_1, ↓ix_2, ↓ix_3, ↓ix_4, ↓it_0, ↓it_1, ↓it_2, ↓it_3, ixn_0, ixn_1, ixn_2, ↓ok_len, ↓ok_lenT, ↓ok_absI, ↓ok_intI, ↓ok_max2, ↓ok_min2, ↓ok_max3, ↓ok_min3, ↓ok_dm, ↓ok_repr, argsE, backE, outE, Pu.M.dt, List.getElem?_cons_zero, List.getElem?_cons_succ, List.set_cons_zero, List.set_cons_succ, List.take_succ_cons, List.take_zero, List.replicate_zero, List.replicate_succ, List.append_nil, List.nil_append, List.cons_append, List.length_cons, List.length_nil, Nat.sub_self, Nat.reduceSub, Nat.reduceAdd, Nat.reduceLeDiff, decide_true, decide_false, reduceCtorEq, noBor, setsE, slotOf, setsS, putFs, putVs, lookV, sel, isNon, Bool.not_true, Bool.not_false, Bool.not_eq_true, decide_eq_true_eq, decide_eq_false_iff_not, Bool.true_eq_false, Bool.false_eq_true, false_implies, true_implies, and_true, true_and, not_true_eq_false, not_false_eq_true, and_self, implies_true, or_false, false_or, List.flatten_cons, List.flatten_nil, true_or, or_true, Int.sub_zero, eq_self, veq_int, veq_str, cMod, cDiv, cPow, cMul_r, cMul_l, strq, String.reduceEq, sz, szl, dOk_int, dOk_bl, dOk_non, if_true, if_false, Int.reducePow, Int.reduceToNat, Int.reduceMul, Int.reduceAdd, Int.reduceSub, Int.reduceNeg, Int.reduceLT, Int.reduceLE, Int.reduceGT, Int.reduceEq, gt_iff_lt, ge_iff_le, Nat.reducePow, Nat.reduceMul, Nat.reduceLT, Int.cast_ofNat_Int, false_and, and_false, Bool.and_true, Bool.true_and, Bool.and_false, Bool.false_and, Bool.or_true, Bool.true_or, Bool.or_false, Bool.false_or, ↓vD_0, ↓vO_0, ↓rD_0, ↓rO_0, ↓kD_0, ↓kO_0, ↓vD_1, ↓vO_1, ↓rD_1, ↓rO_1, ↓kD_1, ↓kO_1, ↓vD_2, ↓vO_2, ↓rD_2, ↓rO_2, ↓kD_2, ↓kO_2, ↓vD_3, ↓vO_3, ↓rD_3, ↓rO_3, ↓kD_3, ↓kO_3, ↓vD_4, ↓vO_4, ↓rD_4, ↓rO_4, ↓kD_4, ↓kO_4, ↓vD_5, ↓vO_5, ↓rD_5, ↓rO_5, ↓kD_5, ↓kO_5, ↓vD_6, ↓vO_6, ↓rD_6, ↓rO_6, ↓kD_6, ↓kO_6, ↓vD_7, ↓vO_7, ↓rD_7, ↓rO_7, ↓kD_7, ↓kO_7, ↓vD_8, ↓vO_8, ↓rD_8, ↓rO_8, ↓kD_8, ↓kO_8, ↓vD_9, ↓vO_9, ↓rD_9, ↓rO_9, ↓kD_9, ↓kO_9, ↓vD_10, ↓vO_10, ↓rD_10, ↓rO_10, ↓kD_10, ↓kO_10, ↓vD_11, ↓vO_11, ↓rD_11, ↓rO_11, ↓kD_11, ↓kO_11, ↓vD_12, ↓vO_12, ↓rD_12, ↓rO_12, ↓kD_12, ↓kO_12, ↓vD_13, ↓vO_13, ↓rD_13, ↓rO_13, ↓kD_13, ↓kO_13, ↓vD_14, ↓vO_14, ↓rD_14, ↓rO_14, ↓kD_14, ↓kO_14, ↓vD_15, ↓vO_15, ↓rD_15, ↓rO_15, ↓kD_15, ↓kO_15]
    refine Ok.mono (r_sip (by omega) (by omega)) ?_
    rintro _ _ ⟨d2, a2, b2, c2, rfl, rfl, h6, h7⟩
    simp (disch := first | omega | rfl) only [↓ok_d1, ↓ok_d2, ↓ok_d3, ↓ok_d4, ↓ok_d5, ↓ok_d6, ↓ok_d7, ↓ok_bind, ↓ok_ret, ↓ok_bad, ↓ok_mV, ↓ok_rdD, ↓ok_rdT, ↓ok_dtD, ↓ok_dtT, ↓ok_rds0, ↓ok_rdsC, ↓ok_dts0, ↓ok_dtsC, ↓ok_nil, ↓ok_cons, ↓ok_bin, ↓ok_cb, ↓ok_tup, ↓ok_lst, ↓ok_tru, ↓ok_truB, ↓ok_truI, ↓ok_truN, ↓ok_truL, ↓ok_truT, ↓ok_and, ↓ok_or, ↓ok_not, ↓ok_ifE, ↓ok_andV, ↓ok_orV, ↓ok_notV, ↓ok_neg, ↓ok_chain, ↓ok_seq, ↓ok_skip, ↓ok_retS, ↓ok_retN, ↓ok_bk, ↓ok_ct, ↓ok_ex1, ↓ok_if, ↓ok_set, ↓ok_setP, ↓ok_asg, ↓ok_gN, ↓ok_gsN, ↓ok_gsC, ↓ok_gT, ↓ok_gSb, ↓ok_par, ↓ok_put, ↓ok_get, ↓ok_run, ↓ok_call, ↓ok_callK, ↓ok_make, ↓ok_prop, ↓ok_for, ↓ok_items, ↓ok_rng1, ↓ok_rng2, ↓ok_comp, ↓ok_yes, ↓ok_compS0, ↓ok_compSC, wipeE, ↓ok_sl, ↓ok_noP, ↓ok_pt, ↓ok_slL, ↓ok_slT, ↓ok_rep, ↓ok_app, ↓ok_oSub, ↓ok_oMul, ↓ok_oDiv, ↓ok_oMod, ↓ok_oPow, ↓ok_oLt, ↓ok_oLe, ↓ok_oGt, ↓ok_oGe, ↓ok_oAdd, ↓ok_oAddL, ↓ok_oAddI, ↓ok_oEqI, ↓ok_oEqL, ↓ok_oEqT, ↓ok_oEqB, ↓ok_oEqN, ↓ok_oEqS, ↓ok_oNeI, ↓ok_oNeL, ↓ok_oNeT, ↓ok_oNeB, ↓ok_oNeN, ↓ok_oNeS, ↓ok_oIs, ↓ok_oIsN, ↓ix_0, ↓ix_1, ↓ix_2, ↓ix_3, ↓ix_4, ↓it_0, ↓it_1, ↓it_2, ↓it_3, ixn_0, ixn_1, ixn_2, ↓ok_len, ↓ok_lenT, ↓ok_absI, ↓ok_intI, ↓ok_max2, ↓ok_min2, ↓ok_max3, ↓ok_min3, ↓ok_dm, ↓ok_repr, argsE, backE, outE, Pu.M.dt, List.getElem?_cons_zero, List.getElem?_cons_succ, List.set_cons_zero, List.set_cons_succ, List.take_succ_cons, List.take_zero, List.replicate_zero, List.replicate_succ, List.append_nil, List.nil_append, List.cons_append, List.length_cons, List.length_nil, Nat.sub_self, Nat.reduceSub, Nat.reduceAdd, Nat.reduceLeDiff, decide_true, decide_false, reduceCtorEq, noBor, setsE, slotOf, setsS, putFs, putVs, lookV, sel, isNon, Bool.not_true, Bool.not_false, Bool.not_eq_true, decide_eq_true_eq, decide_eq_false_iff_not, Bool.true_eq_false, Bool.false_eq_true, false_implies, true_implies, and_true, true_and, not_true_eq_false, not_false_eq_true, and_self, implies_true, or_false, false_or, List.flatten_cons, List.flatten_nil, true_or, or_true, Int.sub_zero, eq_self, veq_int, veq_str, cMod, cDiv, cPow, cMul_r, cMul_l, strq, String.reduceEq, sz, szl, dOk_int, dOk_bl, dOk_non, if_true, if_false, Int.reducePow, Int.reduceToNat, Int.reduceMul, Int.reduceAdd, Int.reduceSub, Int.reduceNeg, Int.reduceLT, Int.reduceLE, Int.reduceGT, Int.reduceEq, gt_iff_lt, ge_iff_le, Nat.reducePow, Nat.reduceMul, Nat.reduceLT, Int.cast_ofNat_Int, false_and, and_false, Bool.and_true, Bool.true_and, Bool.and_false, Bool.false_and, Bool.or_true, Bool.true_or, Bool.or_false, Bool.false_or, ↓vD_0, ↓vO_0, ↓rD_0, ↓rO_0, ↓kD_0, ↓kO_0, ↓vD_1, ↓vO_1, ↓rD_1, ↓rO_1, ↓kD_1, ↓kO_1, ↓vD_2, ↓vO_2, ↓rD_2, ↓rO_2, ↓kD_2, ↓kO_2, ↓vD_3, ↓vO_3, ↓rD_3, ↓rO_3, ↓kD_3, ↓kO_3, ↓vD_4, ↓vO_4, ↓rD_4, ↓rO_4, ↓kD_4, ↓kO_4, ↓vD_5, ↓vO_5, ↓rD_5, ↓rO_5, ↓kD_5, ↓kO_5, ↓vD_6, ↓vO_6, ↓rD_6, ↓rO_6, ↓kD_6, ↓kO_6, ↓vD_7, ↓vO_7, ↓rD_7, ↓rO_7, ↓kD_7, ↓kO_7, ↓vD_8, ↓vO_8, ↓rD_8, ↓rO_8, ↓kD_8, ↓kO_8, ↓vD_9, ↓vO_9, ↓rD_9, ↓rO_9, ↓kD_9, ↓kO_9, ↓vD_10, ↓vO_10, ↓rD_10, ↓rO_10, ↓kD_10, ↓kO_10, ↓vD_11, ↓vO_11, ↓rD_11, ↓rO_11, ↓kD_11, ↓kO_11, ↓vD_12, ↓vO_12, ↓rD_12, ↓rO_12, ↓kD_12, ↓kO_12, ↓vD_13, ↓vO_13, ↓rD_13, ↓rO_13, ↓kD_13, ↓kO_13, ↓vD_14, ↓vO_14, ↓rD_14, ↓rO_14, ↓kD_14, ↓kO_14, ↓vD_15, ↓vO_15, ↓rD_15, ↓rO_15, ↓kD_15, ↓kO_15]
    refine ⟨by omega, _, _, _, _, rfl, rfl, ?_, ?_⟩
    · have := Int.emod_nonneg (d * k + d2) (show most ≠ 0 by omega)
      omega
    · have := Int.emod_lt_of_pos (d * k + d2) (show 0 < most by omega)
      omega
theorem r_plan {a b c mm : Int} (h1 : 5 ≤ mm) (h2 : mm < 1606938044258990275541962092341162602522202993782792835301376) :
    Ok den__law_plan [.own (.lst [.int a, .int b, .int c]), .dat (.int mm)] fun r e' => ∃ g t f p a' b' c', r = .tmp (.lst [.int g, .str t, .int f, .int p]) ∧ e' = [.own (.lst [.int a', .int b', .int c']), .un] ∧ (1 ≤ g ∧ g ≤ mm) ∧ inMenu t ∧ (g ≤ f ∧ f ≤ g + 3000007) ∧ 1 ≤ p ∧ p ≤ 8 := by
  simp (disch := first | omega | rfl) only [↓ok_d1, ↓ok_d2, ↓ok_d3, ↓ok_d4, ↓ok_d5, ↓ok_d6, ↓ok_d7, ↓ok_bind, ↓ok_ret, ↓ok_bad, ↓ok_mV, ↓ok_rdD, ↓ok_rdT, ↓ok_dtD, ↓ok_dtT, ↓ok_rds0, ↓ok_rdsC, ↓ok_dts0, ↓ok_dtsC, ↓ok_nil, ↓ok_cons, ↓ok_bin, ↓ok_cb, ↓ok_tup, ↓ok_lst, ↓ok_tru, ↓ok_truB, ↓ok_truI, ↓ok_truN, ↓ok_truL, ↓ok_truT, ↓ok_and, ↓ok_or, ↓ok_not, ↓ok_ifE, ↓ok_andV, ↓ok_orV, ↓ok_notV, ↓ok_neg, ↓ok_chain, ↓ok_seq, ↓ok_skip, ↓ok_retS, ↓ok_retN, ↓ok_bk, ↓ok_ct, ↓ok_ex1, ↓ok_if, ↓ok_set, ↓ok_setP, ↓ok_asg, ↓ok_gN, ↓ok_gsN, ↓ok_gsC, ↓ok_gT, ↓ok_gSb, ↓ok_par, ↓ok_put, ↓ok_get, ↓ok_run, ↓ok_call, ↓ok_callK, ↓ok_make, ↓ok_prop, ↓ok_for, ↓ok_items, ↓ok_rng1, ↓ok_rng2, ↓ok_comp, ↓ok_yes, ↓ok_compS0, ↓ok_compSC, wipeE, ↓ok_sl, ↓ok_noP, ↓ok_pt, ↓ok_slL, ↓ok_slT, ↓ok_rep, ↓ok_app, ↓ok_oSub, ↓ok_oMul, ↓ok_oDiv, ↓ok_oMod, ↓ok_oPow, ↓ok_oLt, ↓ok_oLe, ↓ok_oGt, ↓ok_oGe, ↓ok_oAdd, ↓ok_oAddL, ↓ok_oAddI, ↓ok_oEqI, ↓ok_oEqL, ↓ok_oEqT, ↓ok_oEqB, ↓ok_oEqN, ↓ok_oEqS, ↓ok_oNeI, ↓ok_oNeL, ↓ok_oNeT, ↓ok_oNeB, ↓ok_oNeN, ↓ok_oNeS, ↓ok_oIs, ↓ok_oIsN, ↓ix_0, ↓ix_1, ↓ix_2, ↓ix_3, ↓ix_4, ↓it_0, ↓it_1, ↓it_2, ↓it_3, ixn_0, ixn_1, ixn_2, ↓ok_len, ↓ok_lenT, ↓ok_absI, ↓ok_intI, ↓ok_max2, ↓ok_min2, ↓ok_max3, ↓ok_min3, ↓ok_dm, ↓ok_repr, argsE, backE, outE, Pu.M.dt, List.getElem?_cons_zero, List.getElem?_cons_succ, List.set_cons_zero, List.set_cons_succ, List.take_succ_cons, List.take_zero, List.replicate_zero, List.replicate_succ, List.append_nil, List.nil_append, List.cons_append, List.length_cons, List.length_nil, Nat.sub_self, Nat.reduceSub, Nat.reduceAdd, Nat.reduceLeDiff, decide_true, decide_false, reduceCtorEq, noBor, setsE, slotOf, setsS, putFs, putVs, lookV, sel, isNon, Bool.not_true, Bool.not_false, Bool.not_eq_true, decide_eq_true_eq, decide_eq_false_iff_not, Bool.true_eq_false, Bool.false_eq_true, false_implies, true_implies, and_true, true_and, not_true_eq_false, not_false_eq_true, and_self, implies_true, or_false, false_or, List.flatten_cons, List.flatten_nil, true_or, or_true, Int.sub_zero, eq_self, veq_int, veq_str, cMod, cDiv, cPow, cMul_r, cMul_l, strq, String.reduceEq, sz, szl, dOk_int, dOk_bl, dOk_non, if_true, if_false, Int.reducePow, Int.reduceToNat, Int.reduceMul, Int.reduceAdd, Int.reduceSub, Int.reduceNeg, Int.reduceLT, Int.reduceLE, Int.reduceGT, Int.reduceEq, gt_iff_lt, ge_iff_le, Nat.reducePow, Nat.reduceMul, Nat.reduceLT, Int.cast_ofNat_Int, false_and, and_false, Bool.and_true, Bool.true_and, Bool.and_false, Bool.false_and, Bool.or_true, Bool.true_or, Bool.or_false, Bool.false_or, ↓vD_0, ↓vO_0, ↓rD_0, ↓rO_0, ↓kD_0, ↓kO_0, ↓vD_1, ↓vO_1, ↓rD_1, ↓rO_1, ↓kD_1, ↓kO_1, ↓vD_2, ↓vO_2, ↓rD_2, ↓rO_2, ↓kD_2, ↓kO_2, ↓vD_3, ↓vO_3, ↓rD_3, ↓rO_3, ↓kD_3, ↓kO_3, ↓vD_4, ↓vO_4, ↓rD_4, ↓rO_4, ↓kD_4, ↓kO_4, ↓vD_5, ↓vO_5, ↓rD_5, ↓rO_5, ↓kD_5, ↓kO_5, ↓vD_6, ↓vO_6, ↓rD_6, ↓rO_6, ↓kD_6, ↓kO_6, ↓vD_7, ↓vO_7, ↓rD_7, ↓rO_7, ↓kD_7, ↓kO_7, ↓vD_8, ↓vO_8, ↓rD_8, ↓rO_8, ↓kD_8, ↓kO_8, ↓vD_9, ↓vO_9, ↓rD_9, ↓rO_9, ↓kD_9, ↓kO_9, ↓vD_10, ↓vO_10, ↓rD_10, ↓rO_10, ↓kD_10, ↓kO_10, ↓vD_11, ↓vO_11, ↓rD_11, ↓rO_11, ↓kD_11, ↓kO_11, ↓vD_12, ↓vO_12, ↓rD_12, ↓rO_12, ↓kD_12, ↓kO_12, ↓vD_13, ↓vO_13, ↓rD_13, ↓rO_13, ↓kD_13, ↓kO_13, ↓vD_14, ↓vO_14, ↓rD_14, ↓rO_14, ↓kD_14, ↓kO_14, ↓vD_15, ↓vO_15, ↓rD_15, ↓rO_15, ↓kD_15, ↓kO_15, ↓den__law_plan, ↓b__law_plan]
  refine Ok.mono (r_far (by omega) (by omega)) ?_
  rintro _ _ ⟨d, a1, b1, c1, rfl, rfl, h4, h5⟩
  simp (disch := first | omega | rfl) only [↓ok_d1, ↓ok_d2, ↓ok_d3, ↓ok_d4, ↓ok_d5, ↓ok_d6, ↓ok_d7, ↓ok_bind, ↓ok_ret, ↓ok_bad, ↓ok_mV, ↓ok_rdD, ↓ok_rdT, ↓ok_dtD, ↓ok_dtT, ↓ok_rds0, ↓ok_rdsC, ↓ok_dts0, ↓ok_dtsC, ↓ok_nil, ↓ok_cons, ↓ok_bin, ↓ok_cb, ↓ok_tup, ↓ok_lst, ↓ok_tru, ↓ok_truB, ↓ok_truI, ↓ok_truN, ↓ok_truL, ↓ok_truT, ↓ok_and, ↓ok_or, ↓ok_not, ↓ok_ifE, ↓ok_andV, ↓ok_orV, ↓ok_notV, ↓ok_neg, ↓ok_chain, ↓ok_seq, ↓ok_skip, ↓ok_retS, ↓ok_retN, ↓ok_bk, ↓ok_ct, ↓ok_ex1, ↓ok_if, ↓ok_set, ↓ok_setP, ↓ok_asg, ↓ok_gN, ↓ok_gsN, ↓ok_gsC, ↓ok_gT, ↓ok_gSb, ↓ok_par, ↓ok_put, ↓ok_get, ↓ok_run, ↓ok_call, ↓ok_callK, ↓ok_make, ↓ok_prop, ↓ok_for, ↓ok_items, ↓ok_rng1, ↓ok_rng2, ↓ok_comp, ↓ok_yes, ↓ok_compS0, ↓ok_compSC, wipeE, ↓ok_sl, ↓ok_noP, ↓ok_pt, ↓ok_slL, ↓ok_slT, ↓ok_rep, ↓ok_app, ↓ok_oSub, ↓ok_oMul, ↓ok_oDiv, ↓ok_oMod, ↓ok_oPow, ↓ok_oLt, ↓ok_oLe, ↓ok_oGt, ↓ok_oGe, ↓ok_oAdd, ↓ok_oAddL, ↓ok_oAddI, ↓ok_oEqI, ↓ok_oEqL, ↓ok_oEqT, ↓ok_oEqB, ↓ok_oEqN, ↓ok_oEqS, ↓ok_oNeI, ↓ok_oNeL, ↓ok_oNeT, ↓ok_oNeB, ↓ok_oNeN, ↓ok_oNeS, ↓ok_oIs, ↓ok_oIsN, ↓ix_0, ↓ix_1, ↓ix_2, ↓ix_3, ↓ix_4, ↓it_0, ↓it_1, ↓it_2, ↓it_3, ixn_0, ixn_1, ixn_2, ↓ok_len, ↓ok_lenT, ↓ok_absI, ↓ok_intI, ↓ok_max2, ↓ok_min2, ↓ok_max3, ↓ok_min3, ↓ok_dm, ↓ok_repr, argsE, backE, outE, Pu.M.dt, List.getElem?_cons_zero, List.getElem?_cons_succ, List.set_cons_zero, List.set_cons_succ, List.take_succ_cons, List.take_zero, List.replicate_zero, List.replicate_succ, List.append_nil, List.nil_append, List.cons_append, List.length_cons, List.length_nil, Nat.sub_self, Nat.reduceSub, Nat.reduceAdd, Nat.reduceLeDiff, decide_true, decide_false, reduceCtorEq, noBor, setsE, slotOf, setsS, putFs, putVs, lookV, sel, isNon, Bool.not_true, Bool.not_false, Bool.not_eq_true, decide_eq_true_eq, decide_eq_false_iff_not, Bool.true_eq_false, Bool.false_eq_true, false_implies, true_implies, and_true, true_and, not_true_eq_false, not_false_eq_true, and_self, implies_true, or_false, false_or, List.flatten_cons, List.flatten_nil, true_or, or_true, Int.sub_zero, eq_self, veq_int, veq_str, cMod, cDiv, cPow, cMul_r, cMul_l, strq, String.reduceEq, sz, szl, dOk_int, dOk_bl, dOk_non, if_true, if_false, Int.reducePow, Int.reduceToNat, Int.reduceMul, Int.reduceAdd, Int.reduceSub, Int.reduceNeg, Int.reduceLT, Int.reduceLE, Int.reduceGT, Int.reduceEq, gt_iff_lt, ge_iff_le, Nat.reducePow, Nat.reduceMul, Nat.reduceLT, Int.cast_ofNat_Int, false_and, and_false, Bool.and_true, Bool.true_and, Bool.and_false, Bool.false_and, Bool.or_true, Bool.true_or, Bool.or_false, Bool.false_or, ↓vD_0, ↓vO_0, ↓rD_0, ↓rO_0, ↓kD_0, ↓kO_0, ↓vD_1, ↓vO_1, ↓rD_1, ↓rO_1, ↓kD_1, ↓kO_1, ↓vD_2, ↓vO_2, ↓rD_2, ↓rO_2, ↓kD_2, ↓kO_2, ↓vD_3, ↓vO_3, ↓rD_3, ↓rO_3, ↓kD_3, ↓kO_3, ↓vD_4, ↓vO_4, ↓rD_4, ↓rO_4, ↓kD_4, ↓kO_4, ↓vD_5, ↓vO_5, ↓rD_5, ↓rO_5, ↓kD_5, ↓kO_5, ↓vD_6, ↓vO_6, ↓rD_6, ↓rO_6, ↓kD_6, ↓kO_6, ↓vD_7, ↓vO_7, ↓rD_7, ↓rO_7, ↓kD_7, ↓kO_7, ↓vD_8, ↓vO_8, ↓rD_8, ↓rO_8, ↓kD_8, ↓kO_8, ↓vD_9, ↓vO_9, ↓rD_9, ↓rO_9, ↓kD_9, ↓kO_9, ↓vD_10, ↓vO_10, ↓rD_10, ↓rO_10, ↓kD_10, ↓kO_10, ↓vD_11, ↓vO_11, ↓rD_11, ↓rO_11, ↓kD_11, ↓kO_11, ↓vD_12, ↓vO_12, ↓rD_12, ↓rO_12, ↓kD_12, ↓kO_12, ↓vD_13, ↓vO_13, ↓rD_13, ↓rO_13, ↓kD_13, ↓kO_13, ↓vD_14, ↓vO_14, ↓rD_14, ↓rO_14, ↓kD_14, ↓kO_14, ↓vD_15, ↓vO_15, ↓rD_15, ↓rO_15, ↓kD_15, ↓kO_15]
  refine Ok.mono (r_pick (by simp) (by simp)) ?_
  rintro _ _ ⟨v, a2, b2, c2, hv, rfl, rfl⟩
  have hi : ∃ k : Int, v = .int k ∧ 1 ≤ k ∧ k ≤ mm := by
    simp only [List.mem_cons, List.not_mem_nil, or_false] at hv
    rcases hv with rfl | rfl | rfl | rfl | rfl <;> exact ⟨_, rfl, by omega, by omega⟩
  obtain ⟨g, rfl, g1, g2⟩ := hi
  simp (disch := first | omega | rfl) only [↓ok_d1, ↓ok_d2, ↓ok_d3, ↓ok_d4, ↓ok_d5, ↓ok_d6, ↓ok_d7, ↓ok_bind, ↓ok_ret, ↓ok_bad, ↓ok_mV, ↓ok_rdD, ↓ok_rdT, ↓ok_dtD, ↓ok_dtT, ↓ok_rds0, ↓ok_rdsC, ↓ok_dts0, ↓ok_dtsC, ↓ok_nil, ↓ok_cons, ↓ok_bin, ↓ok_cb, ↓ok_tup, ↓ok_lst, ↓ok_tru, ↓ok_truB, ↓ok_truI, ↓ok_truN, ↓ok_truL, ↓ok_truT, ↓ok_and, ↓ok_or, ↓ok_not, ↓ok_ifE, ↓ok_andV, ↓ok_orV, ↓ok_notV, ↓ok_neg, ↓ok_chain, ↓ok_seq, ↓ok_skip, ↓ok_retS, ↓ok_retN, ↓ok_bk, ↓ok_ct, ↓ok_ex1, ↓ok_if, ↓ok_set, ↓ok_setP, ↓ok_asg, ↓ok_gN, ↓ok_gsN, ↓ok_gsC, ↓ok_gT, ↓ok_gSb, ↓ok_par, ↓ok_put, ↓ok_get, ↓ok_run, ↓ok_call, ↓ok_callK, ↓ok_make, ↓ok_prop, ↓ok_for, ↓ok_items, ↓ok_rng1, ↓ok_rng2, ↓ok_comp, ↓ok_yes, ↓ok_compS0, ↓ok_compSC, wipeE, ↓ok_sl, ↓ok_noP, ↓ok_pt, ↓ok_slL, ↓ok_slT, ↓ok_rep, ↓ok_app, ↓ok_oSub, ↓ok_oMul, ↓ok_oDiv, ↓ok_oMod, ↓ok_oPow, ↓ok_oLt, ↓ok_oLe, ↓ok_oGt, ↓ok_oGe, ↓ok_oAdd, ↓ok_oAddL, ↓ok_oAddI, ↓ok_oEqI, ↓ok_oEqL, ↓ok_oEqT, ↓ok_oEqB, ↓ok_oEqN, ↓ok_oEqS, ↓ok_oNeI, ↓ok_oNeL, ↓ok_oNeT, ↓ok_oNeB, ↓ok_oNeN, ↓ok_oNeS, ↓ok_oIs, ↓ok_oIsN, ↓ix_0, ↓ix_1, ↓ix_2, ↓ix_3, ↓ix_4, ↓it_0, ↓it_1, ↓it_2, ↓it_3, ixn_0, ixn_1, ixn_2, ↓ok_len, ↓ok_lenT, ↓ok_absI, ↓ok_intI, ↓ok_max2, ↓ok_min2, ↓ok_max3, ↓ok_min3, ↓ok_dm, ↓ok_repr, argsE, backE, outE, Pu.M.dt, List.getElem?_cons_zero, List.getElem?_cons_succ, List.set_cons_zero, List.set_cons_succ, List.take_succ_cons, List.take_zero, List.replicate_zero, List.replicate_succ, List.append_nil, List.nil_append, List.cons_append, List.length_cons, List.length_nil, Nat.sub_self, Nat.reduceSub, Nat.reduceAdd, Nat.reduceLeDiff, decide_true, decide_false, reduceCtorEq, noBor, setsE, slotOf, setsS, putFs, putVs, lookV, sel, isNon, Bool.not_true, Bool.not_false, Bool.not_eq_true, decide_eq_true_eq, decide_eq_false_iff_not, Bool.true_eq_false, Bool.false_eq_true, false_implies, true_implies, and_true, true_and, not_true_eq_false, not_false_eq_true, and_self, implies_true, or_false, false_or, List.flatten_cons, List.flatten_nil, true_or, or_true, Int.sub_zero, eq_self, veq_int, veq_str, cMod, cDiv, cPow, cMul_r, cMul_l, strq, String.reduceEq, sz, szl, dOk_int, dOk_bl, dOk_non, if_true, if_false, Int.reducePow, Int.reduceToNat, Int.reduceMul, Int.reduceAdd, Int.reduceSub, Int.reduceNeg, Int.reduceLT, Int.reduceLE, Int.reduceGT, Int.reduceEq, gt_iff_lt, ge_iff_le, Nat.reducePow, Nat.reduceMul, Nat.reduceLT, Int.cast_ofNat_Int, false_and, and_false, Bool.and_true, Bool.true_and, Bool.and_false, Bool.false_and, Bool.or_true, Bool.true_or, Bool.or_false, Bool.false_or, ↓vD_0, ↓vO_0, ↓rD_0, ↓rO_0, ↓kD_0, ↓kO_0, ↓vD_1, ↓vO_1, ↓rD_1, ↓rO_1, ↓kD_1, ↓kO_1, ↓vD_2, ↓vO_2, ↓rD_2, ↓rO_2, ↓kD_2, ↓kO_2, ↓vD_3, ↓vO_3, ↓rD_3, ↓rO_3, ↓kD_3, ↓kO_3, ↓vD_4, ↓vO_4, ↓rD_4, ↓rO_4, ↓kD_4, ↓kO_4, ↓vD_5, ↓vO_5, ↓rD_5, ↓rO_5, ↓kD_5, ↓kO_5, ↓vD_6, ↓vO_6, ↓rD_6, ↓rO_6, ↓kD_6, ↓kO_6, ↓vD_7, ↓vO_7, ↓rD_7, ↓rO_7, ↓kD_7, ↓kO_7, ↓vD_8, ↓vO_8, ↓rD_8, ↓rO_8, ↓kD_8, ↓kO_8, ↓vD_9, ↓vO_9, ↓rD_9, ↓rO_9, ↓kD_9, ↓kO_9, ↓vD_10, ↓vO_10, ↓rD_10, ↓rO_10, ↓kD_10, ↓kO_10, ↓vD_11, ↓vO_11, ↓rD_11, ↓rO_11, ↓kD_11, ↓kO_11, ↓vD_12, ↓vO_12, ↓rD_12, ↓rO_12, ↓kD_12, ↓kO_12, ↓vD_13, ↓vO_13, ↓rD_13, ↓rO_13, ↓kD_13, ↓kO_13, ↓vD_14, ↓vO_14, ↓rD_14, ↓rO_14, ↓kD_14, ↓kO_14, ↓vD_15, ↓vO_15, ↓rD_15, ↓rO_15, ↓kD_15, ↓kO_15]
  have hm : 1 ≤ (if (1000000 : Int) < g then (1000000 : Int) else g) ∧ (if (1000000 : Int) < g then (1000000 : Int) else g) ≤ 1000000 := by split <;> omega
  generalize (if (1000000 : Int) < g then (1000000 : Int) else g) = m at hm ⊢
  refine Ok.mono (r_sip (by omega) (by omega)) ?_
  rintro _ _ ⟨d2, a3, b3, c3, rfl, rfl, h6, h7⟩
  simp (disch := first | omega | rfl) only [↓ok_d1, ↓ok_d2, ↓ok_d3, ↓ok_d4, ↓ok_d5, ↓ok_d6, ↓ok_d7, ↓ok_bind, ↓ok_ret, ↓ok_bad, ↓ok_mV, ↓ok_rdD, ↓ok_rdT, ↓ok_dtD, ↓ok_dtT, ↓ok_rds0, ↓ok_rdsC, ↓ok_dts0, ↓ok_dtsC, ↓ok_nil, ↓ok_cons, ↓ok_bin, ↓ok_cb, ↓ok_tup, ↓ok_lst, ↓ok_tru, ↓ok_truB, ↓ok_truI, ↓ok_truN, ↓ok_truL, ↓ok_truT, ↓ok_and, ↓ok_or, ↓ok_not, ↓ok_ifE, ↓ok_andV, ↓ok_orV, ↓ok_notV, ↓ok_neg, ↓ok_chain, ↓ok_seq, ↓ok_skip, ↓ok_retS, ↓ok_retN, ↓ok_bk, ↓ok_ct, ↓ok_ex1, ↓ok_if, ↓ok_set, ↓ok_setP, ↓ok_asg, ↓ok_gN, ↓ok_gsN, ↓ok_gsC, ↓ok_gT, ↓ok_gSb, ↓ok_par, ↓ok_put, ↓ok_get, ↓ok_run, ↓ok_call, ↓ok_callK, ↓ok_make, ↓ok_prop, ↓ok_for, ↓ok_items, ↓ok_rng1, ↓ok_rng2, ↓ok_comp, ↓ok_yes, ↓ok_compS0, ↓ok_compSC, wipeE, ↓ok_sl, ↓ok_noP, ↓ok_pt, ↓ok_slL, ↓ok_slT, ↓ok_rep, ↓ok_app, ↓ok_oSub, ↓ok_oMul, ↓ok_oDiv, ↓ok_oMod, ↓ok_oPow, ↓ok_oLt, ↓ok_oLe, ↓ok_oGt, ↓ok_oGe, ↓ok_oAdd, ↓ok_oAddL, ↓ok_oAddI, ↓ok_oEqI, ↓ok_oEqL, ↓ok_oEqT, ↓ok_oEqB, ↓ok_oEqN, ↓ok_oEqS, ↓ok_oNeI, ↓ok_oNeL, ↓ok_oNeT, ↓ok_oNeB, ↓ok_oNeN, ↓ok_oNeS, ↓ok_oIs, ↓ok_oIsN, ↓ix_0, ↓ix_1, ↓ix_2, ↓ix_3, ↓ix_4, ↓it_0, ↓it_1, ↓it_2, ↓it_3, ixn_0, ixn_1, ixn_2, ↓ok_len, ↓ok_lenT, ↓ok_absI, ↓ok_intI, ↓ok_max2, ↓ok_min2, ↓ok_max3, ↓ok_min3, ↓ok_dm, ↓ok_repr, argsE, backE, outE, Pu.M.dt, List.getElem?_cons_zero, List.getElem?_cons_succ, List.set_cons_zero, List.set_cons_succ, List.take_succ_cons, List.take_zero, List.replicate_zero, List.replicate_succ, List.append_nil, List.nil_append, List.cons_append, List.length_cons, List.length_nil, Nat.sub_self, Nat.reduceSub, Nat.reduceAdd, Nat.reduceLeDiff, decide_true, decide_false, reduceCtorEq, noBor, setsE, slotOf, setsS, putFs, putVs, lookV, sel, isNon, Bool.not_true, Bool.not_false, Bool.not_eq_true, decide_eq_true_eq, decide_eq_false_iff_not, Bool.true_eq_false, Bool.false_eq_true, false_implies, true_implies, and_true, true_and, not_true_eq_false, not_false_eq_true, and_self, implies_true, or_false, false_or, List.flatten_cons, List.flatten_nil, true_or, or_true, Int.sub_zero, eq_self, veq_int, veq_str, cMod, cDiv, cPow, cMul_r, cMul_l, strq, String.reduceEq, sz, szl, dOk_int, dOk_bl, dOk_non, if_true, if_false, Int.reducePow, Int.reduceToNat, Int.reduceMul, Int.reduceAdd, Int.reduceSub, Int.reduceNeg, Int.reduceLT, Int.reduceLE, Int.reduceGT, Int.reduceEq, gt_iff_lt, ge_iff_le, Nat.reducePow, Nat.reduceMul, Nat.reduceLT, Int.cast_ofNat_Int, false_and, and_false, Bool.and_true, Bool.true_and, Bool.and_false, Bool.false_and, Bool.or_true, Bool.true_or, Bool.or_false, Bool.false_or, ↓vD_0, ↓vO_0, ↓rD_0, ↓rO_0, ↓kD_0, ↓kO_0, ↓vD_1, ↓vO_1, ↓rD_1, ↓rO_1, ↓kD_1, ↓kO_1, ↓vD_2, ↓vO_2, ↓rD_2, ↓rO_2, ↓kD_2, ↓kO_2, ↓vD_3, ↓vO_3, ↓rD_3, ↓rO_3, ↓kD_3, ↓kO_3, ↓vD_4, ↓vO_4, ↓rD_4, ↓rO_4, ↓kD_4, ↓kO_4, ↓vD_5, ↓vO_5, ↓rD_5, ↓rO_5, ↓kD_5, ↓kO_5, ↓vD_6, ↓vO_6, ↓rD_6, ↓rO_6, ↓kD_6, ↓kO_6, ↓vD_7, ↓vO_7, ↓rD_7, ↓rO_7, ↓kD_7, ↓kO_7, ↓vD_8, ↓vO_8, ↓rD_8, ↓rO_8, ↓kD_8, ↓kO_8, ↓vD_9, ↓vO_9, ↓rD_9, ↓rO_9, ↓kD_9, ↓kO_9, ↓vD_10, ↓vO_10, ↓rD_10, ↓rO_10, ↓kD_10, ↓kO_10, ↓vD_11, ↓vO_11, ↓rD_11, ↓rO_11, ↓kD_11, ↓kO_11, ↓vD_12, ↓vO_12, ↓rD_12, ↓rO_12, ↓kD_12, ↓kO_12, ↓vD_13, ↓vO_13, ↓rD_13, ↓rO_13, ↓kD_13, ↓kO_13, ↓vD_14, ↓vO_14, ↓rD_14, ↓rO_14, ↓kD_14, ↓kO_14, ↓vD_15, ↓vO_15, ↓rD_15, ↓rO_15, ↓kD_15, ↓kO_15]
  refine Ok.mono (r_pick (by simp) (by simp)) ?_
  rintro _ _ ⟨v, a4, b4, c4, hv, rfl, rfl⟩
  have hi : ∃ k : Int, v = .int k ∧ 0 ≤ k ∧ k ≤ 3000007 := by
    simp only [List.mem_cons, List.not_mem_nil, or_false] at hv
    rcases hv with rfl | rfl | rfl | rfl | rfl <;> exact ⟨_, rfl, by omega, by omega⟩
  obtain ⟨f, rfl, f1, f2⟩ := hi
  simp (disch := first | omega | rfl) only [↓ok_d1, ↓ok_d2, ↓ok_d3, ↓ok_d4, ↓ok_d5, ↓ok_d6, ↓ok_d7, ↓ok_bind, ↓ok_ret, ↓ok_bad, ↓ok_mV, ↓ok_rdD, ↓ok_rdT, ↓ok_dtD, ↓ok_dtT, ↓ok_rds0, ↓ok_rdsC, ↓ok_dts0, ↓ok_dtsC, ↓ok_nil, ↓ok_cons, ↓ok_bin, ↓ok_cb, ↓ok_tup, ↓ok_lst, ↓ok_tru, ↓ok_truB, ↓ok_truI, ↓ok_truN, ↓ok_truL, ↓ok_truT, ↓ok_and, ↓ok_or, ↓ok_not, ↓ok_ifE, ↓ok_andV, ↓ok_orV, ↓ok_notV, ↓ok_neg, ↓ok_chain, ↓ok_seq, ↓ok_skip, ↓ok_retS, ↓ok_retN, ↓ok_bk, ↓ok_ct, ↓ok_ex1, ↓ok_if, ↓ok_set, ↓ok_setP, ↓ok_asg, ↓ok_gN, ↓ok_gsN, ↓ok_gsC, ↓ok_gT, ↓ok_gSb, ↓ok_par, ↓ok_put, ↓ok_get, ↓ok_run, ↓ok_call, ↓ok_callK, ↓ok_make, ↓ok_prop, ↓ok_for, ↓ok_items, ↓ok_rng1, ↓ok_rng2, ↓ok_comp, ↓ok_yes, ↓ok_compS0, ↓ok_compSC, wipeE, ↓ok_sl, ↓ok_noP, ↓ok_pt, ↓ok_slL, ↓ok_slT, ↓ok_rep, ↓ok_app, ↓ok_oSub, ↓ok_oMul, ↓ok_oDiv, ↓ok_oMod, ↓ok_oPow, ↓ok_oLt, ↓ok_oLe, ↓ok_oGt, ↓ok_oGe, ↓ok_oAdd, ↓ok_oAddL, ↓ok_oAddI, ↓ok_oEqI, ↓ok_oEqL, ↓ok_oEqT, ↓ok_oEqB, ↓ok_oEqN, ↓ok_oEqS, ↓ok_oNeI, ↓ok_oNeL, ↓ok_oNeT, ↓ok_oNeB, ↓ok_oNeN, ↓ok_oNeS, ↓ok_oIs, ↓ok_oIsN, ↓ix_0, ↓ix_1, ↓ix_2, ↓ix_3, ↓ix_4, ↓it_0, ↓it_1, ↓it_2, ↓it_3, ixn_0, ixn_1, ixn_2, ↓ok_len, ↓ok_lenT, ↓ok_absI, ↓ok_intI, ↓ok_max2, ↓ok_min2, ↓ok_max3, ↓ok_min3, ↓ok_dm, ↓ok_repr, argsE, backE, outE, Pu.M.dt, List.getElem?_cons_zero, List.getElem?_cons_succ, List.set_cons_zero, List.set_cons_succ, List.take_succ_cons, List.take_zero, List.replicate_zero, List.replicate_succ, List.append_nil, List.nil_append, List.cons_append, List.length_cons, List.length_nil, Nat.sub_self, Nat.reduceSub, Nat.reduceAdd, Nat.reduceLeDiff, decide_true, decide_false, reduceCtorEq, noBor, setsE, slotOf, setsS, putFs, putVs, lookV, sel, isNon, Bool.not_true, Bool.not_false, Bool.not_eq_true, decide_eq_true_eq, decide_eq_false_iff_not, Bool.true_eq_false, Bool.false_eq_true, false_implies, true_implies, and_true, true_and, not_true_eq_false, not_false_eq_true, and_self, implies_true, or_false, false_or, List.flatten_cons, List.flatten_nil, true_or, or_true, Int.sub_zero, eq_self, veq_int, veq_str, cMod, cDiv, cPow, cMul_r, cMul_l, strq, String.reduceEq, sz, szl, dOk_int, dOk_bl, dOk_non, if_true, if_false, Int.reducePow, Int.reduceToNat, Int.reduceMul, Int.reduceAdd, Int.reduceSub, Int.reduceNeg, Int.reduceLT, Int.reduceLE, Int.reduceGT, Int.reduceEq, gt_iff_lt, ge_iff_le, Nat.reducePow, Nat.reduceMul, Nat.reduceLT, Int.cast_ofNat_Int, false_and, and_false, Bool.and_true, Bool.true_and, Bool.and_false, Bool.false_and, Bool.or_true, Bool.true_or, Bool.or_false, Bool.false_or, ↓vD_0, ↓vO_0, ↓rD_0, ↓rO_0, ↓kD_0, ↓kO_0, ↓vD_1, ↓vO_1, ↓rD_1, ↓rO_1, ↓kD_1, ↓kO_1, ↓vD_2, ↓vO_2, ↓rD_2, ↓rO_2, ↓kD_2, ↓kO_2, ↓vD_3, ↓vO_3, ↓rD_3, ↓rO_3, ↓kD_3, ↓kO_3, ↓vD_4, ↓vO_4, ↓rD_4, ↓rO_4, ↓kD_4, ↓kO_4, ↓vD_5, ↓vO_5, ↓rD_5, ↓rO_5, ↓kD_5, ↓kO_5, ↓vD_6, ↓vO_6, ↓rD_6, ↓rO_6, ↓kD_6, ↓kO_6, ↓vD_7, ↓vO_7, ↓rD_7, ↓rO_7, ↓kD_7, ↓kO_7, ↓vD_8, ↓vO_8, ↓rD_8, ↓rO_8, ↓kD_8, ↓kO_8, ↓vD_9, ↓vO_9, ↓rD_9, ↓rO_9, ↓kD_9, ↓kO_9, ↓vD_10, ↓vO_10, ↓rD_10, ↓rO_10, ↓kD_10, ↓kO_10, ↓vD_11, ↓vO_11, ↓rD_11, ↓rO_11, ↓kD_11, ↓kO_11, ↓vD_12, ↓vO_12, ↓rD_12, ↓rO_12, ↓kD_12, ↓kO_12, ↓vD_13, ↓vO_13, ↓rD_13, ↓rO_13, ↓kD_13, ↓kO_13, ↓vD_14, ↓vO_14, ↓rD_14, ↓rO_14, ↓kD_14, ↓kO_14, ↓vD_15, ↓vO_15, ↓rD_15, ↓rO_15, ↓kD_15, ↓kO_15]
  refine Ok.mono (r_pick (by simp) (by simp)) ?_
  rintro _ _ ⟨v, a5, b5, c5, hv, rfl, rfl⟩
  have hi : ∃ k : Str, v = .str k ∧ inMenu k := by
    simp only [List.mem_cons, List.not_mem_nil, or_false] at hv
    rcases hv with rfl | rfl | rfl
    · exact ⟨_, rfl, .inl rfl⟩
    · exact ⟨_, rfl, .inr (.inl rfl)⟩
    · exact ⟨_, rfl, .inr (.inr rfl)⟩
  obtain ⟨t, rfl, t1⟩ := hi
  simp (disch := first | omega | rfl) only [↓ok_d1, ↓ok_d2, ↓ok_d3, ↓ok_d4, ↓ok_d5, ↓ok_d6, ↓ok_d7, ↓ok_bind, ↓ok_ret, ↓ok_bad, ↓ok_mV, ↓ok_rdD, ↓ok_rdT, ↓ok_dtD, ↓ok_dtT, ↓ok_rds0, ↓ok_rdsC, ↓ok_dts0, ↓ok_dtsC, ↓ok_nil, ↓ok_cons, ↓ok_bin, ↓ok_cb, ↓ok_tup, ↓ok_lst, ↓ok_tru, ↓ok_truB, ↓ok_truI, ↓ok_truN, ↓ok_truL, ↓ok_truT, ↓ok_and, ↓ok_or, ↓ok_not, ↓ok_ifE, ↓ok_andV, ↓ok_orV, ↓ok_notV, ↓ok_neg, ↓ok_chain, ↓ok_seq, ↓ok_skip, ↓ok_retS, ↓ok_retN, ↓ok_bk, ↓ok_ct, ↓ok_ex1, ↓ok_if, ↓ok_set, ↓ok_setP, ↓ok_asg, ↓ok_gN, ↓ok_gsN, ↓ok_gsC, ↓ok_gT, ↓ok_gSb, ↓ok_par, ↓ok_put, ↓ok_get, ↓ok_run, ↓ok_call, ↓ok_callK, ↓ok_make, ↓ok_prop, ↓ok_for, ↓ok_items, ↓ok_rng1, ↓ok_rng2, ↓ok_comp, ↓ok_yes, ↓ok_compS0, ↓ok_compSC, wipeE, ↓ok_sl, ↓ok_noP, ↓ok_pt, ↓ok_slL, ↓ok_slT, ↓ok_rep, ↓ok_app, ↓ok_oSub, ↓ok_oMul, ↓ok_oDiv, ↓ok_oMod, ↓ok_oPow, ↓ok_oLt, ↓ok_oLe, ↓ok_oGt, ↓ok_oGe, ↓ok_oAdd, ↓ok_oAddL, ↓ok_oAddI, ↓ok_oEqI, ↓ok_oEqL, ↓ok_oEqT, ↓ok_oEqB, ↓ok_oEqN, ↓ok_oEqS, ↓ok_oNeI, ↓ok_oNeL, ↓ok_oNeT, ↓ok_oNeB, ↓ok_oNeN, ↓ok_oNeS, ↓ok_oIs, ↓ok_oIsN, ↓ix_0, ↓ix_1, ↓ix_2, ↓ix_3, ↓ix_4, ↓it_0, ↓it_1, ↓it_2, ↓it_3, ixn_0, ixn_1, ixn_2, ↓ok_len, ↓ok_lenT, ↓ok_absI, ↓ok_intI, ↓ok_max2, ↓ok_min2, ↓ok_max3, ↓ok_min3, ↓ok_dm, ↓ok_repr, argsE, backE, outE, Pu.M.dt, List.getElem?_cons_zero, List.getElem?_cons_succ, List.set_cons_zero, List.set_cons_succ, List.take_succ_cons, List.take_zero, List.replicate_zero, List.replicate_succ, List.append_nil, List.nil_append, List.cons_append, List.length_cons, List.length_nil, Nat.sub_self, Nat.reduceSub, Nat.reduceAdd, Nat.reduceLeDiff, decide_true, decide_false, reduceCtorEq, noBor, setsE, slotOf, setsS, putFs, putVs, lookV, sel, isNon, Bool.not_true, Bool.not_false, Bool.not_eq_true, decide_eq_true_eq, decide_eq_false_iff_not, Bool.true_eq_false, Bool.false_eq_true, false_implies, true_implies, and_true, true_and, not_true_eq_false, not_false_eq_true, and_self, implies_true, or_false, false_or, List.flatten_cons, List.flatten_nil, true_or, or_true, Int.sub_zero, eq_self, veq_int, veq_str, cMod, cDiv, cPow, cMul_r, cMul_l, strq, String.reduceEq, sz, szl, dOk_int, dOk_bl, dOk_non, if_true, if_false, Int.reducePow, Int.reduceToNat, Int.reduceMul, Int.reduceAdd, Int.reduceSub, Int.reduceNeg, Int.reduceLT, Int.reduceLE, Int.reduceGT, Int.reduceEq, gt_iff_lt, ge_iff_le, Nat.reducePow, Nat.reduceMul, Nat.reduceLT, Int.cast_ofNat_Int, false_and, and_false, Bool.and_true, Bool.true_and, Bool.and_false, Bool.false_and, Bool.or_true, Bool.true_or, Bool.or_false, Bool.false_or, ↓vD_0, ↓vO_0, ↓rD_0, ↓rO_0, ↓kD_0, ↓kO_0, ↓vD_1, ↓vO_1, ↓rD_1, ↓rO_1, ↓kD_1, ↓kO_1, ↓vD_2, ↓vO_2, ↓rD_2, ↓rO_2, ↓kD_2, ↓kO_2, ↓vD_3, ↓vO_3, ↓rD_3, ↓rO_3, ↓kD_3, ↓kO_3, ↓vD_4, ↓vO_4, ↓rD_4, ↓rO_4, ↓kD_4, ↓kO_4, ↓vD_5, ↓vO_5, ↓rD_5, ↓rO_5, ↓kD_5, ↓kO_5, ↓vD_6, ↓vO_6, ↓rD_6, ↓rO_6, ↓kD_6, ↓kO_6, ↓vD_7, ↓vO_7, ↓rD_7, ↓rO_7, ↓kD_7, ↓kO_7, ↓vD_8, ↓vO_8, ↓rD_8, ↓rO_8, ↓kD_8, ↓kO_8, ↓vD_9, ↓vO_9, ↓rD_9, ↓rO_9, ↓kD_9, ↓kO_9, ↓vD_10, ↓vO_10, ↓rD_10, ↓rO_10, ↓kD_10, ↓kO_10, ↓vD_11, ↓vO_11, ↓rD_11, ↓rO_11, ↓kD_11, ↓kO_11, ↓vD_12, ↓vO_12, ↓rD_12, ↓rO_12, ↓kD_12, ↓kO_12, ↓vD_13, ↓vO_13, ↓rD_13, ↓rO_13, ↓kD_13, ↓kO_13, ↓vD_14, ↓vO_14, ↓rD_14, ↓rO_14, ↓kD_14, ↓kO_14, ↓vD_15, ↓vO_15, ↓rD_15, ↓rO_15, ↓kD_15, ↓kO_15]
  refine Ok.mono (r_pick (by simp) (by simp)) ?_
  rintro _ _ ⟨v, a6, b6, c6, hv, rfl, rfl⟩
  have hi : ∃ k : Int, v = .int k ∧ 1 ≤ k ∧ k ≤ 8 := by
    simp only [List.mem_cons, List.not_mem_nil, or_false] at hv
    rcases hv with rfl | rfl | rfl | rfl | rfl <;> exact ⟨_, rfl, by omega, by omega⟩
  obtain ⟨p, rfl, p1, p2⟩ := hi
  simp (disch := first | omega | rfl) only [↓ok_d1, ↓ok_d2, ↓ok_d3, ↓ok_d4, ↓ok_d5, ↓ok_d6, ↓ok_d7, ↓ok_bind, ↓ok_ret, ↓ok_bad, ↓ok_mV, ↓ok_rdD, ↓ok_rdT, ↓ok_dtD, ↓ok_dtT, ↓ok_rds0, ↓ok_rdsC, ↓ok_dts0, ↓ok_dtsC, ↓ok_nil, ↓ok_cons, ↓ok_bin, ↓ok_cb, ↓ok_tup, ↓ok_lst, ↓ok_tru, ↓ok_truB, ↓ok_truI, ↓ok_truN, ↓ok_truL, ↓ok_truT, ↓ok_and, ↓ok_or, ↓ok_not, ↓ok_ifE, ↓ok_andV, ↓ok_orV, ↓ok_notV, ↓ok_neg, ↓ok_chain, ↓ok_seq, ↓ok_skip, ↓ok_retS, ↓ok_retN, ↓ok_bk, ↓ok_ct, ↓ok_ex1, ↓ok_if, ↓ok_set, ↓ok_setP, ↓ok_asg, ↓ok_gN, ↓ok_gsN, ↓ok_gsC, ↓ok_gT, ↓ok_gSb, ↓ok_par, ↓ok_put, ↓ok_get, ↓ok_run, ↓ok_call, ↓ok_callK, ↓ok_make, ↓ok_prop, ↓ok_for, ↓ok_items, ↓ok_rng1, ↓ok_rng2, ↓ok_comp, ↓ok_yes, ↓ok_compS0, ↓ok_compSC, wipeE, ↓ok_sl, ↓ok_noP, ↓ok_pt, ↓ok_slL, ↓ok_slT, ↓ok_rep, ↓ok_app, ↓ok_oSub, ↓ok_oMul, ↓ok_oDiv, ↓ok_oMod, ↓ok_oPow, ↓ok_oLt, ↓ok_oLe, ↓ok_oGt, ↓ok_oGe, ↓ok_oAdd, ↓ok_oAddL, ↓ok_oAddI, ↓ok_oEqI, ↓ok_oEqL, ↓ok_oEqT, ↓ok_oEqB, ↓ok_oEqN, ↓ok_oEqS, ↓ok_oNeI, ↓ok_oNeL, ↓ok_oNeT, ↓ok_oNeB, ↓ok_oNeN, ↓ok_oNeS, ↓ok_oIs, ↓ok_oIsN, ↓ix_0, ↓ix_1, ↓ix_2, ↓ix_3, ↓ix_4, ↓it_0, ↓it_1, ↓it_2, ↓it_3, ixn_0, ixn_1, ixn_2, ↓ok_len, ↓ok_lenT, ↓ok_absI, ↓ok_intI, ↓ok_max2, ↓ok_min2, ↓ok_max3, ↓ok_min3, ↓ok_dm, ↓ok_repr, argsE, backE, outE, Pu.M.dt, List.getElem?_cons_zero, List.getElem?_cons_succ, List.set_cons_zero, List.set_cons_succ, List.take_succ_cons, List.take_zero, List.replicate_zero, List.replicate_succ, List.append_nil, List.nil_append, List.cons_append, List.length_cons, List.length_nil, Nat.sub_self, Nat.reduceSub, Nat.reduceAdd, Nat.reduceLeDiff, decide_true, decide_false, reduceCtorEq, noBor, setsE, slotOf, setsS, putFs, putVs, lookV, sel, isNon, Bool.not_true, Bool.not_false, Bool.not_eq_true, decide_eq_true_eq, decide_eq_false_iff_not, Bool.true_eq_false, Bool.false_eq_true, false_implies, true_implies, and_true, true_and, not_true_eq_false, not_false_eq_true, and_self, implies_true, or_false, false_or, List.flatten_cons, List.flatten_nil, true_or, or_true, Int.sub_zero, eq_self, veq_int, veq_str, cMod, cDiv, cPow, cMul_r, cMul_l, strq, String.reduceEq, sz, szl, dOk_int, dOk_bl, dOk_non, if_true, if_false, Int.reducePow, Int.reduceToNat, Int.reduceMul, Int.reduceAdd, Int.reduceSub, Int.reduceNeg, Int.reduceLT, Int.reduceLE, Int.reduceGT, Int.reduceEq, gt_iff_lt, ge_iff_le, Nat.reducePow, Nat.reduceMul, Nat.reduceLT, Int.cast_ofNat_Int, false_and, and_false, Bool.and_true, Bool.true_and, Bool.and_false, Bool.false_and, Bool.or_true, Bool.true_or, Bool.or_false, Bool.false_or, ↓vD_0, ↓vO_0, ↓rD_0, ↓rO_0, ↓kD_0, ↓kO_0, ↓vD_1, ↓vO_1, ↓rD_1, ↓rO_1, ↓kD_1, ↓kO_1, ↓vD_2, ↓vO_2, ↓rD_2, ↓rO_2, ↓kD_2, ↓kO_2, ↓vD_3, ↓vO_3, ↓rD_3, ↓rO_3, ↓kD_3, ↓kO_3, ↓vD_4, ↓vO_4, ↓rD_4, ↓rO_4, ↓kD_4, ↓kO_4, ↓vD_5, ↓vO_5, ↓rD_5, ↓rO_5, ↓kD_5, ↓kO_5, ↓vD_6, ↓vO_6, ↓rD_6, ↓rO_6, ↓kD_6, ↓kO_6, ↓vD_7, ↓vO_7, ↓rD_7, ↓rO_7, ↓kD_7, ↓kO_7, ↓vD_8, ↓vO_8, ↓rD_8, ↓rO_8, ↓kD_8, ↓kO_8, ↓vD_9, ↓vO_9, ↓rD_9, ↓rO_9, ↓kD_9, ↓kO_9, ↓vD_10, ↓vO_10, ↓rD_10, ↓rO_10, ↓kD_10, ↓kO_10, ↓vD_11, ↓vO_11, ↓rD_11, ↓rO_11, ↓kD_11, ↓kO_11, ↓vD_12, ↓vO_12, ↓rD_12, ↓rO_12, ↓kD_12, ↓kO_12, ↓vD_13, ↓vO_13, ↓rD_13, ↓rO_13, ↓kD_13, ↓kO_13, ↓vD_14, ↓vO_14, ↓rD_14, ↓rO_14, ↓kD_14, ↓kO_14, ↓vD_15, ↓vO_15, ↓rD_15, ↓rO_15, ↓kD_15, ↓kO_15]
  exact ⟨_, _, _, _, _, _, _, rfl, rfl, ⟨g1, g2⟩, t1, ⟨by omega, by omega⟩, p1, p2⟩
def lmark (t : Str) (g a : Int) : Int := if a % g = 0 ∨ t = "last" then a - a % g else if t = "next" ∨ 2 * (a % g) ≥ g then a - a % g + g else a - a % g
theorem r_mark {g f p a : Int} (hg : 0 < g) : Ok den__law_mark [.dat (.lst [.int g, .str t, .int f, .int p]), .dat (.int a)] Q ↔ Q (.dat (.int (lmark t g a))) [.un, .un] := by
  have e1 : ∀ x : Int, (a - x = a) ↔ x = 0 := fun x => by omega
  have e2 : a - (a - a % g) = a % g := by omega
  unfold lmark
  by_cases h0 : a % g = 0
  · simp (disch := first | omega | rfl) only [↓ok_d1, ↓ok_d2, ↓ok_d3, ↓ok_d4, ↓ok_d5, ↓ok_d6, ↓ok_d7, ↓ok_bind, ↓ok_ret, ↓ok_bad, ↓ok_mV, ↓ok_rdD, ↓ok_rdT, ↓ok_dtD, ↓ok_dtT, ↓ok_rds0, ↓ok_rdsC, ↓ok_dts0, ↓ok_dtsC, ↓ok_nil, ↓ok_cons, ↓ok_bin, ↓ok_cb, ↓ok_tup, ↓ok_lst, ↓ok_tru, ↓ok_truB, ↓ok_truI, ↓ok_truN, ↓ok_truL, ↓ok_truT, ↓ok_and, ↓ok_or, ↓ok_not, ↓ok_ifE, ↓ok_andV, ↓ok_orV, ↓ok_notV, ↓ok_neg, ↓ok_chain, ↓ok_seq, ↓ok_skip, ↓ok_retS, ↓ok_retN, ↓ok_bk, ↓ok_ct, ↓ok_ex1, ↓ok_if, ↓ok_set, ↓ok_setP, ↓ok_asg, ↓ok_gN, ↓ok_gsN, ↓ok_gsC, ↓ok_gT, ↓ok_gSb, ↓ok_par, ↓ok_put, ↓ok_get, ↓ok_run, ↓ok_call, ↓ok_callK, ↓ok_make, ↓ok_prop, ↓ok_for, ↓ok_items, ↓ok_rng1, ↓ok_rng2, ↓ok_comp, ↓ok_yes, ↓ok_compS0, ↓ok_compSC, wipeE, ↓ok_sl, ↓ok_noP, ↓ok_pt, ↓ok_slL, ↓ok_slT, ↓ok_rep, ↓ok_app, ↓ok_oSub, ↓ok_oMul, ↓ok_oDiv, ↓ok_oMod, ↓ok_oPow, ↓ok_oLt, ↓ok_oLe, ↓ok_oGt, ↓ok_oGe, ↓ok_oAdd, ↓ok_oAddL, ↓ok_oAddI, ↓ok_oEqI, ↓ok_oEqL, ↓ok_oEqT, ↓ok_oEqB, ↓ok_oEqN, ↓ok_oEqS, ↓ok_oNeI, ↓ok_oNeL, ↓ok_oNeT, ↓ok_oNeB, ↓ok_oNeN, ↓ok_oNeS, ↓ok_oIs, ↓ok_oIsN, ↓ix_0, ↓ix_1, ↓ix_2, ↓ix_3, ↓ix_4, ↓it_0, ↓it_1, ↓it_2, ↓it_3, ixn_0, ixn_1, ixn_2, ↓ok_len, ↓ok_lenT, ↓ok_absI, ↓ok_intI, ↓ok_max2, ↓ok_min2, ↓ok_max3, ↓ok_min3, ↓ok_dm, ↓ok_repr, argsE, backE, outE, Pu.M.dt, List.getElem?_cons_zero, List.getElem?_cons_succ, List.set_cons_zero, List.set_cons_succ, List.take_succ_cons, List.take_zero, List.replicate_zero, List.replicate_succ, List.append_nil, List.nil_append, List.cons_append, List.length_cons, List.length_nil, Nat.sub_self, Nat.reduceSub, Nat.reduceAdd, Nat.reduceLeDiff, decide_true, decide_false, reduceCtorEq, noBor, setsE, slotOf, setsS, putFs, putVs, lookV, sel, isNon, Bool.not_true, Bool.not_false, Bool.not_eq_true, decide_eq_true_eq, decide_eq_false_iff_not, Bool.true_eq_false, Bool.false_eq_true, false_implies, true_implies, and_true, true_and, not_true_eq_false, not_false_eq_true, and_self, implies_true, or_false, false_or, List.flatten_cons, List.flatten_nil, true_or, or_true, Int.sub_zero, eq_self, veq_int, veq_str, cMod, cDiv, cPow, cMul_r, cMul_l, strq, String.reduceEq, sz, szl, dOk_int, dOk_bl, dOk_non, if_true, if_false, Int.reducePow, Int.reduceToNat, Int.reduceMul, Int.reduceAdd, Int.reduceSub, Int.reduceNeg, Int.reduceLT, Int.reduceLE, Int.reduceGT, Int.reduceEq, gt_iff_lt, ge_iff_le, Nat.reducePow, Nat.reduceMul, Nat.reduceLT, Int.cast_ofNat_Int, false_and, and_false, Bool.and_true, Bool.true_and, Bool.and_false, Bool.false_and, Bool.or_true, Bool.true_or, Bool.or_false, Bool.false_or, ↓vD_0, ↓vO_0, ↓rD_0, ↓rO_0, ↓kD_0, ↓kO_0, ↓vD_1, ↓vO_1, ↓rD_1, ↓rO_1, ↓kD_1, ↓kO_1, ↓vD_2, ↓vO_2, ↓rD_2, ↓rO_2, ↓kD_2, ↓kO_2, ↓vD_3, ↓vO_3, ↓rD_3, ↓rO_3, ↓kD_3, ↓kO_3, ↓vD_4, ↓vO_4, ↓rD_4, ↓rO_4, ↓kD_4, ↓kO_4, ↓vD_5, ↓vO_5, ↓rD_5, ↓rO_5, ↓kD_5, ↓kO_5, ↓vD_6, ↓vO_6, ↓rD_6, ↓rO_6, ↓kD_6, ↓kO_6, ↓vD_7, ↓vO_7, ↓rD_7, ↓rO_7, ↓kD_7, ↓kO_7, ↓vD_8, ↓vO_8, ↓rD_8, ↓rO_8, ↓kD_8, ↓kO_8, ↓vD_9, ↓vO_9, ↓rD_9, ↓rO_9, ↓kD_9, ↓kO_9, ↓vD_10, ↓vO_10, ↓rD_10, ↓rO_10, ↓kD_10, ↓kO_10, ↓vD_11, ↓vO_11, ↓rD_11, ↓rO_11, ↓kD_11, ↓kO_11, ↓vD_12, ↓vO_12, ↓rD_12, ↓rO_12, ↓kD_12, ↓kO_12, ↓vD_13, ↓vO_13, ↓rD_13, ↓rO_13, ↓kD_13, ↓kO_13, ↓vD_14, ↓vO_14, ↓rD_14, ↓rO_14, ↓kD_14, ↓kO_14, ↓vD_15, ↓vO_15, ↓rD_15, ↓rO_15, ↓kD_15, ↓kO_15, ↓den__law_mark, ↓b__law_mark, ↓hg, ↓e1, ↓h0]
  · by_cases h1 : t = "last"
    · simp (disch := first | omega | rfl) only [↓ok_d1, ↓ok_d2, ↓ok_d3, ↓ok_d4, ↓ok_d5, ↓ok_d6, ↓ok_d7, ↓ok_bind, ↓ok_ret, ↓ok_bad, ↓ok_mV, ↓ok_rdD, ↓ok_rdT, ↓ok_dtD, ↓ok_dtT, ↓ok_rds0, ↓ok_rdsC, ↓ok_dts0, ↓ok_dtsC, ↓ok_nil, ↓ok_cons, ↓ok_bin, ↓ok_cb, ↓ok_tup, ↓ok_lst, ↓ok_tru, ↓ok_truB, ↓ok_truI, ↓ok_truN, ↓ok_truL, ↓ok_truT, ↓ok_and, ↓ok_or, ↓ok_not, ↓ok_ifE, ↓ok_andV, ↓ok_orV, ↓ok_notV, ↓ok_neg, ↓ok_chain, ↓ok_seq, ↓ok_skip, ↓ok_retS, ↓ok_retN, ↓ok_bk, ↓ok_ct, ↓ok_ex1, ↓ok_if, ↓ok_set, ↓ok_setP, ↓ok_asg, ↓ok_gN, ↓ok_gsN, ↓ok_gsC, ↓ok_gT, ↓ok_gSb, ↓ok_par, ↓ok_put, ↓ok_get, ↓ok_run, ↓ok_call, ↓ok_callK, ↓ok_make, ↓ok_prop, ↓ok_for, ↓ok_items, ↓ok_rng1, ↓ok_rng2, ↓ok_comp, ↓ok_yes, ↓ok_compS0, ↓ok_compSC, wipeE, ↓ok_sl, ↓ok_noP, ↓ok_pt, ↓ok_slL, ↓ok_slT, ↓ok_rep, ↓ok_app, ↓ok_oSub, ↓ok_oMul, ↓ok_oDiv, ↓ok_oMod, ↓ok_oPow, ↓ok_oLt, ↓ok_oLe, ↓ok_oGt, ↓ok_oGe, ↓ok_oAdd, ↓ok_oAddL, ↓ok_oAddI, ↓ok_oEqI, ↓ok_oEqL, ↓ok_oEqT, ↓ok_oEqB, ↓ok_oEqN, ↓ok_oEqS, ↓ok_oNeI, ↓ok_oNeL, ↓ok_oNeT, ↓ok_oNeB, ↓ok_oNeN, ↓ok_oNeS, ↓ok_oIs, ↓ok_oIsN, ↓ix_0, ↓ix_1, ↓ix_2, ↓ix_3, ↓ix_4, ↓it_0, ↓it_1, ↓it_2, ↓it_3, ixn_0, ixn_1, ixn_2, ↓ok_len, ↓ok_lenT, ↓ok_absI, ↓ok_intI, ↓ok_max2, ↓ok_min2, ↓ok_max3, ↓ok_min3, ↓ok_dm, ↓ok_repr, argsE, backE, outE, Pu.M.dt, List.getElem?_cons_zero, List.getElem?_cons_succ, List.set_cons_zero, List.set_cons_succ, List.take_succ_cons, List.take_zero, List.replicate_zero, List.replicate_succ, List.append_nil, List.nil_append, List.cons_append, List.length_cons, List.length_nil, Nat.sub_self, Nat.reduceSub, Nat.reduceAdd, Nat.reduceLeDiff, decide_true, decide_false, reduceCtorEq, noBor, setsE, slotOf, setsS, putFs, putVs, lookV, sel, isNon, Bool.not_true, Bool.not_false, Bool.not_eq_true, decide_eq_true_eq, decide_eq_false_iff_not, Bool.true_eq_false, Bool.false_eq_true, false_implies, true_implies, and_true, true_and, not_true_eq_false, not_false_eq_true, and_self, implies_true, or_false, false_or, List.flatten_cons, List.flatten_nil, true_or, or_true, Int.sub_zero, eq_self, veq_int, veq_str, cMod, cDiv, cPow, cMul_r, cMul_l, strq, String.reduceEq, sz, szl, dOk_int, dOk_bl, dOk_non, if_true, if_false, Int.reducePow, Int.reduceToNat, Int.reduceMul, Int.reduceAdd, Int.reduceSub, Int.reduceNeg, Int.reduceLT, Int.reduceLE, Int.reduceGT, Int.reduceEq, gt_iff_lt, ge_iff_le, Nat.reducePow, Nat.reduceMul, Nat.reduceLT, Int.cast_ofNat_Int, false_and, and_false, Bool.and_true, Bool.true_and, Bool.and_false, Bool.false_and, Bool.or_true, Bool.true_or, Bool.or_false, Bool.false_or, ↓vD_0, ↓vO_0, ↓rD_0, ↓rO_0, ↓kD_0, ↓kO_0, ↓vD_1, ↓vO_1, ↓rD_1, ↓rO_1, ↓kD_1, ↓kO_1, ↓vD_2, ↓vO_2, ↓rD_2, ↓rO_2, ↓kD_2, ↓kO_2, ↓vD_3, ↓vO_3, ↓rD_3, ↓rO_3, ↓kD_3, ↓kO_3, ↓vD_4, ↓vO_4, ↓rD_4, ↓rO_4, ↓kD_4, ↓kO_4, ↓vD_5, ↓vO_5, ↓rD_5, ↓rO_5, ↓kD_5, ↓kO_5, ↓vD_6, ↓vO_6, ↓rD_6, ↓rO_6, ↓kD_6, ↓kO_6, ↓vD_7, ↓vO_7, ↓rD_7, ↓rO_7, ↓kD_7, ↓kO_7, ↓vD_8, ↓vO_8, ↓rD_8, ↓rO_8, ↓kD_8, ↓kO_8, ↓vD_9, ↓vO_9, ↓rD_9, ↓rO_9, ↓kD_9, ↓kO_9, ↓vD_10, ↓vO_10, ↓rD_10, ↓rO_10, ↓kD_10, ↓kO_10, ↓vD_11, ↓vO_11, ↓rD_11, ↓rO_11, ↓kD_11, ↓kO_11, ↓vD_12, ↓vO_12, ↓rD_12, ↓rO_12, ↓kD_12, ↓kO_12, ↓vD_13, ↓vO_13, ↓rD_13, ↓rO_13, ↓kD_13, ↓kO_13, ↓vD_14, ↓vO_14, ↓rD_14, ↓rO_14, ↓kD_14, ↓kO_14, ↓vD_15, ↓vO_15, ↓rD_15, ↓rO_15, ↓kD_15, ↓kO_15, ↓den__law_mark, ↓b__law_mark, ↓hg, ↓e1, ↓h0, ↓h1]
    · by_cases h2 : t = "next"
      · simp (disch := first | omega | rfl) only [↓ok_d1, ↓ok_d2, ↓ok_d3, ↓ok_d4, ↓ok_d5, ↓ok_d6, ↓ok_d7, ↓ok_bind, ↓ok_ret, ↓ok_bad, ↓ok_mV, ↓ok_rdD, ↓ok_rdT, ↓ok_dtD, ↓ok_dtT, ↓ok_rds0, ↓ok_rdsC, ↓ok_dts0, ↓ok_dtsC, ↓ok_nil, ↓ok_cons, ↓ok_bin, ↓ok_cb, ↓ok_tup, ↓ok_lst, ↓ok_tru, ↓ok_truB, ↓ok_truI, ↓ok_truN, ↓ok_truL, ↓ok_truT, ↓ok_and, ↓ok_or, ↓ok_not, ↓ok_ifE, ↓ok_andV, ↓ok_orV, ↓ok_notV, ↓ok_neg, ↓ok_chain, ↓ok_seq, ↓ok_skip, ↓ok_retS, ↓ok_retN, ↓ok_bk, ↓ok_ct, ↓ok_ex1, ↓ok_if, ↓ok_set, ↓ok_setP, ↓ok_asg, ↓ok_gN, ↓ok_gsN, ↓ok_gsC, ↓ok_gT, ↓ok_gSb, ↓ok_par, ↓ok_put, ↓ok_get, ↓ok_run, ↓ok_call, ↓ok_callK, ↓ok_make, ↓ok_prop, ↓ok_for, ↓ok_items, ↓ok_rng1, ↓ok_rng2, ↓ok_comp, ↓ok_yes, ↓ok_compS0, ↓ok_compSC, wipeE, ↓ok_sl, ↓ok_noP, ↓ok_pt, ↓ok_slL, ↓ok_slT, ↓ok_rep, ↓ok_app, ↓ok_oSub, ↓ok_oMul, ↓ok_oDiv, ↓ok_oMod, ↓ok_oPow, ↓ok_oLt, ↓ok_oLe, ↓ok_oGt, ↓ok_oGe, ↓ok_oAdd, ↓ok_oAddL, ↓ok_oAddI, ↓ok_oEqI, ↓ok_oEqL, ↓ok_oEqT, ↓ok_oEqB, ↓ok_oEqN, ↓ok_oEqS, ↓ok_oNeI, ↓ok_oNeL, ↓ok_oNeT, ↓ok_oNeB, ↓ok_oNeN, ↓ok_oNeS, ↓ok_oIs, ↓ok_oIsN, ↓ix_0, ↓ix_1, ↓ix_2, ↓ix_3, ↓ix_4, ↓it_0, ↓it_1, ↓it_2, ↓it_3, ixn_0, ixn_1, ixn_2, ↓ok_len, ↓ok_lenT, ↓ok_absI, ↓ok_intI, ↓ok_max2, ↓ok_min2, ↓ok_max3, ↓ok_min3, ↓ok_dm, ↓ok_repr, argsE, backE, outE, Pu.M.dt, List.getElem?_cons_zero, List.getElem?_cons_succ, List.set_cons_zero, List.set_cons_succ, List.take_succ_cons, List.take_zero, List.replicate_zero, List.replicate_succ, List.append_nil, List.nil_append, List.cons_append, List.length_cons, List.length_nil, Nat.sub_self, Nat.reduceSub, Nat.reduceAdd, Nat.reduceLeDiff, decide_true, decide_false, reduceCtorEq, noBor, setsE, slotOf, setsS, putFs, putVs, lookV, sel, isNon, Bool.not_true, Bool.not_false, Bool.not_eq_true, decide_eq_true_eq, decide_eq_false_iff_not, Bool.true_eq_false, Bool.false_eq_true, false_implies, true_implies, and_true, true_and, not_true_eq_false, not_false_eq_true, and_self, implies_true, or_false, false_or, List.flatten_cons, List.flatten_nil, true_or, or_true, Int.sub_zero, eq_self, veq_int, veq_str, cMod, cDiv, cPow, cMul_r, cMul_l, strq, String.reduceEq, sz, szl, dOk_int, dOk_bl, dOk_non, if_true, if_false, Int.reducePow, Int.reduceToNat, Int.reduceMul, Int.reduceAdd, Int.reduceSub, Int.reduceNeg, Int.reduceLT, Int.reduceLE, Int.reduceGT, Int.reduceEq, gt_iff_lt, ge_iff_le, Nat.reducePow, Nat.reduceMul, Nat.reduceLT, Int.cast_ofNat_Int, false_and, and_false, Bool.and_true, Bool.true_and, Bool.and_false, Bool.false_and, Bool.or_true, Bool.true_or, Bool.or_false, Bool.false_or, ↓vD_0, ↓vO_0, ↓rD_0, ↓rO_0, ↓kD_0, ↓kO_0, ↓vD_1, ↓vO_1, ↓rD_1, ↓rO_1, ↓kD_1, ↓kO_1, ↓vD_2, ↓vO_2, ↓rD_2, ↓rO_2, ↓kD_2, ↓kO_2, ↓vD_3, ↓vO_3, ↓rD_3, ↓rO_3, ↓kD_3, ↓kO_3, ↓vD_4, ↓vO_4, ↓rD_4, ↓rO_4, ↓kD_4, ↓kO_4, ↓vD_5, ↓vO_5, ↓rD_5, ↓rO_5, ↓kD_5, ↓kO_5, ↓vD_6, ↓vO_6, ↓rD_6, ↓rO_6, ↓kD_6, ↓kO_6, ↓vD_7, ↓vO_7, ↓rD_7, ↓rO_7, ↓kD_7, ↓kO_7, ↓vD_8, ↓vO_8, ↓rD_8, ↓rO_8, ↓kD_8, ↓kO_8, ↓vD_9, ↓vO_9, ↓rD_9, ↓rO_9, ↓kD_9, ↓kO_9, ↓vD_10, ↓vO_10, ↓rD_10, ↓rO_10, ↓kD_10, ↓kO_10, ↓vD_11, ↓vO_11, ↓rD_11, ↓rO_11, ↓kD_11, ↓kO_11, ↓vD_12, ↓vO_12, ↓rD_12, ↓rO_12, ↓kD_12, ↓kO_12, ↓vD_13, ↓vO_13, ↓rD_13, ↓rO_13, ↓kD_13, ↓kO_13, ↓vD_14, ↓vO_14, ↓rD_14, ↓rO_14, ↓kD_14, ↓kO_14, ↓vD_15, ↓vO_15, ↓rD_15, ↓rO_15, ↓kD_15, ↓kO_15, ↓den__law_mark, ↓b__law_mark, ↓hg, ↓e1, ↓h0, ↓h1, ↓h2]
      · by_cases h3 : g ≤ 2 * (a % g)
        · simp (disch := first | omega | rfl) only [↓ok_d1, ↓ok_d2, ↓ok_d3, ↓ok_d4, ↓ok_d5, ↓ok_d6, ↓ok_d7, ↓ok_bind, ↓ok_ret, ↓ok_bad, ↓ok_mV, ↓ok_rdD, ↓ok_rdT, ↓ok_dtD, ↓ok_dtT, ↓ok_rds0, ↓ok_rdsC, ↓ok_dts0, ↓ok_dtsC, ↓ok_nil, ↓ok_cons, ↓ok_bin, ↓ok_cb, ↓ok_tup, ↓ok_lst, ↓ok_tru, ↓ok_truB, ↓ok_truI, ↓ok_truN, ↓ok_truL, ↓ok_truT, ↓ok_and, ↓ok_or, ↓ok_not, ↓ok_ifE, ↓ok_andV, ↓ok_orV, ↓ok_notV, ↓ok_neg, ↓ok_chain, ↓ok_seq, ↓ok_skip, ↓ok_retS, ↓ok_retN, ↓ok_bk, ↓ok_ct, ↓ok_ex1, ↓ok_if, ↓ok_set, ↓ok_setP, ↓ok_asg, ↓ok_gN, ↓ok_gsN, ↓ok_gsC, ↓ok_gT, ↓ok_gSb, ↓ok_par, ↓ok_put, ↓ok_get, ↓ok_run, ↓ok_call, ↓ok_callK, ↓ok_make, ↓ok_prop, ↓ok_for, ↓ok_items, ↓ok_rng1, ↓ok_rng2, ↓ok_comp, ↓ok_yes, ↓ok_compS0, ↓ok_compSC, wipeE, ↓ok_sl, ↓ok_noP, ↓ok_pt, ↓ok_slL, ↓ok_slT, ↓ok_rep, ↓ok_app, ↓ok_oSub, ↓ok_oMul, ↓ok_oDiv, ↓ok_oMod, ↓ok_oPow, ↓ok_oLt, ↓ok_oLe, ↓ok_oGt, ↓ok_oGe, ↓ok_oAdd, ↓ok_oAddL, ↓ok_oAddI, ↓ok_oEqI, ↓ok_oEqL, ↓ok_oEqT, ↓ok_oEqB, ↓ok_oEqN, ↓ok_oEqS, ↓ok_oNeI, ↓ok_oNeL, ↓ok_oNeT, ↓ok_oNeB, ↓ok_oNeN, ↓ok_oNeS, ↓ok_oIs, ↓ok_oIsN, ↓ix_0, ↓ix_1, ↓ix_2, ↓ix_3, ↓ix_4, ↓it_0, ↓it_1, ↓it_2, ↓it_3, ixn_0, ixn_1, ixn_2, ↓ok_len, ↓ok_lenT, ↓ok_absI, ↓ok_intI, ↓ok_max2, ↓ok_min2, ↓ok_max3, ↓ok_min3, ↓ok_dm, ↓ok_repr, argsE, backE, outE, Pu.M.dt, List.getElem?_cons_zero, List.getElem?_cons_succ, List.set_cons_zero, List.set_cons_succ, List.take_succ_cons, List.take_zero, List.replicate_zero, List.replicate_succ, List.append_nil, List.nil_append, List.cons_append, List.length_cons, List.length_nil, Nat.sub_self, Nat.reduceSub, Nat.reduceAdd, Nat.reduceLeDiff, decide_true, decide_false, reduceCtorEq, noBor, setsE, slotOf, setsS, putFs, putVs, lookV, sel, isNon, Bool.not_true, Bool.not_false, Bool.not_eq_true, decide_eq_true_eq, decide_eq_false_iff_not, Bool.true_eq_false, Bool.false_eq_true, false_implies, true_implies, and_true, true_and, not_true_eq_false, not_false_eq_true, and_self, implies_true, or_false, false_or, List.flatten_cons, List.flatten_nil, true_or, or_true, Int.sub_zero, eq_self, veq_int, veq_str, cMod, cDiv, cPow, cMul_r, cMul_l, strq, String.reduceEq, sz, szl, dOk_int, dOk_bl, dOk_non, if_true, if_false, Int.reducePow, Int.reduceToNat, Int.reduceMul, Int.reduceAdd, Int.reduceSub, Int.reduceNeg, Int.reduceLT, Int.reduceLE, Int.reduceGT, Int.reduceEq, gt_iff_lt, ge_iff_le, Nat.reducePow, Nat.reduceMul, Nat.reduceLT, Int.cast_ofNat_Int, false_and, and_false, Bool.and_true, Bool.true_and, Bool.and_false, Bool.false_and, Bool.or_true, Bool.true_or, Bool.or_false, Bool.false_or, ↓vD_0, ↓vO_0, ↓rD_0, ↓rO_0, ↓kD_0, ↓kO_0, ↓vD_1, ↓vO_1, ↓rD_1, ↓rO_1, ↓kD_1, ↓kO_1, ↓vD_2, ↓vO_2, ↓rD_2, ↓rO_2, ↓kD_2, ↓kO_2, ↓vD_3, ↓vO_3, ↓rD_3, ↓rO_3, ↓kD_3, ↓kO_3, ↓vD_4, ↓vO_4, ↓rD_4, ↓rO_4, ↓kD_4, ↓kO_4, ↓vD_5, ↓vO_5, ↓rD_5, ↓rO_5, ↓kD_5, ↓kO_5, ↓vD_6, ↓vO_6, ↓rD_6, ↓rO_6, ↓kD_6, ↓kO_6, ↓vD_7, ↓vO_7, ↓rD_7, ↓rO_7, ↓kD_7, ↓kO_7, ↓vD_8, ↓vO_8, ↓rD_8, ↓rO_8, ↓kD_8, ↓kO_8, ↓vD_9, ↓vO_9, ↓rD_9, ↓rO_9, ↓kD_9, ↓kO_9, ↓vD_10, ↓vO_10, ↓rD_10, ↓rO_10, ↓kD_10, ↓kO_10, ↓vD_11, ↓vO_11, ↓rD_11, ↓rO_11, ↓kD_11, ↓kO_11, ↓vD_12, ↓vO_12, ↓rD_12, ↓rO_12, ↓kD_12, ↓kO_12, ↓vD_13, ↓vO_13, ↓rD_13, ↓rO_13, ↓kD_13, ↓kO_13, ↓vD_14, ↓vO_14, ↓rD_14, ↓rO_14, ↓kD_14, ↓kO_14, ↓vD_15, ↓vO_15, ↓rD_15, ↓rO_15, ↓kD_15, ↓kO_15, ↓den__law_mark, ↓b__law_mark, ↓hg, ↓e1, ↓e2, ↓h0, ↓h1, ↓h2, ↓h3]
        · simp (disch := first | omega | rfl) only [↓ok_d1, ↓ok_d2, ↓ok_d3, ↓ok_d4, ↓ok_d5, ↓ok_d6, ↓ok_d7, ↓ok_bind, ↓ok_ret, ↓ok_bad, ↓ok_mV, ↓ok_rdD, ↓ok_rdT, ↓ok_dtD, ↓ok_dtT, ↓ok_rds0, ↓ok_rdsC, ↓ok_dts0, ↓ok_dtsC, ↓ok_nil, ↓ok_cons, ↓ok_bin, ↓ok_cb, ↓ok_tup, ↓ok_lst, ↓ok_tru, ↓ok_truB, ↓ok_truI, ↓ok_truN, ↓ok_truL, ↓ok_truT, ↓ok_and, ↓ok_or, ↓ok_not, ↓ok_ifE, ↓ok_andV, ↓ok_orV, ↓ok_notV, ↓ok_neg, ↓ok_chain, ↓ok_seq, ↓ok_skip, ↓ok_retS, ↓ok_retN, ↓ok_bk, ↓ok_ct, ↓ok_ex1, ↓ok_if, ↓ok_set, ↓ok_setP, ↓ok_asg, ↓ok_gN, ↓ok_gsN, ↓ok_gsC, ↓ok_gT, ↓ok_gSb, ↓ok_par, ↓ok_put, ↓ok_get, ↓ok_run, ↓ok_call, ↓ok_callK, ↓ok_make, ↓ok_prop, ↓ok_for, ↓ok_items, ↓ok_rng1, ↓ok_rng2, ↓ok_comp, ↓ok_yes, ↓ok_compS0, ↓ok_compSC, wipeE, ↓ok_sl, ↓ok_noP, ↓ok_pt, ↓ok_slL, ↓ok_slT, ↓ok_rep, ↓ok_app, ↓ok_oSub, ↓ok_oMul, ↓ok_oDiv, ↓ok_oMod, ↓ok_oPow, ↓ok_oLt, ↓ok_oLe, ↓ok_oGt, ↓ok_oGe, ↓ok_oAdd, ↓ok_oAddL, ↓ok_oAddI, ↓ok_oEqI, ↓ok_oEqL, ↓ok_oEqT, ↓ok_oEqB, ↓ok_oEqN, ↓ok_oEqS, ↓ok_oNeI, ↓ok_oNeL, ↓ok_oNeT, ↓ok_oNeB, ↓ok_oNeN, ↓ok_oNeS, ↓ok_oIs, ↓ok_oIsN, ↓ix_0, ↓ix_1, ↓ix_2, ↓ix_3, ↓ix_4, ↓it_0, ↓it_1, ↓it_2, ↓it_3, ixn_0, ixn_1, ixn_2, ↓ok_len, ↓ok_lenT, ↓ok_absI, ↓ok_intI, ↓ok_max2, ↓ok_min2, ↓ok_max3, ↓ok_min3, ↓ok_dm, ↓ok_repr, argsE, backE, outE, Pu.M.dt, List.getElem?_cons_zero, List.getElem?_cons_succ, List.set_cons_zero, List.set_cons_succ, List.take_succ_cons, List.take_zero, List.replicate_zero, List.replicate_succ, List.append_nil, List.nil_append, List.cons_append, List.length_cons, List.length_nil, Nat.sub_self, Nat.reduceSub, Nat.reduceAdd, Nat.reduceLeDiff, decide_true, decide_false, reduceCtorEq, noBor, setsE, slotOf, setsS, putFs, putVs, lookV, sel, isNon, Bool.not_true, Bool.not_false, Bool.not_eq_true, decide_eq_true_eq, decide_eq_false_iff_not, Bool.true_eq_false, Bool.false_eq_true, false_implies, true_implies, and_true, true_and, not_true_eq_false, not_false_eq_true, and_self, implies_true, or_false, false_or, List.flatten_cons, List.flatten_nil, true_or, or_true, Int.sub_zero, eq_self, veq_int, veq_str, cMod, cDiv, cPow, cMul_r, cMul_l, strq, String.reduceEq, sz, szl, dOk_int, dOk_bl, dOk_non, if_true, if_false, Int.reducePow, Int.reduceToNat, Int.reduceMul, Int.reduceAdd, Int.reduceSub, Int.reduceNeg, Int.reduceLT, Int.reduceLE, Int.reduceGT, Int.reduceEq, gt_iff_lt, ge_iff_le, Nat.reducePow, Nat.reduceMul, Nat.reduceLT, Int.cast_ofNat_Int, false_and, and_false, Bool.and_true, Bool.true_and, Bool.and_false, Bool.false_and, Bool.or_true, Bool.true_or, Bool.or_false, Bool.false_or, ↓vD_0, ↓vO_0, ↓rD_0, ↓rO_0, ↓kD_0, ↓kO_0, ↓vD_1, ↓vO_1, ↓rD_1, ↓rO_1, ↓kD_1, ↓kO_1, ↓vD_2, ↓vO_2, ↓rD_2, ↓rO_2, ↓kD_2, ↓kO_2, ↓vD_3, ↓vO_3, ↓rD_3, ↓rO_3, ↓kD_3, ↓kO_3, ↓vD_4, ↓vO_4, ↓rD_4, ↓rO_4, ↓kD_4, ↓kO_4, ↓vD_5, ↓vO_5, ↓rD_5, ↓rO_5, ↓kD_5, ↓kO_5, ↓vD_6, ↓vO_6, ↓rD_6, ↓rO_6, ↓kD_6, ↓kO_6, ↓vD_7, ↓vO_7, ↓rD_7, ↓rO_7, ↓kD_7, ↓kO_7, ↓vD_8, ↓vO_8, ↓rD_8, ↓rO_8, ↓kD_8, ↓kO_8, ↓vD_9, ↓vO_9, ↓rD_9, ↓rO_9, ↓kD_9, ↓kO_9, ↓vD_10, ↓vO_10, ↓rD_10, ↓rO_10, ↓kD_10, ↓kO_10, ↓vD_11, ↓vO_11, ↓rD_11, ↓rO_11, ↓kD_11, ↓kO_11, ↓vD_12, ↓vO_12, ↓rD_12, ↓rO_12, ↓kD_12, ↓kO_12, ↓vD_13, ↓vO_13, ↓rD_13, ↓rO_13, ↓kD_13, ↓kO_13, ↓vD_14, ↓vO_14, ↓rD_14, ↓rO_14, ↓kD_14, ↓kO_14, ↓vD_15, ↓vO_15, ↓rD_15, ↓rO_15, ↓kD_15, ↓kO_15, ↓den__law_mark, ↓b__law_mark, ↓hg, ↓e1, ↓e2, ↓h0, ↓h1, ↓h2, ↓h3]
end
theorem ceil_iff {y k g : Int} (hg : 0 < g) (hk : k % g = 0) : y + (-y) % g = k ↔ k - g < y ∧ y ≤ k := by
  have h0 := Int.emod_nonneg (-y) (show g ≠ 0 by omega)
  have h1 := Int.emod_lt_of_pos (-y) hg
  have h2 : (y + (-y) % g) % g = 0 := by
    rw [Int.add_emod, Int.emod_emod_of_dvd _ (Int.dvd_refl g), ← Int.add_emod, Int.add_right_neg, Int.zero_emod]
  constructor
  · intro h; omega
  · rintro ⟨h3, h4⟩
    obtain ⟨c, hc⟩ := Int.dvd_of_emod_eq_zero h2
    obtain ⟨d, hd⟩ := Int.dvd_of_emod_eq_zero hk
    have e1 : y + (-y) % g - k = g * (c - d) := by rw [Int.mul_sub, ← hc, ← hd]
    have b1 : y + (-y) % g - k < g := by omega
    have b2 : -g < y + (-y) % g - k := by omega
    have e2 : c - d = 0 := by
      rcases Int.lt_trichotomy (c - d) 0 with q | q | q
      · have : g * (c - d) ≤ g * (-1) := Int.mul_le_mul_of_nonneg_left (by omega) (by omega)
        omega
      · exact q
      · have : g * 1 ≤ g * (c - d) := Int.mul_le_mul_of_nonneg_left (by omega) (by omega)
        omega
    rw [e2] at e1
    omega
theorem high_low {t : Str} {g : Int} (ht : inMenu t) : high t g = low t g + g - 1 := by
  unfold high low
  rcases ht with rfl | rfl | rfl
  · simp (disch := first | omega | rfl) only [↓ok_d1, ↓ok_d2, ↓ok_d3, ↓ok_d4, ↓ok_d5, ↓ok_d6, ↓ok_d7, ↓ok_bind, ↓ok_ret, ↓ok_bad, ↓ok_mV, ↓ok_rdD, ↓ok_rdT, ↓ok_dtD, ↓ok_dtT, ↓ok_rds0, ↓ok_rdsC, ↓ok_dts0, ↓ok_dtsC, ↓ok_nil, ↓ok_cons, ↓ok_bin, ↓ok_cb, ↓ok_tup, ↓ok_lst, ↓ok_tru, ↓ok_truB, ↓ok_truI, ↓ok_truN, ↓ok_truL, ↓ok_truT, ↓ok_and, ↓ok_or, ↓ok_not, ↓ok_ifE, ↓ok_andV, ↓ok_orV, ↓ok_notV, ↓ok_neg, ↓ok_chain, ↓ok_seq, ↓ok_skip, ↓ok_retS, ↓ok_retN, ↓ok_bk, ↓ok_ct, ↓ok_ex1, ↓ok_if, ↓ok_set, ↓ok_setP, ↓ok_asg, ↓ok_gN, ↓ok_gsN, ↓ok_gsC, ↓ok_gT, ↓ok_gSb, ↓ok_par, ↓ok_put, ↓ok_get, ↓ok_run, ↓ok_call, ↓ok_callK, ↓ok_make, ↓ok_prop, ↓ok_for, ↓ok_items, ↓ok_rng1, ↓ok_rng2, ↓ok_comp, ↓ok_yes, ↓ok_compS0, ↓ok_compSC, wipeE, ↓ok_sl, ↓ok_noP, ↓ok_pt, ↓ok_slL, ↓ok_slT, ↓ok_rep, ↓ok_app, ↓ok_oSub, ↓ok_oMul, ↓ok_oDiv, ↓ok_oMod, ↓ok_oPow, ↓ok_oLt, ↓ok_oLe, ↓ok_oGt, ↓ok_oGe, ↓ok_oAdd, ↓ok_oAddL, ↓ok_oAddI, ↓ok_oEqI, ↓ok_oEqL, ↓ok_oEqT, ↓ok_oEqB, ↓ok_oEqN, ↓ok_oEqS, ↓ok_oNeI, ↓ok_oNeL, ↓ok_oNeT, ↓ok_oNeB, ↓ok_oNeN, ↓ok_oNeS, ↓ok_oIs, ↓ok_oIsN, ↓ix_0, ↓ix_1, ↓ix_2, ↓ix_3, ↓ix_4, ↓it_0, ↓it_1, ↓it_2, ↓it_3, ixn_0, ixn_1, ixn_2, ↓ok_len, ↓ok_lenT, ↓ok_absI, ↓ok_intI, ↓ok_max2, ↓ok_min2, ↓ok_max3, ↓ok_min3, ↓ok_dm, ↓ok_repr, argsE, backE, outE, Pu.M.dt, List.getElem?_cons_zero, List.getElem?_cons_succ, List.set_cons_zero, List.set_cons_succ, List.take_succ_cons, List.take_zero, List.replicate_zero, List.replicate_succ, List.append_nil, List.nil_append, List.cons_append, List.length_cons, List.length_nil, Nat.sub_self, Nat.reduceSub, Nat.reduceAdd, Nat.reduceLeDiff, decide_true, decide_false, reduceCtorEq, noBor, setsE, slotOf, setsS, putFs, putVs, lookV, sel, isNon, Bool.not_true, Bool.not_false, Bool.not_eq_true, decide_eq_true_eq, decide_eq_false_iff_not, Bool.true_eq_false, Bool.false_eq_true, false_implies, true_implies, and_true, true_and, not_true_eq_false, not_false_eq_true, and_self, implies_true, or_false, false_or, List.flatten_cons, List.flatten_nil, true_or, or_true, Int.sub_zero, eq_self, veq_int, veq_str, cMod, cDiv, cPow, cMul_r, cMul_l, strq, String.reduceEq, sz, szl, dOk_int, dOk_bl, dOk_non, if_true, if_false, Int.reducePow, Int.reduceToNat, Int.reduceMul, Int.reduceAdd, Int.reduceSub, Int.reduceNeg, Int.reduceLT, Int.reduceLE, Int.reduceGT, Int.reduceEq, gt_iff_lt, ge_iff_le, Nat.reducePow, Nat.reduceMul, Nat.reduceLT, Int.cast_ofNat_Int, false_and, and_false, Bool.and_true, Bool.true_and, Bool.and_false, Bool.false_and, Bool.or_true, Bool.true_or, Bool.or_false, Bool.false_or, ↓vD_0, ↓vO_0, ↓rD_0, ↓rO_0, ↓kD_0, ↓kO_0, ↓vD_1, ↓vO_1, ↓rD_1, ↓rO_1, ↓kD_1, ↓kO_1, ↓vD_2, ↓vO_2, ↓rD_2, ↓rO_2, ↓kD_2, ↓kO_2, ↓vD_3, ↓vO_3, ↓rD_3, ↓rO_3, ↓kD_3, ↓kO_3, ↓vD_4, ↓vO_4, ↓rD_4, ↓rO_4, ↓kD_4, ↓kO_4, ↓vD_5, ↓vO_5, ↓rD_5, ↓rO_5, ↓kD_5, ↓kO_5, ↓vD_6, ↓vO_6, ↓rD_6, ↓rO_6, ↓kD_6, ↓kO_6, ↓vD_7, ↓vO_7, ↓rD_7, ↓rO_7, ↓kD_7, ↓kO_7, ↓vD_8, ↓vO_8, ↓rD_8, ↓rO_8, ↓kD_8, ↓kO_8, ↓vD_9, ↓vO_9, ↓rD_9, ↓rO_9, ↓kD_9, ↓kO_9, ↓vD_10, ↓vO_10, ↓rD_10, ↓rO_10, ↓kD_10, ↓kO_10, ↓vD_11, ↓vO_11, ↓rD_11, ↓rO_11, ↓kD_11, ↓kO_11, ↓vD_12, ↓vO_12, ↓rD_12, ↓rO_12, ↓kD_12, ↓kO_12, ↓vD_13, ↓vO_13, ↓rD_13, ↓rO_13, ↓kD_13, ↓kO_13, ↓vD_14, ↓vO_14, ↓rD_14, ↓rO_14, ↓kD_14, ↓kO_14, ↓vD_15, ↓vO_15, ↓rD_15, ↓rO_15, ↓kD_15, ↓kO_15]
    omega
  · simp (disch := first | omega | rfl) only [↓ok_d1, ↓ok_d2, ↓ok_d3, ↓ok_d4, ↓ok_d5, ↓ok_d6, ↓ok_d7, ↓ok_bind, ↓ok_ret, ↓ok_bad, ↓ok_mV, ↓ok_rdD, ↓ok_rdT, ↓ok_dtD, ↓ok_dtT, ↓ok_rds0, ↓ok_rdsC, ↓ok_dts0, ↓ok_dtsC, ↓ok_nil, ↓ok_cons, ↓ok_bin, ↓ok_cb, ↓ok_tup, ↓ok_lst, ↓ok_tru, ↓ok_truB, ↓ok_truI, ↓ok_truN, ↓ok_truL, ↓ok_truT, ↓ok_and, ↓ok_or, ↓ok_not, ↓ok_ifE, ↓ok_andV, ↓ok_orV, ↓ok_notV, ↓ok_neg, ↓ok_chain, ↓ok_seq, ↓ok_skip, ↓ok_retS, ↓ok_retN, ↓ok_bk, ↓ok_ct, ↓ok_ex1, ↓ok_if, ↓ok_set, ↓ok_setP, ↓ok_asg, ↓ok_gN, ↓ok_gsN, ↓ok_gsC, ↓ok_gT, ↓ok_gSb, ↓ok_par, ↓ok_put, ↓ok_get, ↓ok_run, ↓ok_call, ↓ok_callK, ↓ok_make, ↓ok_prop, ↓ok_for, ↓ok_items, ↓ok_rng1, ↓ok_rng2, ↓ok_comp, ↓ok_yes, ↓ok_compS0, ↓ok_compSC, wipeE, ↓ok_sl, ↓ok_noP, ↓ok_pt, ↓ok_slL, ↓ok_slT, ↓ok_rep, ↓ok_app, ↓ok_oSub, ↓ok_oMul, ↓ok_oDiv, ↓ok_oMod, ↓ok_oPow, ↓ok_oLt, ↓ok_oLe, ↓ok_oGt, ↓ok_oGe, ↓ok_oAdd, ↓ok_oAddL, ↓ok_oAddI, ↓ok_oEqI, ↓ok_oEqL, ↓ok_oEqT, ↓ok_oEqB, ↓ok_oEqN, ↓ok_oEqS, ↓ok_oNeI, ↓ok_oNeL, ↓ok_oNeT, ↓ok_oNeB, ↓ok_oNeN, ↓ok_oNeS, ↓ok_oIs, ↓ok_oIsN, ↓ix_0, ↓ix_1, ↓ix_2, ↓ix_3, ↓ix_4, ↓it_0, ↓it_1, ↓it_2, ↓it_3, ixn_0, ixn_1, ixn_2, ↓ok_len, ↓ok_lenT, ↓ok_absI, ↓ok_intI, ↓ok_max2, ↓ok_min2, ↓ok_max3, ↓ok_min3, ↓ok_dm, ↓ok_repr, argsE, backE, outE, Pu.M.dt, List.getElem?_cons_zero, List.getElem?_cons_succ, List.set_cons_zero, List.set_cons_succ, List.take_succ_cons, List.take_zero, List.replicate_zero, List.replicate_succ, List.append_nil, List.nil_append, List.cons_append, List.length_cons, List.length_nil, Nat.sub_self, Nat.reduceSub, Nat.reduceAdd, Nat.reduceLeDiff, decide_true, decide_false, reduceCtorEq, noBor, setsE, slotOf, setsS, putFs, putVs, lookV, sel, isNon, Bool.not_true, Bool.not_false, Bool.not_eq_true, decide_eq_true_eq, decide_eq_false_iff_not, Bool.true_eq_false, Bool.false_eq_true, false_implies, true_implies, and_true, true_and, not_true_eq_false, not_false_eq_true, and_self, implies_true, or_false, false_or, List.flatten_cons, List.flatten_nil, true_or, or_true, Int.sub_zero, eq_self, veq_int, veq_str, cMod, cDiv, cPow, cMul_r, cMul_l, strq, String.reduceEq, sz, szl, dOk_int, dOk_bl, dOk_non, if_true, if_false, Int.reducePow, Int.reduceToNat, Int.reduceMul, Int.reduceAdd, Int.reduceSub, Int.reduceNeg, Int.reduceLT, Int.reduceLE, Int.reduceGT, Int.reduceEq, gt_iff_lt, ge_iff_le, Nat.reducePow, Nat.reduceMul, Nat.reduceLT, Int.cast_ofNat_Int, false_and, and_false, Bool.and_true, Bool.true_and, Bool.and_false, Bool.false_and, Bool.or_true, Bool.true_or, Bool.or_false, Bool.false_or, ↓vD_0, ↓vO_0, ↓rD_0, ↓rO_0, ↓kD_0, ↓kO_0, ↓vD_1, ↓vO_1, ↓rD_1, ↓rO_1, ↓kD_1, ↓kO_1, ↓vD_2, ↓vO_2, ↓rD_2, ↓rO_2, ↓kD_2, ↓kO_2, ↓vD_3, ↓vO_3, ↓rD_3, ↓rO_3, ↓kD_3, ↓kO_3, ↓vD_4, ↓vO_4, ↓rD_4, ↓rO_4, ↓kD_4, ↓kO_4, ↓vD_5, ↓vO_5, ↓rD_5, ↓rO_5, ↓kD_5, ↓kO_5, ↓vD_6, ↓vO_6, ↓rD_6, ↓rO_6, ↓kD_6, ↓kO_6, ↓vD_7, ↓vO_7, ↓rD_7, ↓rO_7, ↓kD_7, ↓kO_7, ↓vD_8, ↓vO_8, ↓rD_8, ↓rO_8, ↓kD_8, ↓kO_8, ↓vD_9, ↓vO_9, ↓rD_9, ↓rO_9, ↓kD_9, ↓kO_9, ↓vD_10, ↓vO_10, ↓rD_10, ↓rO_10, ↓kD_10, ↓kO_10, ↓vD_11, ↓vO_11, ↓rD_11, ↓rO_11, ↓kD_11, ↓kO_11, ↓vD_12, ↓vO_12, ↓rD_12, ↓rO_12, ↓kD_12, ↓kO_12, ↓vD_13, ↓vO_13, ↓rD_13, ↓rO_13, ↓kD_13, ↓kO_13, ↓vD_14, ↓vO_14, ↓rD_14, ↓rO_14, ↓kD_14, ↓kO_14, ↓vD_15, ↓vO_15, ↓rD_15, ↓rO_15, ↓kD_15, ↓kO_15]
    omega
  · simp (disch := first | omega | rfl) only [↓ok_d1, ↓ok_d2, ↓ok_d3, ↓ok_d4, ↓ok_d5, ↓ok_d6, ↓ok_d7, ↓ok_bind, ↓ok_ret, ↓ok_bad, ↓ok_mV, ↓ok_rdD, ↓ok_rdT, ↓ok_dtD, ↓ok_dtT, ↓ok_rds0, ↓ok_rdsC, ↓ok_dts0, ↓ok_dtsC, ↓ok_nil, ↓ok_cons, ↓ok_bin, ↓ok_cb, ↓ok_tup, ↓ok_lst, ↓ok_tru, ↓ok_truB, ↓ok_truI, ↓ok_truN, ↓ok_truL, ↓ok_truT, ↓ok_and, ↓ok_or, ↓ok_not, ↓ok_ifE, ↓ok_andV, ↓ok_orV, ↓ok_notV, ↓ok_neg, ↓ok_chain, ↓ok_seq, ↓ok_skip, ↓ok_retS, ↓ok_retN, ↓ok_bk, ↓ok_ct, ↓ok_ex1, ↓ok_if, ↓ok_set, ↓ok_setP, ↓ok_asg, ↓ok_gN, ↓ok_gsN, ↓ok_gsC, ↓ok_gT, ↓ok_gSb, ↓ok_par, ↓ok_put, ↓ok_get, ↓ok_run, ↓ok_call, ↓ok_callK, ↓ok_make, ↓ok_prop, ↓ok_for, ↓ok_items, ↓ok_rng1, ↓ok_rng2, ↓ok_comp, ↓ok_yes, ↓ok_compS0, ↓ok_compSC, wipeE, ↓ok_sl, ↓ok_noP, ↓ok_pt, ↓ok_slL, ↓ok_slT, ↓ok_rep, ↓ok_app, ↓ok_oSub, ↓ok_oMul, ↓ok_oDiv, ↓ok_oMod, ↓ok_oPow, ↓ok_oLt, ↓ok_oLe, ↓ok_oGt, ↓ok_oGe, ↓ok_oAdd, ↓ok_oAddL, ↓ok_oAddI, ↓ok_oEqI, ↓ok_oEqL, ↓ok_oEqT, ↓ok_oEqB, ↓ok_oEqN, ↓ok_oEqS, ↓ok_oNeI, ↓ok_oNeL, ↓ok_oNeT, ↓ok_oNeB, ↓ok_oNeN, ↓ok_oNeS, ↓ok_oIs, ↓ok_oIsN, ↓ix_0, ↓ix_1, ↓ix_2, ↓ix_3, ↓ix_4, ↓it_0, ↓it_1, ↓it_2, ↓it_3, ixn_0, ixn_1, ixn_2, ↓ok_len, ↓ok_lenT, ↓ok_absI, ↓ok_intI, ↓ok_max2, ↓ok_min2, ↓ok_max3, ↓ok_min3, ↓ok_dm, ↓ok_repr, argsE, backE, outE, Pu.M.dt, List.getElem?_cons_zero, List.getElem?_cons_succ, List.set_cons_zero, List.set_cons_succ, List.take_succ_cons, List.take_zero, List.replicate_zero, List.replicate_succ, List.append_nil, List.nil_append, List.cons_append, List.length_cons, List.length_nil, Nat.sub_self, Nat.reduceSub, Nat.reduceAdd, Nat.reduceLeDiff, decide_true, decide_false, reduceCtorEq, noBor, setsE, slotOf, setsS, putFs, putVs, lookV, sel, isNon, Bool.not_true, Bool.not_false, Bool.not_eq_true, decide_eq_true_eq, decide_eq_false_iff_not, Bool.true_eq_false, Bool.false_eq_true, false_implies, true_implies, and_true, true_and, not_true_eq_false, not_false_eq_true, and_self, implies_true, or_false, false_or, List.flatten_cons, List.flatten_nil, true_or, or_true, Int.sub_zero, eq_self, veq_int, veq_str, cMod, cDiv, cPow, cMul_r, cMul_l, strq, String.reduceEq, sz, szl, dOk_int, dOk_bl, dOk_non, if_true, if_false, Int.reducePow, Int.reduceToNat, Int.reduceMul, Int.reduceAdd, Int.reduceSub, Int.reduceNeg, Int.reduceLT, Int.reduceLE, Int.reduceGT, Int.reduceEq, gt_iff_lt, ge_iff_le, Nat.reducePow, Nat.reduceMul, Nat.reduceLT, Int.cast_ofNat_Int, false_and, and_false, Bool.and_true, Bool.true_and, Bool.and_false, Bool.false_and, Bool.or_true, Bool.true_or, Bool.or_false, Bool.false_or, ↓vD_0, ↓vO_0, ↓rD_0, ↓rO_0, ↓kD_0, ↓kO_0, ↓vD_1, ↓vO_1, ↓rD_1, ↓rO_1, ↓kD_1, ↓kO_1, ↓vD_2, ↓vO_2, ↓rD_2, ↓rO_2, ↓kD_2, ↓kO_2, ↓vD_3, ↓vO_3, ↓rD_3, ↓rO_3, ↓kD_3, ↓kO_3, ↓vD_4, ↓vO_4, ↓rD_4, ↓rO_4, ↓kD_4, ↓kO_4, ↓vD_5, ↓vO_5, ↓rD_5, ↓rO_5, ↓kD_5, ↓kO_5, ↓vD_6, ↓vO_6, ↓rD_6, ↓rO_6, ↓kD_6, ↓kO_6, ↓vD_7, ↓vO_7, ↓rD_7, ↓rO_7, ↓kD_7, ↓kO_7, ↓vD_8, ↓vO_8, ↓rD_8, ↓rO_8, ↓kD_8, ↓kO_8, ↓vD_9, ↓vO_9, ↓rD_9, ↓rO_9, ↓kD_9, ↓kO_9, ↓vD_10, ↓vO_10, ↓rD_10, ↓rO_10, ↓kD_10, ↓kO_10, ↓vD_11, ↓vO_11, ↓rD_11, ↓rO_11, ↓kD_11, ↓kO_11, ↓vD_12, ↓vO_12, ↓rD_12, ↓rO_12, ↓kD_12, ↓kO_12, ↓vD_13, ↓vO_13, ↓rD_13, ↓rO_13, ↓kD_13, ↓kO_13, ↓vD_14, ↓vO_14, ↓rD_14, ↓rO_14, ↓kD_14, ↓kO_14, ↓vD_15, ↓vO_15, ↓rD_15, ↓rO_15, ↓kD_15, ↓kO_15]
    omega
theorem low_le {t : Str} {g : Int} (hg : 0 < g) (ht : inMenu t) : 1 - g ≤ low t g ∧ low t g ≤ 0 := by
  unfold low
  rcases ht with rfl | rfl | rfl
  · simp (disch := first | omega | rfl) only [↓ok_d1, ↓ok_d2, ↓ok_d3, ↓ok_d4, ↓ok_d5, ↓ok_d6, ↓ok_d7, ↓ok_bind, ↓ok_ret, ↓ok_bad, ↓ok_mV, ↓ok_rdD, ↓ok_rdT, ↓ok_dtD, ↓ok_dtT, ↓ok_rds0, ↓ok_rdsC, ↓ok_dts0, ↓ok_dtsC, ↓ok_nil, ↓ok_cons, ↓ok_bin, ↓ok_cb, ↓ok_tup, ↓ok_lst, ↓ok_tru, ↓ok_truB, ↓ok_truI, ↓ok_truN, ↓ok_truL, ↓ok_truT, ↓ok_and, ↓ok_or, ↓ok_not, ↓ok_ifE, ↓ok_andV, ↓ok_orV, ↓ok_notV, ↓ok_neg, ↓ok_chain, ↓ok_seq, ↓ok_skip, ↓ok_retS, ↓ok_retN, ↓ok_bk, ↓ok_ct, ↓ok_ex1, ↓ok_if, ↓ok_set, ↓ok_setP, ↓ok_asg, ↓ok_gN, ↓ok_gsN, ↓ok_gsC, ↓ok_gT, ↓ok_gSb, ↓ok_par, ↓ok_put, ↓ok_get, ↓ok_run, ↓ok_call, ↓ok_callK, ↓ok_make, ↓ok_prop, ↓ok_for, ↓ok_items, ↓ok_rng1, ↓ok_rng2, ↓ok_comp, ↓ok_yes, ↓ok_compS0, ↓ok_compSC, wipeE, ↓ok_sl, ↓ok_noP, ↓ok_pt, ↓ok_slL, ↓ok_slT, ↓ok_rep, ↓ok_app, ↓ok_oSub, ↓ok_oMul, ↓ok_oDiv, ↓ok_oMod, ↓ok_oPow, ↓ok_oLt, ↓ok_oLe, ↓ok_oGt, ↓ok_oGe, ↓ok_oAdd, ↓ok_oAddL, ↓ok_oAddI, ↓ok_oEqI, ↓ok_oEqL, ↓ok_oEqT, ↓ok_oEqB, ↓ok_oEqN, ↓ok_oEqS, ↓ok_oNeI, ↓ok_oNeL, ↓ok_oNeT, ↓ok_oNeB, ↓ok_oNeN, ↓ok_oNeS, ↓ok_oIs, ↓ok_oIsN, ↓ix_0, ↓ix_1, ↓ix_2, ↓ix_3, ↓ix_4, ↓it_0, ↓it_1, ↓it_2, ↓it_3, ixn_0, ixn_1, ixn_2, ↓ok_len, ↓ok_lenT, ↓ok_absI, ↓ok_intI, ↓ok_max2, ↓ok_min2, ↓ok_max3, ↓ok_min3, ↓ok_dm, ↓ok_repr, argsE, backE, outE, Pu.M.dt, List.getElem?_cons_zero, List.getElem?_cons_succ, List.set_cons_zero, List.set_cons_succ, List.take_succ_cons, List.take_zero, List.replicate_zero, List.replicate_succ, List.append_nil, List.nil_append, List.cons_append, List.length_cons, List.length_nil, Nat.sub_self, Nat.reduceSub, Nat.reduceAdd, Nat.reduceLeDiff, decide_true, decide_false, reduceCtorEq, noBor, setsE, slotOf, setsS, putFs, putVs, lookV, sel, isNon, Bool.not_true, Bool.not_false, Bool.not_eq_true, decide_eq_true_eq, decide_eq_false_iff_not, Bool.true_eq_false, Bool.false_eq_true, false_implies, true_implies, and_true, true_and, not_true_eq_false, not_false_eq_true, and_self, implies_true, or_false, false_or, List.flatten_cons, List.flatten_nil, true_or, or_true, Int.sub_zero, eq_self, veq_int, veq_str, cMod, cDiv, cPow, cMul_r, cMul_l, strq, String.reduceEq, sz, szl, dOk_int, dOk_bl, dOk_non, if_true, if_false, Int.reducePow, Int.reduceToNat, Int.reduceMul, Int.reduceAdd, Int.reduceSub, Int.reduceNeg, Int.reduceLT, Int.reduceLE, Int.reduceGT, Int.reduceEq, gt_iff_lt, ge_iff_le, Nat.reducePow, Nat.reduceMul, Nat.reduceLT, Int.cast_ofNat_Int, false_and, and_false, Bool.and_true, Bool.true_and, Bool.and_false, Bool.false_and, Bool.or_true, Bool.true_or, Bool.or_false, Bool.false_or, ↓vD_0, ↓vO_0, ↓rD_0, ↓rO_0, ↓kD_0, ↓kO_0, ↓vD_1, ↓vO_1, ↓rD_1, ↓rO_1, ↓kD_1, ↓kO_1, ↓vD_2, ↓vO_2, ↓rD_2, ↓rO_2, ↓kD_2, ↓kO_2, ↓vD_3, ↓vO_3, ↓rD_3, ↓rO_3, ↓kD_3, ↓kO_3, ↓vD_4, ↓vO_4, ↓rD_4, ↓rO_4, ↓kD_4, ↓kO_4, ↓vD_5, ↓vO_5, ↓rD_5, ↓rO_5, ↓kD_5, ↓kO_5, ↓vD_6, ↓vO_6, ↓rD_6, ↓rO_6, ↓kD_6, ↓kO_6, ↓vD_7, ↓vO_7, ↓rD_7, ↓rO_7, ↓kD_7, ↓kO_7, ↓vD_8, ↓vO_8, ↓rD_8, ↓rO_8, ↓kD_8, ↓kO_8, ↓vD_9, ↓vO_9, ↓rD_9, ↓rO_9, ↓kD_9, ↓kO_9, ↓vD_10, ↓vO_10, ↓rD_10, ↓rO_10, ↓kD_10, ↓kO_10, ↓vD_11, ↓vO_11, ↓rD_11, ↓rO_11, ↓kD_11, ↓kO_11, ↓vD_12, ↓vO_12, ↓rD_12, ↓rO_12, ↓kD_12, ↓kO_12, ↓vD_13, ↓vO_13, ↓rD_13, ↓rO_13, ↓kD_13, ↓kO_13, ↓vD_14, ↓vO_14, ↓rD_14, ↓rO_14, ↓kD_14, ↓kO_14, ↓vD_15, ↓vO_15, ↓rD_15, ↓rO_15, ↓kD_15, ↓kO_15]
    omega
  · simp (disch := first | omega | rfl) only [↓ok_d1, ↓ok_d2, ↓ok_d3, ↓ok_d4, ↓ok_d5, ↓ok_d6, ↓ok_d7, ↓ok_bind, ↓ok_ret, ↓ok_bad, ↓ok_mV, ↓ok_rdD, ↓ok_rdT, ↓ok_dtD, ↓ok_dtT, ↓ok_rds0, ↓ok_rdsC, ↓ok_dts0, ↓ok_dtsC, ↓ok_nil, ↓ok_cons, ↓ok_bin, ↓ok_cb, ↓ok_tup, ↓ok_lst, ↓ok_tru, ↓ok_truB, ↓ok_truI, ↓ok_truN, ↓ok_truL, ↓ok_truT, ↓ok_and, ↓ok_or, ↓ok_not, ↓ok_ifE, ↓ok_andV, ↓ok_orV, ↓ok_notV, ↓ok_neg, ↓ok_chain, ↓ok_seq, ↓ok_skip, ↓ok_retS, ↓ok_retN, ↓ok_bk, ↓ok_ct, ↓ok_ex1, ↓ok_if, ↓ok_set, ↓ok_setP, ↓ok_asg, ↓ok_gN, ↓ok_gsN, ↓ok_gsC, ↓ok_gT, ↓ok_gSb, ↓ok_par, ↓ok_put, ↓ok_get, ↓ok_run, ↓ok_call, ↓ok_callK, ↓ok_make, ↓ok_prop, ↓ok_for, ↓ok_items, ↓ok_rng1, ↓ok_rng2, ↓ok_comp, ↓ok_yes, ↓ok_compS0, ↓ok_compSC, wipeE, ↓ok_sl, ↓ok_noP, ↓ok_pt, ↓ok_slL, ↓ok_slT, ↓ok_rep, ↓ok_app, ↓ok_oSub, ↓ok_oMul, ↓ok_oDiv, ↓ok_oMod, ↓ok_oPow, ↓ok_oLt, ↓ok_oLe, ↓ok_oGt, ↓ok_oGe, ↓ok_oAdd, ↓ok_oAddL, ↓ok_oAddI, ↓ok_oEqI, ↓ok_oEqL, ↓ok_oEqT, ↓ok_oEqB, ↓ok_oEqN, ↓ok_oEqS, ↓ok_oNeI, ↓ok_oNeL, ↓ok_oNeT, ↓ok_oNeB, ↓ok_oNeN, ↓ok_oNeS, ↓ok_oIs, ↓ok_oIsN, ↓ix_0, ↓ix_1, ↓ix_2, ↓ix_3, ↓ix_4, ↓it_0, ↓it_1, ↓it_2, ↓it_3, ixn_0, ixn_1, ixn_2, ↓ok_len, ↓ok_lenT, ↓ok_absI, ↓ok_intI, ↓ok_max2, ↓ok_min2, ↓ok_max3, ↓ok_min3, ↓ok_dm, ↓ok_repr, argsE, backE, outE, Pu.M.dt, List.getElem?_cons_zero, List.getElem?_cons_succ, List.set_cons_zero, List.set_cons_succ, List.take_succ_cons, List.take_zero, List.replicate_zero, List.replicate_succ, List.append_nil, List.nil_append, List.cons_append, List.length_cons, List.length_nil, Nat.sub_self, Nat.reduceSub, Nat.reduceAdd, Nat.reduceLeDiff, decide_true, decide_false, reduceCtorEq, noBor, setsE, slotOf, setsS, putFs, putVs, lookV, sel, isNon, Bool.not_true, Bool.not_false, Bool.not_eq_true, decide_eq_true_eq, decide_eq_false_iff_not, Bool.true_eq_false, Bool.false_eq_true, false_implies, true_implies, and_true, true_and, not_true_eq_false, not_false_eq_true, and_self, implies_true, or_false, false_or, List.flatten_cons, List.flatten_nil, true_or, or_true, Int.sub_zero, eq_self, veq_int, veq_str, cMod, cDiv, cPow, cMul_r, cMul_l, strq, String.reduceEq, sz, szl, dOk_int, dOk_bl, dOk_non, if_true, if_false, Int.reducePow, Int.reduceToNat, Int.reduceMul, Int.reduceAdd, Int.reduceSub, Int.reduceNeg, Int.reduceLT, Int.reduceLE, Int.reduceGT, Int.reduceEq, gt_iff_lt, ge_iff_le, Nat.reducePow, Nat.reduceMul, Nat.reduceLT, Int.cast_ofNat_Int, false_and, and_false, Bool.and_true, Bool.true_and, Bool.and_false, Bool.false_and, Bool.or_true, Bool.true_or, Bool.or_false, Bool.false_or, ↓vD_0, ↓vO_0, ↓rD_0, ↓rO_0, ↓kD_0, ↓kO_0, ↓vD_1, ↓vO_1, ↓rD_1, ↓rO_1, ↓kD_1, ↓kO_1, ↓vD_2, ↓vO_2, ↓rD_2, ↓rO_2, ↓kD_2, ↓kO_2, ↓vD_3, ↓vO_3, ↓rD_3, ↓rO_3, ↓kD_3, ↓kO_3, ↓vD_4, ↓vO_4, ↓rD_4, ↓rO_4, ↓kD_4, ↓kO_4, ↓vD_5, ↓vO_5, ↓rD_5, ↓rO_5, ↓kD_5, ↓kO_5, ↓vD_6, ↓vO_6, ↓rD_6, ↓rO_6, ↓kD_6, ↓kO_6, ↓vD_7, ↓vO_7, ↓rD_7, ↓rO_7, ↓kD_7, ↓kO_7, ↓vD_8, ↓vO_8, ↓rD_8, ↓rO_8, ↓kD_8, ↓kO_8, ↓vD_9, ↓vO_9, ↓rD_9, ↓rO_9, ↓kD_9, ↓kO_9, ↓vD_10, ↓vO_10, ↓rD_10, ↓rO_10, ↓kD_10, ↓kO_10, ↓vD_11, ↓vO_11, ↓rD_11, ↓rO_11, ↓kD_11, ↓kO_11, ↓vD_12, ↓vO_12, ↓rD_12, ↓rO_12, ↓kD_12, ↓kO_12, ↓vD_13, ↓vO_13, ↓rD_13, ↓rO_13, ↓kD_13, ↓kO_13, ↓vD_14, ↓vO_14, ↓rD_14, ↓rO_14, ↓kD_14, ↓kO_14, ↓vD_15, ↓vO_15, ↓rD_15, ↓rO_15, ↓kD_15, ↓kO_15]
    omega
  · simp (disch := first | omega | rfl) only [↓ok_d1, ↓ok_d2, ↓ok_d3, ↓ok_d4, ↓ok_d5, ↓ok_d6, ↓ok_d7, ↓ok_bind, ↓ok_ret, ↓ok_bad, ↓ok_mV, ↓ok_rdD, ↓ok_rdT, ↓ok_dtD, ↓ok_dtT, ↓ok_rds0, ↓ok_rdsC, ↓ok_dts0, ↓ok_dtsC, ↓ok_nil, ↓ok_cons, ↓ok_bin, ↓ok_cb, ↓ok_tup, ↓ok_lst, ↓ok_tru, ↓ok_truB, ↓ok_truI, ↓ok_truN, ↓ok_truL, ↓ok_truT, ↓ok_and, ↓ok_or, ↓ok_not, ↓ok_ifE, ↓ok_andV, ↓ok_orV, ↓ok_notV, ↓ok_neg, ↓ok_chain, ↓ok_seq, ↓ok_skip, ↓ok_retS, ↓ok_retN, ↓ok_bk, ↓ok_ct, ↓ok_ex1, ↓ok_if, ↓ok_set, ↓ok_setP, ↓ok_asg, ↓ok_gN, ↓ok_gsN, ↓ok_gsC, ↓ok_gT, ↓ok_gSb, ↓ok_par, ↓ok_put, ↓ok_get, ↓ok_run, ↓ok_call, ↓ok_callK, ↓ok_make, ↓ok_prop, ↓ok_for, ↓ok_items, ↓ok_rng1, ↓ok_rng2, ↓ok_comp, ↓ok_yes, ↓ok_compS0, ↓ok_compSC, wipeE, ↓ok_sl, ↓ok_noP, ↓ok_pt, ↓ok_slL, ↓ok_slT, ↓ok_rep, ↓ok_app, ↓ok_oSub, ↓ok_oMul, ↓ok_oDiv, ↓ok_oMod, ↓ok_oPow, ↓ok_oLt, ↓ok_oLe, ↓ok_oGt, ↓ok_oGe, ↓ok_oAdd, ↓ok_oAddL, ↓ok_oAddI, ↓ok_oEqI, ↓ok_oEqL, ↓ok_oEqT, ↓ok_oEqB, ↓ok_oEqN, ↓ok_oEqS, ↓ok_oNeI, ↓ok_oNeL, ↓ok_oNeT, ↓ok_oNeB, ↓ok_oNeN, ↓ok_oNeS, ↓ok_oIs, ↓ok_oIsN, ↓ix_0, ↓ix_1, ↓ix_2, ↓ix_3, ↓ix_4, ↓it_0, ↓it_1, ↓it_2, ↓it_3, ixn_0, ixn_1, ixn_2, ↓ok_len, ↓ok_lenT, ↓ok_absI, ↓ok_intI, ↓ok_max2, ↓ok_min2, ↓ok_max3, ↓ok_min3, ↓ok_dm, ↓ok_repr, argsE, backE, outE, Pu.M.dt, List.getElem?_cons_zero, List.getElem?_cons_succ, List.set_cons_zero, List.set_cons_succ, List.take_succ_cons, List.take_zero, List.replicate_zero, List.replicate_succ, List.append_nil, List.nil_append, List.cons_append, List.length_cons, List.length_nil, Nat.sub_self, Nat.reduceSub, Nat.reduceAdd, Nat.reduceLeDiff, decide_true, decide_false, reduceCtorEq, noBor, setsE, slotOf, setsS, putFs, putVs, lookV, sel, isNon, Bool.not_true, Bool.not_false, Bool.not_eq_true, decide_eq_true_eq, decide_eq_false_iff_not, Bool.true_eq_false, Bool.false_eq_true, false_implies, true_implies, and_true, true_and, not_true_eq_false, not_false_eq_true, and_self, implies_true, or_false, false_or, List.flatten_cons, List.flatten_nil, true_or, or_true, Int.sub_zero, eq_self, veq_int, veq_str, cMod, cDiv, cPow, cMul_r, cMul_l, strq, String.reduceEq, sz, szl, dOk_int, dOk_bl, dOk_non, if_true, if_false, Int.reducePow, Int.reduceToNat, Int.reduceMul, Int.reduceAdd, Int.reduceSub, Int.reduceNeg, Int.reduceLT, Int.reduceLE, Int.reduceGT, Int.reduceEq, gt_iff_lt, ge_iff_le, Nat.reducePow, Nat.reduceMul, Nat.reduceLT, Int.cast_ofNat_Int, false_and, and_false, Bool.and_true, Bool.true_and, Bool.and_false, Bool.false_and, Bool.or_true, Bool.true_or, Bool.or_false, Bool.false_or, ↓vD_0, ↓vO_0, ↓rD_0, ↓rO_0, ↓kD_0, ↓kO_0, ↓vD_1, ↓vO_1, ↓rD_1, ↓rO_1, ↓kD_1, ↓kO_1, ↓vD_2, ↓vO_2, ↓rD_2, ↓rO_2, ↓kD_2, ↓kO_2, ↓vD_3, ↓vO_3, ↓rD_3, ↓rO_3, ↓kD_3, ↓kO_3, ↓vD_4, ↓vO_4, ↓rD_4, ↓rO_4, ↓kD_4, ↓kO_4, ↓vD_5, ↓vO_5, ↓rD_5, ↓rO_5, ↓kD_5, ↓kO_5, ↓vD_6, ↓vO_6, ↓rD_6, ↓rO_6, ↓kD_6, ↓kO_6, ↓vD_7, ↓vO_7, ↓rD_7, ↓rO_7, ↓kD_7, ↓kO_7, ↓vD_8, ↓vO_8, ↓rD_8, ↓rO_8, ↓kD_8, ↓kO_8, ↓vD_9, ↓vO_9, ↓rD_9, ↓rO_9, ↓kD_9, ↓kO_9, ↓vD_10, ↓vO_10, ↓rD_10, ↓rO_10, ↓kD_10, ↓kO_10, ↓vD_11, ↓vO_11, ↓rD_11, ↓rO_11, ↓kD_11, ↓kO_11, ↓vD_12, ↓vO_12, ↓rD_12, ↓rO_12, ↓kD_12, ↓kO_12, ↓vD_13, ↓vO_13, ↓rD_13, ↓rO_13, ↓kD_13, ↓kO_13, ↓vD_14, ↓vO_14, ↓rD_14, ↓rO_14, ↓kD_14, ↓kO_14, ↓vD_15, ↓vO_15, ↓rD_15, ↓rO_15, ↓kD_15, ↓kO_15]
    omega
theorem mark_iff {t : Str} {g x k : Int} (hg : 0 < g) (ht : inMenu t) (hk : k % g = 0) : markV t g x = k ↔ k - high t g ≤ x ∧ x ≤ k - low t g := by
  have h := ceil_iff (y := x + low t g) hg hk
  have e : markV t g x = x + low t g + (-(x + low t g)) % g := by
    unfold markV
    rw [show -x - low t g = -(x + low t g) by omega]
  rw [e, h, high_low ht]
  constructor
  · rintro ⟨a, b⟩; exact ⟨by omega, by omega⟩
  · rintro ⟨a, b⟩; exact ⟨by omega, by omega⟩
theorem down {g a : Int} (hg : 0 < g) : (a - a % g) % g = 0 := by
  rw [Int.sub_emod, Int.emod_emod_of_dvd _ (Int.dvd_refl g), Int.sub_self, Int.zero_emod]
theorem up_ {g a : Int} (hg : 0 < g) : (a - a % g + g) % g = 0 := by
  rw [Int.add_emod, down hg]
  simp
theorem lmark_mul {t : Str} {g a : Int} (hg : 0 < g) : lmark t g a % g = 0 := by
  unfold lmark
  split
  · exact down hg
  · split
    · exact up_ hg
    · exact down hg
theorem lmark_eq {t : Str} {g a : Int} (hg : 0 < g) (ht : inMenu t) : markV t g a = lmark t g a := by
  rw [mark_iff hg ht (lmark_mul hg)]
  have h0 := Int.emod_nonneg a (show g ≠ 0 by omega)
  have h1 := Int.emod_lt_of_pos a hg
  unfold high low lmark
  rcases ht with rfl | rfl | rfl
  · simp (disch := first | omega | rfl) only [↓ok_d1, ↓ok_d2, ↓ok_d3, ↓ok_d4, ↓ok_d5, ↓ok_d6, ↓ok_d7, ↓ok_bind, ↓ok_ret, ↓ok_bad, ↓ok_mV, ↓ok_rdD, ↓ok_rdT, ↓ok_dtD, ↓ok_dtT, ↓ok_rds0, ↓ok_rdsC, ↓ok_dts0, ↓ok_dtsC, ↓ok_nil, ↓ok_cons, ↓ok_bin, ↓ok_cb, ↓ok_tup, ↓ok_lst, ↓ok_tru, ↓ok_truB, ↓ok_truI, ↓ok_truN, ↓ok_truL, ↓ok_truT, ↓ok_and, ↓ok_or, ↓ok_not, ↓ok_ifE, ↓ok_andV, ↓ok_orV, ↓ok_notV, ↓ok_neg, ↓ok_chain, ↓ok_seq, ↓ok_skip, ↓ok_retS, ↓ok_retN, ↓ok_bk, ↓ok_ct, ↓ok_ex1, ↓ok_if, ↓ok_set, ↓ok_setP, ↓ok_asg, ↓ok_gN, ↓ok_gsN, ↓ok_gsC, ↓ok_gT, ↓ok_gSb, ↓ok_par, ↓ok_put, ↓ok_get, ↓ok_run, ↓ok_call, ↓ok_callK, ↓ok_make, ↓ok_prop, ↓ok_for, ↓ok_items, ↓ok_rng1, ↓ok_rng2, ↓ok_comp, ↓ok_yes, ↓ok_compS0, ↓ok_compSC, wipeE, ↓ok_sl, ↓ok_noP, ↓ok_pt, ↓ok_slL, ↓ok_slT, ↓ok_rep, ↓ok_app, ↓ok_oSub, ↓ok_oMul, ↓ok_oDiv, ↓ok_oMod, ↓ok_oPow, ↓ok_oLt, ↓ok_oLe, ↓ok_oGt, ↓ok_oGe, ↓ok_oAdd, ↓ok_oAddL, ↓ok_oAddI, ↓ok_oEqI, ↓ok_oEqL, ↓ok_oEqT, ↓ok_oEqB, ↓ok_oEqN, ↓ok_oEqS, ↓ok_oNeI, ↓ok_oNeL, ↓ok_oNeT, ↓ok_oNeB, ↓ok_oNeN, ↓ok_oNeS, ↓ok_oIs, ↓ok_oIsN, ↓ix_0, ↓ix_1, ↓ix_2, ↓ix_3, ↓ix_4, ↓it_0, ↓it_1, ↓it_2, ↓it_3, ixn_0, ixn_1, ixn_2, ↓ok_len, ↓ok_lenT, ↓ok_absI, ↓ok_intI, ↓ok_max2, ↓ok_min2, ↓ok_max3, ↓ok_min3, ↓ok_dm, ↓ok_repr, argsE, backE, outE, Pu.M.dt, List.getElem?_cons_zero, List.getElem?_cons_succ, List.set_cons_zero, List.set_cons_succ, List.take_succ_cons, List.take_zero, List.replicate_zero, List.replicate_succ, List.append_nil, List.nil_append, List.cons_append, List.length_cons, List.length_nil, Nat.sub_self, Nat.reduceSub, Nat.reduceAdd, Nat.reduceLeDiff, decide_true, decide_false, reduceCtorEq, noBor, setsE, slotOf, setsS, putFs, putVs, lookV, sel, isNon, Bool.not_true, Bool.not_false, Bool.not_eq_true, decide_eq_true_eq, decide_eq_false_iff_not, Bool.true_eq_false, Bool.false_eq_true, false_implies, true_implies, and_true, true_and, not_true_eq_false, not_false_eq_true, and_self, implies_true, or_false, false_or, List.flatten_cons, List.flatten_nil, true_or, or_true, Int.sub_zero, eq_self, veq_int, veq_str, cMod, cDiv, cPow, cMul_r, cMul_l, strq, String.reduceEq, sz, szl, dOk_int, dOk_bl, dOk_non, if_true, if_false, Int.reducePow, Int.reduceToNat, Int.reduceMul, Int.reduceAdd, Int.reduceSub, Int.reduceNeg, Int.reduceLT, Int.reduceLE, Int.reduceGT, Int.reduceEq, gt_iff_lt, ge_iff_le, Nat.reducePow, Nat.reduceMul, Nat.reduceLT, Int.cast_ofNat_Int, false_and, and_false, Bool.and_true, Bool.true_and, Bool.and_false, Bool.false_and, Bool.or_true, Bool.true_or, Bool.or_false, Bool.false_or, ↓vD_0, ↓vO_0, ↓rD_0, ↓rO_0, ↓kD_0, ↓kO_0, ↓vD_1, ↓vO_1, ↓rD_1, ↓rO_1, ↓kD_1, ↓kO_1, ↓vD_2, ↓vO_2, ↓rD_2, ↓rO_2, ↓kD_2, ↓kO_2, ↓vD_3, ↓vO_3, ↓rD_3, ↓rO_3, ↓kD_3, ↓kO_3, ↓vD_4, ↓vO_4, ↓rD_4, ↓rO_4, ↓kD_4, ↓kO_4, ↓vD_5, ↓vO_5, ↓rD_5, ↓rO_5, ↓kD_5, ↓kO_5, ↓vD_6, ↓vO_6, ↓rD_6, ↓rO_6, ↓kD_6, ↓kO_6, ↓vD_7, ↓vO_7, ↓rD_7, ↓rO_7, ↓kD_7, ↓kO_7, ↓vD_8, ↓vO_8, ↓rD_8, ↓rO_8, ↓kD_8, ↓kO_8, ↓vD_9, ↓vO_9, ↓rD_9, ↓rO_9, ↓kD_9, ↓kO_9, ↓vD_10, ↓vO_10, ↓rD_10, ↓rO_10, ↓kD_10, ↓kO_10, ↓vD_11, ↓vO_11, ↓rD_11, ↓rO_11, ↓kD_11, ↓kO_11, ↓vD_12, ↓vO_12, ↓rD_12, ↓rO_12, ↓kD_12, ↓kO_12, ↓vD_13, ↓vO_13, ↓rD_13, ↓rO_13, ↓kD_13, ↓kO_13, ↓vD_14, ↓vO_14, ↓rD_14, ↓rO_14, ↓kD_14, ↓kO_14, ↓vD_15, ↓vO_15, ↓rD_15, ↓rO_15, ↓kD_15, ↓kO_15]
    split <;> omega
  · simp (disch := first | omega | rfl) only [↓ok_d1, ↓ok_d2, ↓ok_d3, ↓ok_d4, ↓ok_d5, ↓ok_d6, ↓ok_d7, ↓ok_bind, ↓ok_ret, ↓ok_bad, ↓ok_mV, ↓ok_rdD, ↓ok_rdT, ↓ok_dtD, ↓ok_dtT, ↓ok_rds0, ↓ok_rdsC, ↓ok_dts0, ↓ok_dtsC, ↓ok_nil, ↓ok_cons, ↓ok_bin, ↓ok_cb, ↓ok_tup, ↓ok_lst, ↓ok_tru, ↓ok_truB, ↓ok_truI, ↓ok_truN, ↓ok_truL, ↓ok_truT, ↓ok_and, ↓ok_or, ↓ok_not, ↓ok_ifE, ↓ok_andV, ↓ok_orV, ↓ok_notV, ↓ok_neg, ↓ok_chain, ↓ok_seq, ↓ok_skip, ↓ok_retS, ↓ok_retN, ↓ok_bk, ↓ok_ct, ↓ok_ex1, ↓ok_if, ↓ok_set, ↓ok_setP, ↓ok_asg, ↓ok_gN, ↓ok_gsN, ↓ok_gsC, ↓ok_gT, ↓ok_gSb, ↓ok_par, ↓ok_put, ↓ok_get, ↓ok_run, ↓ok_call, ↓ok_callK, ↓ok_make, ↓ok_prop, ↓ok_for, ↓ok_items, ↓ok_rng1, ↓ok_rng2, ↓ok_comp, ↓ok_yes, ↓ok_compS0, ↓ok_compSC, wipeE, ↓ok_sl, ↓ok_noP, ↓ok_pt, ↓ok_slL, ↓ok_slT, ↓ok_rep, ↓ok_app, ↓ok_oSub, ↓ok_oMul, ↓ok_oDiv, ↓ok_oMod, ↓ok_oPow, ↓ok_oLt, ↓ok_oLe, ↓ok_oGt, ↓ok_oGe, ↓ok_oAdd, ↓ok_oAddL, ↓ok_oAddI, ↓ok_oEqI, ↓ok_oEqL, ↓ok_oEqT, ↓ok_oEqB, ↓ok_oEqN, ↓ok_oEqS, ↓ok_oNeI, ↓ok_oNeL, ↓ok_oNeT, ↓ok_oNeB, ↓ok_oNeN, ↓ok_oNeS, ↓ok_oIs, ↓ok_oIsN, ↓ix_0, ↓ix_1, ↓ix_2, ↓ix_3, ↓ix_4, ↓it_0, ↓it_1, ↓it_2, ↓it_3, ixn_0, ixn_1, ixn_2, ↓ok_len, ↓ok_lenT, ↓ok_absI, ↓ok_intI, ↓ok_max2, ↓ok_min2, ↓ok_max3, ↓ok_min3, ↓ok_dm, ↓ok_repr, argsE, backE, outE, Pu.M.dt, List.getElem?_cons_zero, List.getElem?_cons_succ, List.set_cons_zero, List.set_cons_succ, List.take_succ_cons, List.take_zero, List.replicate_zero, List.replicate_succ, List.append_nil, List.nil_append, List.cons_append, List.length_cons, List.length_nil, Nat.sub_self, Nat.reduceSub, Nat.reduceAdd, Nat.reduceLeDiff, decide_true, decide_false, reduceCtorEq, noBor, setsE, slotOf, setsS, putFs, putVs, lookV, sel, isNon, Bool.not_true, Bool.not_false, Bool.not_eq_true, decide_eq_true_eq, decide_eq_false_iff_not, Bool.true_eq_false, Bool.false_eq_true, false_implies, true_implies, and_true, true_and, not_true_eq_false, not_false_eq_true, and_self, implies_true, or_false, false_or, List.flatten_cons, List.flatten_nil, true_or, or_true, Int.sub_zero, eq_self, veq_int, veq_str, cMod, cDiv, cPow, cMul_r, cMul_l, strq, String.reduceEq, sz, szl, dOk_int, dOk_bl, dOk_non, if_true, if_false, Int.reducePow, Int.reduceToNat, Int.reduceMul, Int.reduceAdd, Int.reduceSub, Int.reduceNeg, Int.reduceLT, Int.reduceLE, Int.reduceGT, Int.reduceEq, gt_iff_lt, ge_iff_le, Nat.reducePow, Nat.reduceMul, Nat.reduceLT, Int.cast_ofNat_Int, false_and, and_false, Bool.and_true, Bool.true_and, Bool.and_false, Bool.false_and, Bool.or_true, Bool.true_or, Bool.or_false, Bool.false_or, ↓vD_0, ↓vO_0, ↓rD_0, ↓rO_0, ↓kD_0, ↓kO_0, ↓vD_1, ↓vO_1, ↓rD_1, ↓rO_1, ↓kD_1, ↓kO_1, ↓vD_2, ↓vO_2, ↓rD_2, ↓rO_2, ↓kD_2, ↓kO_2, ↓vD_3, ↓vO_3, ↓rD_3, ↓rO_3, ↓kD_3, ↓kO_3, ↓vD_4, ↓vO_4, ↓rD_4, ↓rO_4, ↓kD_4, ↓kO_4, ↓vD_5, ↓vO_5, ↓rD_5, ↓rO_5, ↓kD_5, ↓kO_5, ↓vD_6, ↓vO_6, ↓rD_6, ↓rO_6, ↓kD_6, ↓kO_6, ↓vD_7, ↓vO_7, ↓rD_7, ↓rO_7, ↓kD_7, ↓kO_7, ↓vD_8, ↓vO_8, ↓rD_8, ↓rO_8, ↓kD_8, ↓kO_8, ↓vD_9, ↓vO_9, ↓rD_9, ↓rO_9, ↓kD_9, ↓kO_9, ↓vD_10, ↓vO_10, ↓rD_10, ↓rO_10, ↓kD_10, ↓kO_10, ↓vD_11, ↓vO_11, ↓rD_11, ↓rO_11, ↓kD_11, ↓kO_11, ↓vD_12, ↓vO_12, ↓rD_12, ↓rO_12, ↓kD_12, ↓kO_12, ↓vD_13, ↓vO_13, ↓rD_13, ↓rO_13, ↓kD_13, ↓kO_13, ↓vD_14, ↓vO_14, ↓rD_14, ↓rO_14, ↓kD_14, ↓kO_14, ↓vD_15, ↓vO_15, ↓rD_15, ↓rO_15, ↓kD_15, ↓kO_15]
    omega
  · simp (disch := first | omega | rfl) only [↓ok_d1, ↓ok_d2, ↓ok_d3, ↓ok_d4, ↓ok_d5, ↓ok_d6, ↓ok_d7, ↓ok_bind, ↓ok_ret, ↓ok_bad, ↓ok_mV, ↓ok_rdD, ↓ok_rdT, ↓ok_dtD, ↓ok_dtT, ↓ok_rds0, ↓ok_rdsC, ↓ok_dts0, ↓ok_dtsC, ↓ok_nil, ↓ok_cons, ↓ok_bin, ↓ok_cb, ↓ok_tup, ↓ok_lst, ↓ok_tru, ↓ok_truB, ↓ok_truI, ↓ok_truN, ↓ok_truL, ↓ok_truT, ↓ok_and, ↓ok_or, ↓ok_not, ↓ok_ifE, ↓ok_andV, ↓ok_orV, ↓ok_notV, ↓ok_neg, ↓ok_chain, ↓ok_seq, ↓ok_skip, ↓ok_retS, ↓ok_retN, ↓ok_bk, ↓ok_ct, ↓ok_ex1, ↓ok_if, ↓ok_set, ↓ok_setP, ↓ok_asg, ↓ok_gN, ↓ok_gsN, ↓ok_gsC, ↓ok_gT, ↓ok_gSb, ↓ok_par, ↓ok_put, ↓ok_get, ↓ok_run, ↓ok_call, ↓ok_callK, ↓ok_make, ↓ok_prop, ↓ok_for, ↓ok_items, ↓ok_rng1, ↓ok_rng2, ↓ok_comp, ↓ok_yes, ↓ok_compS0, ↓ok_compSC, wipeE, ↓ok_sl, ↓ok_noP, ↓ok_pt, ↓ok_slL, ↓ok_slT, ↓ok_rep, ↓ok_app, ↓ok_oSub, ↓ok_oMul, ↓ok_oDiv, ↓ok_oMod, ↓ok_oPow, ↓ok_oLt, ↓ok_oLe, ↓ok_oGt, ↓ok_oGe, ↓ok_oAdd, ↓ok_oAddL, ↓ok_oAddI, ↓ok_oEqI, ↓ok_oEqL, ↓ok_oEqT, ↓ok_oEqB, ↓ok_oEqN, ↓ok_oEqS, ↓ok_oNeI, ↓ok_oNeL, ↓ok_oNeT, ↓ok_oNeB, ↓ok_oNeN, ↓ok_oNeS, ↓ok_oIs, ↓ok_oIsN, ↓ix_0, ↓ix_1, ↓ix_2, ↓ix_3, ↓ix_4, ↓it_0, ↓it_1, ↓it_2, ↓it_3, ixn_0, ixn_1, ixn_2, ↓ok_len, ↓ok_lenT, ↓ok_absI, ↓ok_intI, ↓ok_max2, ↓ok_min2, ↓ok_max3, ↓ok_min3, ↓ok_dm, ↓ok_repr, argsE, backE, outE, Pu.M.dt, List.getElem?_cons_zero, List.getElem?_cons_succ, List.set_cons_zero, List.set_cons_succ, List.take_succ_cons, List.take_zero, List.replicate_zero, List.replicate_succ, List.append_nil, List.nil_append, List.cons_append, List.length_cons, List.length_nil, Nat.sub_self, Nat.reduceSub, Nat.reduceAdd, Nat.reduceLeDiff, decide_true, decide_false, reduceCtorEq, noBor, setsE, slotOf, setsS, putFs, putVs, lookV, sel, isNon, Bool.not_true, Bool.not_false, Bool.not_eq_true, decide_eq_true_eq, decide_eq_false_iff_not, Bool.true_eq_false, Bool.false_eq_true, false_implies, true_implies, and_true, true_and, not_true_eq_false, not_false_eq_true, and_self, implies_true, or_false, false_or, List.flatten_cons, List.flatten_nil, true_or, or_true, Int.sub_zero, eq_self, veq_int, veq_str, cMod, cDiv, cPow, cMul_r, cMul_l, strq, String.reduceEq, sz, szl, dOk_int, dOk_bl, dOk_non, if_true, if_false, Int.reducePow, Int.reduceToNat, Int.reduceMul, Int.reduceAdd, Int.reduceSub, Int.reduceNeg, Int.reduceLT, Int.reduceLE, Int.reduceGT, Int.reduceEq, gt_iff_lt, ge_iff_le, Nat.reducePow, Nat.reduceMul, Nat.reduceLT, Int.cast_ofNat_Int, false_and, and_false, Bool.and_true, Bool.true_and, Bool.and_false, Bool.false_and, Bool.or_true, Bool.true_or, Bool.or_false, Bool.false_or, ↓vD_0, ↓vO_0, ↓rD_0, ↓rO_0, ↓kD_0, ↓kO_0, ↓vD_1, ↓vO_1, ↓rD_1, ↓rO_1, ↓kD_1, ↓kO_1, ↓vD_2, ↓vO_2, ↓rD_2, ↓rO_2, ↓kD_2, ↓kO_2, ↓vD_3, ↓vO_3, ↓rD_3, ↓rO_3, ↓kD_3, ↓kO_3, ↓vD_4, ↓vO_4, ↓rD_4, ↓rO_4, ↓kD_4, ↓kO_4, ↓vD_5, ↓vO_5, ↓rD_5, ↓rO_5, ↓kD_5, ↓kO_5, ↓vD_6, ↓vO_6, ↓rD_6, ↓rO_6, ↓kD_6, ↓kO_6, ↓vD_7, ↓vO_7, ↓rD_7, ↓rO_7, ↓kD_7, ↓kO_7, ↓vD_8, ↓vO_8, ↓rD_8, ↓rO_8, ↓kD_8, ↓kO_8, ↓vD_9, ↓vO_9, ↓rD_9, ↓rO_9, ↓kD_9, ↓kO_9, ↓vD_10, ↓vO_10, ↓rD_10, ↓rO_10, ↓kD_10, ↓kO_10, ↓vD_11, ↓vO_11, ↓rD_11, ↓rO_11, ↓kD_11, ↓kO_11, ↓vD_12, ↓vO_12, ↓rD_12, ↓rO_12, ↓kD_12, ↓kO_12, ↓vD_13, ↓vO_13, ↓rD_13, ↓rO_13, ↓kD_13, ↓kO_13, ↓vD_14, ↓vO_14, ↓rD_14, ↓rO_14, ↓kD_14, ↓kO_14, ↓vD_15, ↓vO_15, ↓rD_15, ↓rO_15, ↓kD_15, ↓kO_15]
    split
    · omega
    · split <;> omega
theorem Ok.seq {a b : S} {e : Ev} {Q : Out → Ev → Prop} (P : Ev → Prop) (h : Ok a e fun o e1 => o = .nx ∧ P e1) (k : ∀ e1, P e1 → Ok b e1 Q) : Ok (mSeq a b) e Q := by
  rw [ok_seq]
  exact Ok.mono h fun o e1 ⟨h1, h2⟩ => by subst h1; exact k e1 h2
theorem Ok.loopI {mt : Val → M Unit} {mb : S} (P : Ev → Prop) {vs : List Val} {e : Ev} (h : P e) (st : ∀ (v : Val) (e : Ev), v ∈ vs → P e → Ok (mt v) e fun _ e1 => Ok mb e1 fun o e2 => (o = .nx ∨ o = .ct) ∧ P e2) : Ok (loopS mt mb vs) e fun o e' => o = .nx ∧ P e' :=
  Ok.loop (fun _ => P) (i := 0) h fun j v e hj hp => st v e (List.mem_of_getElem? hj) hp
theorem r_flask {ns : List Int} {k : Int} (hk : 0 ≤ k) : Ok den__law_flask [.dat (.lst (ns.map .int)), .dat (.int k)] fun r e' => ∃ a b c, r = .tmp (.lst [.int a, .int b, .int c]) ∧ e' = [.un, .un] := by
  unfold den__law_flask
  rw [ok_d2]
  unfold b__law_flask
  refine Ok.seq (fun e => ∃ i, e = [.dat (.lst (ns.map .int)), .dat (.int k), .dat (.int i), .un, .un]) ?_ ?_
  · simp (disch := first | omega | rfl) only [↓ok_d1, ↓ok_d2, ↓ok_d3, ↓ok_d4, ↓ok_d5, ↓ok_d6, ↓ok_d7, ↓ok_bind, ↓ok_ret, ↓ok_bad, ↓ok_mV, ↓ok_rdD, ↓ok_rdT, ↓ok_dtD, ↓ok_dtT, ↓ok_rds0, ↓ok_rdsC, ↓ok_dts0, ↓ok_dtsC, ↓ok_nil, ↓ok_cons, ↓ok_bin, ↓ok_cb, ↓ok_tup, ↓ok_lst, ↓ok_tru, ↓ok_truB, ↓ok_truI, ↓ok_truN, ↓ok_truL, ↓ok_truT, ↓ok_and, ↓ok_or, ↓ok_not, ↓ok_ifE, ↓ok_andV, ↓ok_orV, ↓ok_notV, ↓ok_neg, ↓ok_chain, ↓ok_seq, ↓ok_skip, ↓ok_retS, ↓ok_retN, ↓ok_bk, ↓ok_ct, ↓ok_ex1, ↓ok_if, ↓ok_set, ↓ok_setP, ↓ok_asg, ↓ok_gN, ↓ok_gsN, ↓ok_gsC, ↓ok_gT, ↓ok_gSb, ↓ok_par, ↓ok_put, ↓ok_get, ↓ok_run, ↓ok_call, ↓ok_callK, ↓ok_make, ↓ok_prop, ↓ok_for, ↓ok_items, ↓ok_rng1, ↓ok_rng2, ↓ok_comp, ↓ok_yes, ↓ok_compS0, ↓ok_compSC, wipeE, ↓ok_sl, ↓ok_noP, ↓ok_pt, ↓ok_slL, ↓ok_slT, ↓ok_rep, ↓ok_app, ↓ok_oSub, ↓ok_oMul, ↓ok_oDiv, ↓ok_oMod, ↓ok_oPow, ↓ok_oLt, ↓ok_oLe, ↓ok_oGt, ↓ok_oGe, ↓ok_oAdd, ↓ok_oAddL, ↓ok_oAddI, ↓ok_oEqI, ↓ok_oEqL, ↓ok_oEqT, ↓ok_oEqB, ↓ok_oEqN, ↓ok_oEqS, ↓ok_oNeI, ↓ok_oNeL, ↓ok_oNeT, ↓ok_oNeB, ↓ok_oNeN, ↓ok_oNeS, ↓ok_oIs, ↓ok_oIsN, ↓ix_0, ↓ix_1, ↓ix_2, ↓ix_3, ↓ix_4, ↓it_0, ↓it_1, ↓it_2, ↓it_3, ixn_0, ixn_1, ixn_2, ↓ok_len, ↓ok_lenT, ↓ok_absI, ↓ok_intI, ↓ok_max2, ↓ok_min2, ↓ok_max3, ↓ok_min3, ↓ok_dm, ↓ok_repr, argsE, backE, outE, Pu.M.dt, List.getElem?_cons_zero, List.getElem?_cons_succ, List.set_cons_zero, List.set_cons_succ, List.take_succ_cons, List.take_zero, List.replicate_zero, List.replicate_succ, List.append_nil, List.nil_append, List.cons_append, List.length_cons, List.length_nil, Nat.sub_self, Nat.reduceSub, Nat.reduceAdd, Nat.reduceLeDiff, decide_true, decide_false, reduceCtorEq, noBor, setsE, slotOf, setsS, putFs, putVs, lookV, sel, isNon, Bool.not_true, Bool.not_false, Bool.not_eq_true, decide_eq_true_eq, decide_eq_false_iff_not, Bool.true_eq_false, Bool.false_eq_true, false_implies, true_implies, and_true, true_and, not_true_eq_false, not_false_eq_true, and_self, implies_true, or_false, false_or, List.flatten_cons, List.flatten_nil, true_or, or_true, Int.sub_zero, eq_self, veq_int, veq_str, cMod, cDiv, cPow, cMul_r, cMul_l, strq, String.reduceEq, sz, szl, dOk_int, dOk_bl, dOk_non, if_true, if_false, Int.reducePow, Int.reduceToNat, Int.reduceMul, Int.reduceAdd, Int.reduceSub, Int.reduceNeg, Int.reduceLT, Int.reduceLE, Int.reduceGT, Int.reduceEq, gt_iff_lt, ge_iff_le, Nat.reducePow, Nat.reduceMul, Nat.reduceLT, Int.cast_ofNat_Int, false_and, and_false, Bool.and_true, Bool.true_and, Bool.and_false, Bool.false_and, Bool.or_true, Bool.true_or, Bool.or_false, Bool.false_or, ↓vD_0, ↓vO_0, ↓rD_0, ↓rO_0, ↓kD_0, ↓kO_0, ↓vD_1, ↓vO_1, ↓rD_1, ↓rO_1, ↓kD_1, ↓kO_1, ↓vD_2, ↓vO_2, ↓rD_2, ↓rO_2, ↓kD_2, ↓kO_2, ↓vD_3, ↓vO_3, ↓rD_3, ↓rO_3, ↓kD_3, ↓kO_3, ↓vD_4, ↓vO_4, ↓rD_4, ↓rO_4, ↓kD_4, ↓kO_4, ↓vD_5, ↓vO_5, ↓rD_5, ↓rO_5, ↓kD_5, ↓kO_5, ↓vD_6, ↓vO_6, ↓rD_6, ↓rO_6, ↓kD_6, ↓kO_6, ↓vD_7, ↓vO_7, ↓rD_7, ↓rO_7, ↓kD_7, ↓kO_7, ↓vD_8, ↓vO_8, ↓rD_8, ↓rO_8, ↓kD_8, ↓kO_8, ↓vD_9, ↓vO_9, ↓rD_9, ↓rO_9, ↓kD_9, ↓kO_9, ↓vD_10, ↓vO_10, ↓rD_10, ↓rO_10, ↓kD_10, ↓kO_10, ↓vD_11, ↓vO_11, ↓rD_11, ↓rO_11, ↓kD_11, ↓kO_11, ↓vD_12, ↓vO_12, ↓rD_12, ↓rO_12, ↓kD_12, ↓kO_12, ↓vD_13, ↓vO_13, ↓rD_13, ↓rO_13, ↓kD_13, ↓kO_13, ↓vD_14, ↓vO_14, ↓rD_14, ↓rO_14, ↓kD_14, ↓kO_14, ↓vD_15, ↓vO_15, ↓rD_15, ↓rO_15, ↓kD_15, ↓kO_15]
    refine ⟨fun q => ?_, fun _ => ⟨_, rfl⟩⟩
    obtain ⟨v, hv, e1⟩ := atI_mem hk q
    obtain ⟨i, _, rfl⟩ := List.mem_map.mp hv
    simp (disch := first | omega | rfl) only [↓ok_d1, ↓ok_d2, ↓ok_d3, ↓ok_d4, ↓ok_d5, ↓ok_d6, ↓ok_d7, ↓ok_bind, ↓ok_ret, ↓ok_bad, ↓ok_mV, ↓ok_rdD, ↓ok_rdT, ↓ok_dtD, ↓ok_dtT, ↓ok_rds0, ↓ok_rdsC, ↓ok_dts0, ↓ok_dtsC, ↓ok_nil, ↓ok_cons, ↓ok_bin, ↓ok_cb, ↓ok_tup, ↓ok_lst, ↓ok_tru, ↓ok_truB, ↓ok_truI, ↓ok_truN, ↓ok_truL, ↓ok_truT, ↓ok_and, ↓ok_or, ↓ok_not, ↓ok_ifE, ↓ok_andV, ↓ok_orV, ↓ok_notV, ↓ok_neg, ↓ok_chain, ↓ok_seq, ↓ok_skip, ↓ok_retS, ↓ok_retN, ↓ok_bk, ↓ok_ct, ↓ok_ex1, ↓ok_if, ↓ok_set, ↓ok_setP, ↓ok_asg, ↓ok_gN, ↓ok_gsN, ↓ok_gsC, ↓ok_gT, ↓ok_gSb, ↓ok_par, ↓ok_put, ↓ok_get, ↓ok_run, ↓ok_call, ↓ok_callK, ↓ok_make, ↓ok_prop, ↓ok_for, ↓ok_items, ↓ok_rng1, ↓ok_rng2, ↓ok_comp, ↓ok_yes, ↓ok_compS0, ↓ok_compSC, wipeE, ↓ok_sl, ↓ok_noP, ↓ok_pt, ↓ok_slL, ↓ok_slT, ↓ok_rep, ↓ok_app, ↓ok_oSub, ↓ok_oMul, ↓ok_oDiv, ↓ok_oMod, ↓ok_oPow, ↓ok_oLt, ↓ok_oLe, ↓ok_oGt, ↓ok_oGe, ↓ok_oAdd, ↓ok_oAddL, ↓ok_oAddI, ↓ok_oEqI, ↓ok_oEqL, ↓ok_oEqT, ↓ok_oEqB, ↓ok_oEqN, ↓ok_oEqS, ↓ok_oNeI, ↓ok_oNeL, ↓ok_oNeT, ↓ok_oNeB, ↓ok_oNeN, ↓ok_oNeS, ↓ok_oIs, ↓ok_oIsN, ↓ix_0, ↓ix_1, ↓ix_2, ↓ix_3, ↓ix_4, ↓it_0, ↓it_1, ↓it_2, ↓it_3, ixn_0, ixn_1, ixn_2, ↓ok_len, ↓ok_lenT, ↓ok_absI, ↓ok_intI, ↓ok_max2, ↓ok_min2, ↓ok_max3, ↓ok_min3, ↓ok_dm, ↓ok_repr, argsE, backE, outE, Pu.M.dt, List.getElem?_cons_zero, List.getElem?_cons_succ, List.set_cons_zero, List.set_cons_succ, List.take_succ_cons, List.take_zero, List.replicate_zero, List.replicate_succ, List.append_nil, List.nil_append, List.cons_append, List.length_cons, List.length_nil, Nat.sub_self, Nat.reduceSub, Nat.reduceAdd, Nat.reduceLeDiff, decide_true, decide_false, reduceCtorEq, noBor, setsE, slotOf, setsS, putFs, putVs, lookV, sel, isNon, Bool.not_true, Bool.not_false, Bool.not_eq_true, decide_eq_true_eq, decide_eq_false_iff_not, Bool.true_eq_false, Bool.false_eq_true, false_implies, true_implies, and_true, true_and, not_true_eq_false, not_false_eq_true, and_self, implies_true, or_false, false_or, List.flatten_cons, List.flatten_nil, true_or, or_true, Int.sub_zero, eq_self, veq_int, veq_str, cMod, cDiv, cPow, cMul_r, cMul_l, strq, String.reduceEq, sz, szl, dOk_int, dOk_bl, dOk_non, if_true, if_false, Int.reducePow, Int.reduceToNat, Int.reduceMul, Int.reduceAdd, Int.reduceSub, Int.reduceNeg, Int.reduceLT, Int.reduceLE, Int.reduceGT, Int.reduceEq, gt_iff_lt, ge_iff_le, Nat.reducePow, Nat.reduceMul, Nat.reduceLT, Int.cast_ofNat_Int, false_and, and_false, Bool.and_true, Bool.true_and, Bool.and_false, Bool.false_and, Bool.or_true, Bool.true_or, Bool.or_false, Bool.false_or, ↓vD_0, ↓vO_0, ↓rD_0, ↓rO_0, ↓kD_0, ↓kO_0, ↓vD_1, ↓vO_1, ↓rD_1, ↓rO_1, ↓kD_1, ↓kO_1, ↓vD_2, ↓vO_2, ↓rD_2, ↓rO_2, ↓kD_2, ↓kO_2, ↓vD_3, ↓vO_3, ↓rD_3, ↓rO_3, ↓kD_3, ↓kO_3, ↓vD_4, ↓vO_4, ↓rD_4, ↓rO_4, ↓kD_4, ↓kO_4, ↓vD_5, ↓vO_5, ↓rD_5, ↓rO_5, ↓kD_5, ↓kO_5, ↓vD_6, ↓vO_6, ↓rD_6, ↓rO_6, ↓kD_6, ↓kO_6, ↓vD_7, ↓vO_7, ↓rD_7, ↓rO_7, ↓kD_7, ↓kO_7, ↓vD_8, ↓vO_8, ↓rD_8, ↓rO_8, ↓kD_8, ↓kO_8, ↓vD_9, ↓vO_9, ↓rD_9, ↓rO_9, ↓kD_9, ↓kO_9, ↓vD_10, ↓vO_10, ↓rD_10, ↓rO_10, ↓kD_10, ↓kO_10, ↓vD_11, ↓vO_11, ↓rD_11, ↓rO_11, ↓kD_11, ↓kO_11, ↓vD_12, ↓vO_12, ↓rD_12, ↓rO_12, ↓kD_12, ↓kO_12, ↓vD_13, ↓vO_13, ↓rD_13, ↓rO_13, ↓kD_13, ↓kO_13, ↓vD_14, ↓vO_14, ↓rD_14, ↓rO_14, ↓kD_14, ↓kO_14, ↓vD_15, ↓vO_15, ↓rD_15, ↓rO_15, ↓kD_15, ↓kO_15, ↓ok_ixL]
    exact ⟨_, e1, by simp (disch := first | omega | rfl) only [↓ok_d1, ↓ok_d2, ↓ok_d3, ↓ok_d4, ↓ok_d5, ↓ok_d6, ↓ok_d7, ↓ok_bind, ↓ok_ret, ↓ok_bad, ↓ok_mV, ↓ok_rdD, ↓ok_rdT, ↓ok_dtD, ↓ok_dtT, ↓ok_rds0, ↓ok_rdsC, ↓ok_dts0, ↓ok_dtsC, ↓ok_nil, ↓ok_cons, ↓ok_bin, ↓ok_cb, ↓ok_tup, ↓ok_lst, ↓ok_tru, ↓ok_truB, ↓ok_truI, ↓ok_truN, ↓ok_truL, ↓ok_truT, ↓ok_and, ↓ok_or, ↓ok_not, ↓ok_ifE, ↓ok_andV, ↓ok_orV, ↓ok_notV, ↓ok_neg, ↓ok_chain, ↓ok_seq, ↓ok_skip, ↓ok_retS, ↓ok_retN, ↓ok_bk, ↓ok_ct, ↓ok_ex1, ↓ok_if, ↓ok_set, ↓ok_setP, ↓ok_asg, ↓ok_gN, ↓ok_gsN, ↓ok_gsC, ↓ok_gT, ↓ok_gSb, ↓ok_par, ↓ok_put, ↓ok_get, ↓ok_run, ↓ok_call, ↓ok_callK, ↓ok_make, ↓ok_prop, ↓ok_for, ↓ok_items, ↓ok_rng1, ↓ok_rng2, ↓ok_comp, ↓ok_yes, ↓ok_compS0, ↓ok_compSC, wipeE, ↓ok_sl, ↓ok_noP, ↓ok_pt, ↓ok_slL, ↓ok_slT, ↓ok_rep, ↓ok_app, ↓ok_oSub, ↓ok_oMul, ↓ok_oDiv, ↓ok_oMod, ↓ok_oPow, ↓ok_oLt, ↓ok_oLe, ↓ok_oGt, ↓ok_oGe, ↓ok_oAdd, ↓ok_oAddL, ↓ok_oAddI, ↓ok_oEqI, ↓ok_oEqL, ↓ok_oEqT, ↓ok_oEqB, ↓ok_oEqN, ↓ok_oEqS, ↓ok_oNeI, ↓ok_oNeL, ↓ok_oNeT, ↓ok_oNeB, ↓ok_oNeN, ↓ok_oNeS, ↓ok_oIs, ↓ok_oIsN, ↓ix_0, ↓ix_1, ↓ix_2, ↓ix_3, ↓ix_4, ↓it_0, ↓it_1, ↓it_2, ↓it_3, ixn_0, ixn_1, ixn_2, ↓ok_len, ↓ok_lenT, ↓ok_absI, ↓ok_intI, ↓ok_max2, ↓ok_min2, ↓ok_max3, ↓ok_min3, ↓ok_dm, ↓ok_repr, argsE, backE, outE, Pu.M.dt, List.getElem?_cons_zero, List.getElem?_cons_succ, List.set_cons_zero, List.set_cons_succ, List.take_succ_cons, List.take_zero, List.replicate_zero, List.replicate_succ, List.append_nil, List.nil_append, List.cons_append, List.length_cons, List.length_nil, Nat.sub_self, Nat.reduceSub, Nat.reduceAdd, Nat.reduceLeDiff, decide_true, decide_false, reduceCtorEq, noBor, setsE, slotOf, setsS, putFs, putVs, lookV, sel, isNon, Bool.not_true, Bool.not_false, Bool.not_eq_true, decide_eq_true_eq, decide_eq_false_iff_not, Bool.true_eq_false, Bool.false_eq_true, false_implies, true_implies, and_true, true_and, not_true_eq_false, not_false_eq_true, and_self, implies_true, or_false, false_or, List.flatten_cons, List.flatten_nil, true_or, or_true, Int.sub_zero, eq_self, veq_int, veq_str, cMod, cDiv, cPow, cMul_r, cMul_l, strq, String.reduceEq, sz, szl, dOk_int, dOk_bl, dOk_non, if_true, if_false, Int.reducePow, Int.reduceToNat, Int.reduceMul, Int.reduceAdd, Int.reduceSub, Int.reduceNeg, Int.reduceLT, Int.reduceLE, Int.reduceGT, Int.reduceEq, gt_iff_lt, ge_iff_le, Nat.reducePow, Nat.reduceMul, Nat.reduceLT, Int.cast_ofNat_Int, false_and, and_false, Bool.and_true, Bool.true_and, Bool.and_false, Bool.false_and, Bool.or_true, Bool.true_or, Bool.or_false, Bool.false_or, ↓vD_0, ↓vO_0, ↓rD_0, ↓rO_0, ↓kD_0, ↓kO_0, ↓vD_1, ↓vO_1, ↓rD_1, ↓rO_1, ↓kD_1, ↓kO_1, ↓vD_2, ↓vO_2, ↓rD_2, ↓rO_2, ↓kD_2, ↓kO_2, ↓vD_3, ↓vO_3, ↓rD_3, ↓rO_3, ↓kD_3, ↓kO_3, ↓vD_4, ↓vO_4, ↓rD_4, ↓rO_4, ↓kD_4, ↓kO_4, ↓vD_5, ↓vO_5, ↓rD_5, ↓rO_5, ↓kD_5, ↓kO_5, ↓vD_6, ↓vO_6, ↓rD_6, ↓rO_6, ↓kD_6, ↓kO_6, ↓vD_7, ↓vO_7, ↓rD_7, ↓rO_7, ↓kD_7, ↓kO_7, ↓vD_8, ↓vO_8, ↓rD_8, ↓rO_8, ↓kD_8, ↓kO_8, ↓vD_9, ↓vO_9, ↓rD_9, ↓rO_9, ↓kD_9, ↓kO_9, ↓vD_10, ↓vO_10, ↓rD_10, ↓rO_10, ↓kD_10, ↓kO_10, ↓vD_11, ↓vO_11, ↓rD_11, ↓rO_11, ↓kD_11, ↓kO_11, ↓vD_12, ↓vO_12, ↓rD_12, ↓rO_12, ↓kD_12, ↓kO_12, ↓vD_13, ↓vO_13, ↓rD_13, ↓rO_13, ↓kD_13, ↓kO_13, ↓vD_14, ↓vO_14, ↓rD_14, ↓rO_14, ↓kD_14, ↓kO_14, ↓vD_15, ↓vO_15, ↓rD_15, ↓rO_15, ↓kD_15, ↓kO_15]; exact ⟨_, rfl⟩⟩
  rintro _ ⟨i, rfl⟩
  refine Ok.seq (fun e => ∃ st, e = [.dat (.lst (ns.map .int)), .dat (.int k), .dat (.int i), .dat (.int st), .un]) ?_ ?_
  · simp (disch := first | omega | rfl) only [↓ok_d1, ↓ok_d2, ↓ok_d3, ↓ok_d4, ↓ok_d5, ↓ok_d6, ↓ok_d7, ↓ok_bind, ↓ok_ret, ↓ok_bad, ↓ok_mV, ↓ok_rdD, ↓ok_rdT, ↓ok_dtD, ↓ok_dtT, ↓ok_rds0, ↓ok_rdsC, ↓ok_dts0, ↓ok_dtsC, ↓ok_nil, ↓ok_cons, ↓ok_bin, ↓ok_cb, ↓ok_tup, ↓ok_lst, ↓ok_tru, ↓ok_truB, ↓ok_truI, ↓ok_truN, ↓ok_truL, ↓ok_truT, ↓ok_and, ↓ok_or, ↓ok_not, ↓ok_ifE, ↓ok_andV, ↓ok_orV, ↓ok_notV, ↓ok_neg, ↓ok_chain, ↓ok_seq, ↓ok_skip, ↓ok_retS, ↓ok_retN, ↓ok_bk, ↓ok_ct, ↓ok_ex1, ↓ok_if, ↓ok_set, ↓ok_setP, ↓ok_asg, ↓ok_gN, ↓ok_gsN, ↓ok_gsC, ↓ok_gT, ↓ok_gSb, ↓ok_par, ↓ok_put, ↓ok_get, ↓ok_run, ↓ok_call, ↓ok_callK, ↓ok_make, ↓ok_prop, ↓ok_for, ↓ok_items, ↓ok_rng1, ↓ok_rng2, ↓ok_comp, ↓ok_yes, ↓ok_compS0, ↓ok_compSC, wipeE, ↓ok_sl, ↓ok_noP, ↓ok_pt, ↓ok_slL, ↓ok_slT, ↓ok_rep, ↓ok_app, ↓ok_oSub, ↓ok_oMul, ↓ok_oDiv, ↓ok_oMod, ↓ok_oPow, ↓ok_oLt, ↓ok_oLe, ↓ok_oGt, ↓ok_oGe, ↓ok_oAdd, ↓ok_oAddL, ↓ok_oAddI, ↓ok_oEqI, ↓ok_oEqL, ↓ok_oEqT, ↓ok_oEqB, ↓ok_oEqN, ↓ok_oEqS, ↓ok_oNeI, ↓ok_oNeL, ↓ok_oNeT, ↓ok_oNeB, ↓ok_oNeN, ↓ok_oNeS, ↓ok_oIs, ↓ok_oIsN, ↓ix_0, ↓ix_1, ↓ix_2, ↓ix_3, ↓ix_4, ↓it_0, ↓it_1, ↓it_2, ↓it_3, ixn_0, ixn_1, ixn_2, ↓ok_len, ↓ok_lenT, ↓ok_absI, ↓ok_intI, ↓ok_max2, ↓ok_min2, ↓ok_max3, ↓ok_min3, ↓ok_dm, ↓ok_repr, argsE, backE, outE, Pu.M.dt, List.getElem?_cons_zero, List.getElem?_cons_succ, List.set_cons_zero, List.set_cons_succ, List.take_succ_cons, List.take_zero, List.replicate_zero, List.replicate_succ, List.append_nil, List.nil_append, List.cons_append, List.length_cons, List.length_nil, Nat.sub_self, Nat.reduceSub, Nat.reduceAdd, Nat.reduceLeDiff, decide_true, decide_false, reduceCtorEq, noBor, setsE, slotOf, setsS, putFs, putVs, lookV, sel, isNon, Bool.not_true, Bool.not_false, Bool.not_eq_true, decide_eq_true_eq, decide_eq_false_iff_not, Bool.true_eq_false, Bool.false_eq_true, false_implies, true_implies, and_true, true_and, not_true_eq_false, not_false_eq_true, and_self, implies_true, or_false, false_or, List.flatten_cons, List.flatten_nil, true_or, or_true, Int.sub_zero, eq_self, veq_int, veq_str, cMod, cDiv, cPow, cMul_r, cMul_l, strq, String.reduceEq, sz, szl, dOk_int, dOk_bl, dOk_non, if_true, if_false, Int.reducePow, Int.reduceToNat, Int.reduceMul, Int.reduceAdd, Int.reduceSub, Int.reduceNeg, Int.reduceLT, Int.reduceLE, Int.reduceGT, Int.reduceEq, gt_iff_lt, ge_iff_le, Nat.reducePow, Nat.reduceMul, Nat.reduceLT, Int.cast_ofNat_Int, false_and, and_false, Bool.and_true, Bool.true_and, Bool.and_false, Bool.false_and, Bool.or_true, Bool.true_or, Bool.or_false, Bool.false_or, ↓vD_0, ↓vO_0, ↓rD_0, ↓rO_0, ↓kD_0, ↓kO_0, ↓vD_1, ↓vO_1, ↓rD_1, ↓rO_1, ↓kD_1, ↓kO_1, ↓vD_2, ↓vO_2, ↓rD_2, ↓rO_2, ↓kD_2, ↓kO_2, ↓vD_3, ↓vO_3, ↓rD_3, ↓rO_3, ↓kD_3, ↓kO_3, ↓vD_4, ↓vO_4, ↓rD_4, ↓rO_4, ↓kD_4, ↓kO_4, ↓vD_5, ↓vO_5, ↓rD_5, ↓rO_5, ↓kD_5, ↓kO_5, ↓vD_6, ↓vO_6, ↓rD_6, ↓rO_6, ↓kD_6, ↓kO_6, ↓vD_7, ↓vO_7, ↓rD_7, ↓rO_7, ↓kD_7, ↓kO_7, ↓vD_8, ↓vO_8, ↓rD_8, ↓rO_8, ↓kD_8, ↓kO_8, ↓vD_9, ↓vO_9, ↓rD_9, ↓rO_9, ↓kD_9, ↓kO_9, ↓vD_10, ↓vO_10, ↓rD_10, ↓rO_10, ↓kD_10, ↓kO_10, ↓vD_11, ↓vO_11, ↓rD_11, ↓rO_11, ↓kD_11, ↓kO_11, ↓vD_12, ↓vO_12, ↓rD_12, ↓rO_12, ↓kD_12, ↓kO_12, ↓vD_13, ↓vO_13, ↓rD_13, ↓rO_13, ↓kD_13, ↓kO_13, ↓vD_14, ↓vO_14, ↓rD_14, ↓rO_14, ↓kD_14, ↓kO_14, ↓vD_15, ↓vO_15, ↓rD_15, ↓rO_15, ↓kD_15, ↓kO_15]
    exact ⟨_, rfl⟩
  rintro _ ⟨st, rfl⟩
  refine Ok.seq (fun e => ∃ st s4, e = [.dat (.lst (ns.map .int)), .dat (.int k), .dat (.int i), .dat (.int st), s4]) ?_ ?_
  · simp (disch := first | omega | rfl) only [↓ok_d1, ↓ok_d2, ↓ok_d3, ↓ok_d4, ↓ok_d5, ↓ok_d6, ↓ok_d7, ↓ok_bind, ↓ok_ret, ↓ok_bad, ↓ok_mV, ↓ok_rdD, ↓ok_rdT, ↓ok_dtD, ↓ok_dtT, ↓ok_rds0, ↓ok_rdsC, ↓ok_dts0, ↓ok_dtsC, ↓ok_nil, ↓ok_cons, ↓ok_bin, ↓ok_cb, ↓ok_tup, ↓ok_lst, ↓ok_tru, ↓ok_truB, ↓ok_truI, ↓ok_truN, ↓ok_truL, ↓ok_truT, ↓ok_and, ↓ok_or, ↓ok_not, ↓ok_ifE, ↓ok_andV, ↓ok_orV, ↓ok_notV, ↓ok_neg, ↓ok_chain, ↓ok_seq, ↓ok_skip, ↓ok_retS, ↓ok_retN, ↓ok_bk, ↓ok_ct, ↓ok_ex1, ↓ok_if, ↓ok_set, ↓ok_setP, ↓ok_asg, ↓ok_gN, ↓ok_gsN, ↓ok_gsC, ↓ok_gT, ↓ok_gSb, ↓ok_par, ↓ok_put, ↓ok_get, ↓ok_run, ↓ok_call, ↓ok_callK, ↓ok_make, ↓ok_prop, ↓ok_for, ↓ok_items, ↓ok_rng1, ↓ok_rng2, ↓ok_comp, ↓ok_yes, ↓ok_compS0, ↓ok_compSC, wipeE, ↓ok_sl, ↓ok_noP, ↓ok_pt, ↓ok_slL, ↓ok_slT, ↓ok_rep, ↓ok_app, ↓ok_oSub, ↓ok_oMul, ↓ok_oDiv, ↓ok_oMod, ↓ok_oPow, ↓ok_oLt, ↓ok_oLe, ↓ok_oGt, ↓ok_oGe, ↓ok_oAdd, ↓ok_oAddL, ↓ok_oAddI, ↓ok_oEqI, ↓ok_oEqL, ↓ok_oEqT, ↓ok_oEqB, ↓ok_oEqN, ↓ok_oEqS, ↓ok_oNeI, ↓ok_oNeL, ↓ok_oNeT, ↓ok_oNeB, ↓ok_oNeN, ↓ok_oNeS, ↓ok_oIs, ↓ok_oIsN, ↓ix_0, ↓ix_1, ↓ix_2, ↓ix_3, ↓ix_4, ↓it_0, ↓it_1, ↓it_2, ↓it_3, ixn_0, ixn_1, ixn_2, ↓ok_len, ↓ok_lenT, ↓ok_absI, ↓ok_intI, ↓ok_max2, ↓ok_min2, ↓ok_max3, ↓ok_min3, ↓ok_dm, ↓ok_repr, argsE, backE, outE, Pu.M.dt, List.getElem?_cons_zero, List.getElem?_cons_succ, List.set_cons_zero, List.set_cons_succ, List.take_succ_cons, List.take_zero, List.replicate_zero, List.replicate_succ, List.append_nil, List.nil_append, List.cons_append, List.length_cons, List.length_nil, Nat.sub_self, Nat.reduceSub, Nat.reduceAdd, Nat.reduceLeDiff, decide_true, decide_false, reduceCtorEq, noBor, setsE, slotOf, setsS, putFs, putVs, lookV, sel, isNon, Bool.not_true, Bool.not_false, Bool.not_eq_true, decide_eq_true_eq, decide_eq_false_iff_not, Bool.true_eq_false, Bool.false_eq_true, false_implies, true_implies, and_true, true_and, not_true_eq_false, not_false_eq_true, and_self, implies_true, or_false, false_or, List.flatten_cons, List.flatten_nil, true_or, or_true, Int.sub_zero, eq_self, veq_int, veq_str, cMod, cDiv, cPow, cMul_r, cMul_l, strq, String.reduceEq, sz, szl, dOk_int, dOk_bl, dOk_non, if_true, if_false, Int.reducePow, Int.reduceToNat, Int.reduceMul, Int.reduceAdd, Int.reduceSub, Int.reduceNeg, Int.reduceLT, Int.reduceLE, Int.reduceGT, Int.reduceEq, gt_iff_lt, ge_iff_le, Nat.reducePow, Nat.reduceMul, Nat.reduceLT, Int.cast_ofNat_Int, false_and, and_false, Bool.and_true, Bool.true_and, Bool.and_false, Bool.false_and, Bool.or_true, Bool.true_or, Bool.or_false, Bool.false_or, ↓vD_0, ↓vO_0, ↓rD_0, ↓rO_0, ↓kD_0, ↓kO_0, ↓vD_1, ↓vO_1, ↓rD_1, ↓rO_1, ↓kD_1, ↓kO_1, ↓vD_2, ↓vO_2, ↓rD_2, ↓rO_2, ↓kD_2, ↓kO_2, ↓vD_3, ↓vO_3, ↓rD_3, ↓rO_3, ↓kD_3, ↓kO_3, ↓vD_4, ↓vO_4, ↓rD_4, ↓rO_4, ↓kD_4, ↓kO_4, ↓vD_5, ↓vO_5, ↓rD_5, ↓rO_5, ↓kD_5, ↓kO_5, ↓vD_6, ↓vO_6, ↓rD_6, ↓rO_6, ↓kD_6, ↓kO_6, ↓vD_7, ↓vO_7, ↓rD_7, ↓rO_7, ↓kD_7, ↓kO_7, ↓vD_8, ↓vO_8, ↓rD_8, ↓rO_8, ↓kD_8, ↓kO_8, ↓vD_9, ↓vO_9, ↓rD_9, ↓rO_9, ↓kD_9, ↓kO_9, ↓vD_10, ↓vO_10, ↓rD_10, ↓rO_10, ↓kD_10, ↓kO_10, ↓vD_11, ↓vO_11, ↓rD_11, ↓rO_11, ↓kD_11, ↓kO_11, ↓vD_12, ↓vO_12, ↓rD_12, ↓rO_12, ↓kD_12, ↓kO_12, ↓vD_13, ↓vO_13, ↓rD_13, ↓rO_13, ↓kD_13, ↓kO_13, ↓vD_14, ↓vO_14, ↓rD_14, ↓rO_14, ↓kD_14, ↓kO_14, ↓vD_15, ↓vO_15, ↓rD_15, ↓rO_15, ↓kD_15, ↓kO_15]
    refine Ok.loopI _ ⟨_, _, rfl⟩ ?_
    rintro v _ hv ⟨st, s4, rfl⟩
    have hi : ∃ j, v = .int j := by
      have h1 := List.mem_of_mem_take hv
      have h2 := List.mem_of_mem_drop h1
      obtain ⟨j, _, rfl⟩ := List.mem_map.mp h2
      exact ⟨j, rfl⟩
    obtain ⟨j, rfl⟩ := hi
    simp (disch := first | omega | rfl) only [↓ok_d1, ↓ok_d2, ↓ok_d3, ↓ok_d4, ↓ok_d5, ↓ok_d6, ↓ok_d7, ↓ok_bind, ↓ok_ret, ↓ok_bad, ↓ok_mV, ↓ok_rdD, ↓ok_rdT, ↓ok_dtD, ↓ok_dtT, ↓ok_rds0, ↓ok_rdsC, ↓ok_dts0, ↓ok_dtsC, ↓ok_nil, ↓ok_cons, ↓ok_bin, ↓ok_cb, ↓ok_tup, ↓ok_lst, ↓ok_tru, ↓ok_truB, ↓ok_truI, ↓ok_truN, ↓ok_truL, ↓ok_truT, ↓ok_and, ↓ok_or, ↓ok_not, ↓ok_ifE, ↓ok_andV, ↓ok_orV, ↓ok_notV, ↓ok_neg, ↓ok_chain, ↓ok_seq, ↓ok_skip, ↓ok_retS, ↓ok_retN, ↓ok_bk, ↓ok_ct, ↓ok_ex1, ↓ok_if, ↓ok_set, ↓ok_setP, ↓ok_asg, ↓ok_gN, ↓ok_gsN, ↓ok_gsC, ↓ok_gT, ↓ok_gSb, ↓ok_par, ↓ok_put, ↓ok_get, ↓ok_run, ↓ok_call, ↓ok_callK, ↓ok_make, ↓ok_prop, ↓ok_for, ↓ok_items, ↓ok_rng1, ↓ok_rng2, ↓ok_comp, ↓ok_yes, ↓ok_compS0, ↓ok_compSC, wipeE, ↓ok_sl, ↓ok_noP, ↓ok_pt, ↓ok_slL, ↓ok_slT, ↓ok_rep, ↓ok_app, ↓ok_oSub, ↓ok_oMul, ↓ok_oDiv, ↓ok_oMod, ↓ok_oPow, ↓ok_oLt, ↓ok_oLe, ↓ok_oGt, ↓ok_oGe, ↓ok_oAdd, ↓ok_oAddL, ↓ok_oAddI, ↓ok_oEqI, ↓ok_oEqL, ↓ok_oEqT, ↓ok_oEqB, ↓ok_oEqN, ↓ok_oEqS, ↓ok_oNeI, ↓ok_oNeL, ↓ok_oNeT, ↓ok_oNeB, ↓ok_oNeN, ↓ok_oNeS, ↓ok_oIs, ↓ok_oIsN, ↓ix_0, ↓ix_1, ↓ix_2, ↓ix_3, ↓ix_4, ↓it_0, ↓it_1, ↓it_2, ↓it_3, ixn_0, ixn_1, ixn_2, ↓ok_len, ↓ok_lenT, ↓ok_absI, ↓ok_intI, ↓ok_max2, ↓ok_min2, ↓ok_max3, ↓ok_min3, ↓ok_dm, ↓ok_repr, argsE, backE, outE, Pu.M.dt, List.getElem?_cons_zero, List.getElem?_cons_succ, List.set_cons_zero, List.set_cons_succ, List.take_succ_cons, List.take_zero, List.replicate_zero, List.replicate_succ, List.append_nil, List.nil_append, List.cons_append, List.length_cons, List.length_nil, Nat.sub_self, Nat.reduceSub, Nat.reduceAdd, Nat.reduceLeDiff, decide_true, decide_false, reduceCtorEq, noBor, setsE, slotOf, setsS, putFs, putVs, lookV, sel, isNon, Bool.not_true, Bool.not_false, Bool.not_eq_true, decide_eq_true_eq, decide_eq_false_iff_not, Bool.true_eq_false, Bool.false_eq_true, false_implies, true_implies, and_true, true_and, not_true_eq_false, not_false_eq_true, and_self, implies_true, or_false, false_or, List.flatten_cons, List.flatten_nil, true_or, or_true, Int.sub_zero, eq_self, veq_int, veq_str, cMod, cDiv, cPow, cMul_r, cMul_l, strq, String.reduceEq, sz, szl, dOk_int, dOk_bl, dOk_non, if_true, if_false, Int.reducePow, Int.reduceToNat, Int.reduceMul, Int.reduceAdd, Int.reduceSub, Int.reduceNeg, Int.reduceLT, Int.reduceLE, Int.reduceGT, Int.reduceEq, gt_iff_lt, ge_iff_le, Nat.reducePow, Nat.reduceMul, Nat.reduceLT, Int.cast_ofNat_Int, false_and, and_false, Bool.and_true, Bool.true_and, Bool.and_false, Bool.false_and, Bool.or_true, Bool.true_or, Bool.or_false, Bool.false_or, ↓vD_0, ↓vO_0, ↓rD_0, ↓rO_0, ↓kD_0, ↓kO_0, ↓vD_1, ↓vO_1, ↓rD_1, ↓rO_1, ↓kD_1, ↓kO_1, ↓vD_2, ↓vO_2, ↓rD_2, ↓rO_2, ↓kD_2, ↓kO_2, ↓vD_3, ↓vO_3, ↓rD_3, ↓rO_3, ↓kD_3, ↓kO_3, ↓vD_4, ↓vO_4, ↓rD_4, ↓rO_4, ↓kD_4, ↓kO_4, ↓vD_5, ↓vO_5, ↓rD_5, ↓rO_5, ↓kD_5, ↓kO_5, ↓vD_6, ↓vO_6, ↓rD_6, ↓rO_6, ↓kD_6, ↓kO_6, ↓vD_7, ↓vO_7, ↓rD_7, ↓rO_7, ↓kD_7, ↓kO_7, ↓vD_8, ↓vO_8, ↓rD_8, ↓rO_8, ↓kD_8, ↓kO_8, ↓vD_9, ↓vO_9, ↓rD_9, ↓rO_9, ↓kD_9, ↓kO_9, ↓vD_10, ↓vO_10, ↓rD_10, ↓rO_10, ↓kD_10, ↓kO_10, ↓vD_11, ↓vO_11, ↓rD_11, ↓rO_11, ↓kD_11, ↓kO_11, ↓vD_12, ↓vO_12, ↓rD_12, ↓rO_12, ↓kD_12, ↓kO_12, ↓vD_13, ↓vO_13, ↓rD_13, ↓rO_13, ↓kD_13, ↓kO_13, ↓vD_14, ↓vO_14, ↓rD_14, ↓rO_14, ↓kD_14, ↓kO_14, ↓vD_15, ↓vO_15, ↓rD_15, ↓rO_15, ↓kD_15, ↓kO_15]
    exact ⟨_, _, rfl⟩
  rintro _ ⟨st, s4, rfl⟩
  simp (disch := first | omega | rfl) only [↓ok_d1, ↓ok_d2, ↓ok_d3, ↓ok_d4, ↓ok_d5, ↓ok_d6, ↓ok_d7, ↓ok_bind, ↓ok_ret, ↓ok_bad, ↓ok_mV, ↓ok_rdD, ↓ok_rdT, ↓ok_dtD, ↓ok_dtT, ↓ok_rds0, ↓ok_rdsC, ↓ok_dts0, ↓ok_dtsC, ↓ok_nil, ↓ok_cons, ↓ok_bin, ↓ok_cb, ↓ok_tup, ↓ok_lst, ↓ok_tru, ↓ok_truB, ↓ok_truI, ↓ok_truN, ↓ok_truL, ↓ok_truT, ↓ok_and, ↓ok_or, ↓ok_not, ↓ok_ifE, ↓ok_andV, ↓ok_orV, ↓ok_notV, ↓ok_neg, ↓ok_chain, ↓ok_seq, ↓ok_skip, ↓ok_retS, ↓ok_retN, ↓ok_bk, ↓ok_ct, ↓ok_ex1, ↓ok_if, ↓ok_set, ↓ok_setP, ↓ok_asg, ↓ok_gN, ↓ok_gsN, ↓ok_gsC, ↓ok_gT, ↓ok_gSb, ↓ok_par, ↓ok_put, ↓ok_get, ↓ok_run, ↓ok_call, ↓ok_callK, ↓ok_make, ↓ok_prop, ↓ok_for, ↓ok_items, ↓ok_rng1, ↓ok_rng2, ↓ok_comp, ↓ok_yes, ↓ok_compS0, ↓ok_compSC, wipeE, ↓ok_sl, ↓ok_noP, ↓ok_pt, ↓ok_slL, ↓ok_slT, ↓ok_rep, ↓ok_app, ↓ok_oSub, ↓ok_oMul, ↓ok_oDiv, ↓ok_oMod, ↓ok_oPow, ↓ok_oLt, ↓ok_oLe, ↓ok_oGt, ↓ok_oGe, ↓ok_oAdd, ↓ok_oAddL, ↓ok_oAddI, ↓ok_oEqI, ↓ok_oEqL, ↓ok_oEqT, ↓ok_oEqB, ↓ok_oEqN, ↓ok_oEqS, ↓ok_oNeI, ↓ok_oNeL, ↓ok_oNeT, ↓ok_oNeB, ↓ok_oNeN, ↓ok_oNeS, ↓ok_oIs, ↓ok_oIsN, ↓ix_0, ↓ix_1, ↓ix_2, ↓ix_3, ↓ix_4, ↓it_0, ↓it_1, ↓it_2, ↓it_3, ixn_0, ixn_1, ixn_2, ↓ok_len, ↓ok_lenT, ↓ok_absI, ↓ok_intI, ↓ok_max2, ↓ok_min2, ↓ok_max3, ↓ok_min3, ↓ok_dm, ↓ok_repr, argsE, backE, outE, Pu.M.dt, List.getElem?_cons_zero, List.getElem?_cons_succ, List.set_cons_zero, List.set_cons_succ, List.take_succ_cons, List.take_zero, List.replicate_zero, List.replicate_succ, List.append_nil, List.nil_append, List.cons_append, List.length_cons, List.length_nil, Nat.sub_self, Nat.reduceSub, Nat.reduceAdd, Nat.reduceLeDiff, decide_true, decide_false, reduceCtorEq, noBor, setsE, slotOf, setsS, putFs, putVs, lookV, sel, isNon, Bool.not_true, Bool.not_false, Bool.not_eq_true, decide_eq_true_eq, decide_eq_false_iff_not, Bool.true_eq_false, Bool.false_eq_true, false_implies, true_implies, and_true, true_and, not_true_eq_false, not_false_eq_true, and_self, implies_true, or_false, false_or, List.flatten_cons, List.flatten_nil, true_or, or_true, Int.sub_zero, eq_self, veq_int, veq_str, cMod, cDiv, cPow, cMul_r, cMul_l, strq, String.reduceEq, sz, szl, dOk_int, dOk_bl, dOk_non, if_true, if_false, Int.reducePow, Int.reduceToNat, Int.reduceMul, Int.reduceAdd, Int.reduceSub, Int.reduceNeg, Int.reduceLT, Int.reduceLE, Int.reduceGT, Int.reduceEq, gt_iff_lt, ge_iff_le, Nat.reducePow, Nat.reduceMul, Nat.reduceLT, Int.cast_ofNat_Int, false_and, and_false, Bool.and_true, Bool.true_and, Bool.and_false, Bool.false_and, Bool.or_true, Bool.true_or, Bool.or_false, Bool.false_or, ↓vD_0, ↓vO_0, ↓rD_0, ↓rO_0, ↓kD_0, ↓kO_0, ↓vD_1, ↓vO_1, ↓rD_1, ↓rO_1, ↓kD_1, ↓kO_1, ↓vD_2, ↓vO_2, ↓rD_2, ↓rO_2, ↓kD_2, ↓kO_2, ↓vD_3, ↓vO_3, ↓rD_3, ↓rO_3, ↓kD_3, ↓kO_3, ↓vD_4, ↓vO_4, ↓rD_4, ↓rO_4, ↓kD_4, ↓kO_4, ↓vD_5, ↓vO_5, ↓rD_5, ↓rO_5, ↓kD_5, ↓kO_5, ↓vD_6, ↓vO_6, ↓rD_6, ↓rO_6, ↓kD_6, ↓kO_6, ↓vD_7, ↓vO_7, ↓rD_7, ↓rO_7, ↓kD_7, ↓kO_7, ↓vD_8, ↓vO_8, ↓rD_8, ↓rO_8, ↓kD_8, ↓kO_8, ↓vD_9, ↓vO_9, ↓rD_9, ↓rO_9, ↓kD_9, ↓kO_9, ↓vD_10, ↓vO_10, ↓rD_10, ↓rO_10, ↓kD_10, ↓kO_10, ↓vD_11, ↓vO_11, ↓rD_11, ↓rO_11, ↓kD_11, ↓kO_11, ↓vD_12, ↓vO_12, ↓rD_12, ↓rO_12, ↓kD_12, ↓kO_12, ↓vD_13, ↓vO_13, ↓rD_13, ↓rO_13, ↓kD_13, ↓kO_13, ↓vD_14, ↓vO_14, ↓rD_14, ↓rO_14, ↓kD_14, ↓kO_14, ↓vD_15, ↓vO_15, ↓rD_15, ↓rO_15, ↓kD_15, ↓kO_15]
  exact ⟨fun q => ⟨_, _, _, rfl⟩, fun q => ⟨_, _, _, rfl⟩⟩
section
variable {Q : RV → Ev → Prop} {s l p : Int} {t : Str}
theorem r_mark' {g f p a : Int} (hg : 0 < g) (ht : inMenu t) : Ok den__law_mark [.dat (.lst [.int g, .str t, .int f, .int p]), .dat (.int a)] Q ↔ Q (.dat (.int (markV t g a))) [.un, .un] := by
  rw [r_mark hg, lmark_eq hg ht]
end
theorem dOk_is {is : List Int} : dOk (.lst (is.map .int)) = true ↔ True := by
  have h1 : isDs (is.map .int) = true := by induction is with
    | nil => rfl
    | cons i is ih => simp [isDs, isD, ih]
  have h2 : deps (is.map .int) = 0 := by induction is with
    | nil => rfl
    | cons i is ih => simp only [List.map_cons, deps, dep, ih (by simpa [isDs, isD] using h1)]; rfl
  simp [dOk, isD, dep, h1, h2]
theorem ints_is : ∀ {is : List Int}, ints? (is.map .int) = some is
  | [] => rfl
  | i :: is => by simp only [List.map_cons, ints?, ints_is (is := is)]
section
variable {Q : RV → Ev → Prop} {s l p : Int} {t : Str}
theorem mark_mul {t : Str} {g a : Int} (hg : 0 < g) (ht : inMenu t) : markV t g a % g = 0 := by
  rw [lmark_eq hg ht]; exact lmark_mul hg
theorem mark_rng {t : Str} {g x : Int} (hg : 0 < g) (ht : inMenu t) : low t g ≤ markV t g x - x ∧ markV t g x - x ≤ high t g := by
  have h := (mark_iff (x := x) hg ht (mark_mul (a := x) hg ht)).mp rfl
  omega
theorem n1 : inMenu "next" := .inl rfl
theorem back_t {v : Val} {p e : Ev} : backE [true] [.tmp v] p e = e := by cases p <;> rfl
end
end Pu.Q
set_option Elab.async false
set_option linter.all false
set_option maxRecDepth 100000
set_option maxHeartbeats 4000000
namespace Pu.Q
open PySem PySem.Spec PyProof.Rows L2 Pu
theorem ok_det {α : Type} {m : M α} {e e' : Ev} {a : α} {Q : α → Ev → Prop} (h : Ok m e fun r x => r = a ∧ x = e') : Ok m e Q ↔ Q a e' := by
  obtain ⟨r, x, h1, rfl, rfl⟩ := ok_ex.mp h
  constructor
  · intro q
    obtain ⟨r', x', h2, q⟩ := ok_ex.mp q
    rw [h1] at h2; cases h2
    exact q
  · intro q
    exact ok_ex.mpr ⟨_, _, h1, q⟩
theorem Ok.via {α : Type} {m : M α} {e : Ev} {Q : α → Ev → Prop} (h : ∀ Q' : α → Ev → Prop, (∀ a e', Q a e' → Q' a e') → Ok m e Q') : Ok m e Q := h Q fun _ _ q => q
theorem ixT_of {xs : List Val} {i : Int} {v : Val} {e : Ev} {Q : RV → Ev → Prop} (h : atI xs i = some v) : Ok (oIx (.tup xs) (.int i)) e Q ↔ Q (.dat v) e := by
  rw [ok_ixT, h]; simp
theorem ok_enum {m : M RV} {e : Ev} {Q : List Val → Ev → Prop} : Ok (mEnum m) e Q ↔ Ok m e fun r e1 => Ok (M.dt r) e1 fun v e2 => match seqV v with
    | some xs => Q (enumV 0 xs) e2
    | none => False := by
  unfold mEnum
  rw [ok_bind]
  have : ∀ {α : Type} {m : M α} {e : Ev} {P R : α → Ev → Prop}, (∀ a e, P a e ↔ R a e) → (Ok m e P ↔ Ok m e R) := fun h => ⟨fun q => Ok.mono q fun a e' => (h a e').mp, fun q => Ok.mono q fun a e' => (h a e').mpr⟩
  refine this fun r e1 => ?_
  rw [ok_bind]
  refine this fun v e2 => ?_
  cases seqV v with
  | none => exact ok_bad
  | some xs => exact ok_ret
theorem seqV_T {xs : List Val} : seqV (.tup xs) = some xs := rfl
end Pu.Q
set_option Elab.async false
set_option linter.all false
set_option maxRecDepth 100000
set_option maxHeartbeats 4000000
namespace Pu.Q
open PySem PySem.Spec PyProof.Rows L2 Pu
mutual
def nb : Val → Bool
  | .non => true
  | .int _ => true
  | .str _ => true
  | .tup xs => nbs xs
  | .lst xs => nbs xs
  | _ => false
def nbs : List Val → Bool
  | [] => true
  | x :: xs => nb x && nbs xs
end
mutual
theorem veq_nb : ∀ x y : Val, nb x = true → nb y = true → (veq x y = true ↔ x = y)
  | .non, y, _, h => by cases y <;> simp_all [veq, toP, PyData.eqv, nb]
  | .int _, y, _, h => by cases y <;> simp_all [veq, toP, PyData.eqv, nb]
  | .str _, y, _, h => by cases y <;> simp_all [veq, toP, PyData.eqv, nb]
  | .tup xs, y, g, h => by
    cases y with
    | tup ys =>
      have := veqs_nb xs ys (by simpa [nb] using g) (by simpa [nb] using h)
      simpa [veq, toP, PyData.eqv] using this
    | _ => simp_all [veq, toP, PyData.eqv, nb]
  | .lst xs, y, g, h => by
    cases y with
    | lst ys =>
      have := veqs_nb xs ys (by simpa [nb] using g) (by simpa [nb] using h)
      simpa [veq, toP, PyData.eqv] using this
    | _ => simp_all [veq, toP, PyData.eqv, nb]
  | .bl _, _, g, _ => by simp [nb] at g
  | .ty _, _, g, _ => by simp [nb] at g
  | .glo _, _, g, _ => by simp [nb] at g
  | .obj _ _ _, _, g, _ => by simp [nb] at g
theorem veqs_nb : ∀ xs ys : List Val, nbs xs = true → nbs ys = true → (PyData.eqvAll (toPs xs) (toPs ys) = true ↔ xs = ys)
  | [], [], _, _ => by simp [toPs, PyData.eqvAll]
  | [], y :: ys, _, _ => by simp [toPs, PyData.eqvAll]
  | x :: xs, [], _, _ => by simp [toPs, PyData.eqvAll]
  | x :: xs, y :: ys, g, h => by
    rw [nbs, Bool.and_eq_true] at g h
    have h1 := veq_nb x y g.1 h.1
    have h2 := veqs_nb xs ys g.2 h.2
    unfold veq at h1
    simp [toPs, PyData.eqvAll, h1, h2]
end
theorem veq_no {x y : Val} (hx : nb x = true) (hy : nb y = true) (h : x ≠ y) : veq x y = false := by
  cases q : veq x y
  · rfl
  · exact absurd ((veq_nb x y hx hy).mp q) h
theorem veq_yes {x : Val} (hx : nb x = true) : veq x x = true := (veq_nb x x hx hx).mpr rfl
section
variable {Q : RV → Ev → Prop} {s l p : Int} {t : Str}
theorem i_tup {xs : List Val} : fIsi isT [.tup xs, .ty "tuple"] = mV (.bl true) := rfl
theorem r_is_betweenB {v lo hi : Int} : Ok den_is_between [.dat (.int v), .dat (.int lo), .dat (.int hi)] Q ↔ Q (.dat (.bl (decide (lo ≤ v ∧ v ≤ hi)))) [.un, .un, .un] := by
  refine ok_det ?_
  simp (disch := first | omega | rfl) only [↓ok_d1, ↓ok_d2, ↓ok_d3, ↓ok_d4, ↓ok_d5, ↓ok_d6, ↓ok_d7, ↓ok_bind, ↓ok_ret, ↓ok_bad, ↓ok_mV, ↓ok_rdD, ↓ok_rdT, ↓ok_dtD, ↓ok_dtT, ↓ok_rds0, ↓ok_rdsC, ↓ok_dts0, ↓ok_dtsC, ↓ok_nil, ↓ok_cons, ↓ok_bin, ↓ok_cb, ↓ok_tup, ↓ok_lst, ↓ok_tru, ↓ok_truB, ↓ok_truI, ↓ok_truN, ↓ok_truL, ↓ok_truT, ↓ok_and, ↓ok_or, ↓ok_not, ↓ok_ifE, ↓ok_andV, ↓ok_orV, ↓ok_notV, ↓ok_neg, ↓ok_chain, ↓ok_seq, ↓ok_skip, ↓ok_retS, ↓ok_retN, ↓ok_bk, ↓ok_ct, ↓ok_ex1, ↓ok_if, ↓ok_set, ↓ok_setP, ↓ok_asg, ↓ok_gN, ↓ok_gsN, ↓ok_gsC, ↓ok_gT, ↓ok_gSb, ↓ok_par, ↓ok_put, ↓ok_get, ↓ok_run, ↓ok_call, ↓ok_callK, ↓ok_make, ↓ok_prop, ↓ok_for, ↓ok_items, ↓ok_rng1, ↓ok_rng2, ↓ok_comp, ↓ok_yes, ↓ok_compS0, ↓ok_compSC, wipeE, ↓ok_sl, ↓ok_noP, ↓ok_pt, ↓ok_slL, ↓ok_slT, ↓ok_rep, ↓ok_app, ↓ok_oSub, ↓ok_oMul, ↓ok_oDiv, ↓ok_oMod, ↓ok_oPow, ↓ok_oLt, ↓ok_oLe, ↓ok_oGt, ↓ok_oGe, ↓ok_oAdd, ↓ok_oAddL, ↓ok_oAddI, ↓ok_oEqI, ↓ok_oEqL, ↓ok_oEqT, ↓ok_oEqB, ↓ok_oEqN, ↓ok_oEqS, ↓ok_oNeI, ↓ok_oNeL, ↓ok_oNeT, ↓ok_oNeB, ↓ok_oNeN, ↓ok_oNeS, ↓ok_oIs, ↓ok_oIsN, ↓ix_0, ↓ix_1, ↓ix_2, ↓ix_3, ↓ix_4, ↓it_0, ↓it_1, ↓it_2, ↓it_3, ixn_0, ixn_1, ixn_2, ↓ok_len, ↓ok_lenT, ↓ok_absI, ↓ok_intI, ↓ok_max2, ↓ok_min2, ↓ok_max3, ↓ok_min3, ↓ok_dm, ↓ok_repr, argsE, backE, outE, Pu.M.dt, List.getElem?_cons_zero, List.getElem?_cons_succ, List.set_cons_zero, List.set_cons_succ, List.take_succ_cons, List.take_zero, List.replicate_zero, List.replicate_succ, List.append_nil, List.nil_append, List.cons_append, List.length_cons, List.length_nil, Nat.sub_self, Nat.reduceSub, Nat.reduceAdd, Nat.reduceLeDiff, decide_true, decide_false, reduceCtorEq, noBor, setsE, slotOf, setsS, putFs, putVs, lookV, sel, isNon, Bool.not_true, Bool.not_false, Bool.not_eq_true, decide_eq_true_eq, decide_eq_false_iff_not, Bool.true_eq_false, Bool.false_eq_true, false_implies, true_implies, and_true, true_and, not_true_eq_false, not_false_eq_true, and_self, implies_true, or_false, false_or, List.flatten_cons, List.flatten_nil, true_or, or_true, Int.sub_zero, eq_self, veq_int, veq_str, cMod, cDiv, cPow, cMul_r, cMul_l, strq, String.reduceEq, sz, szl, dOk_int, dOk_bl, dOk_non, if_true, if_false, Int.reducePow, Int.reduceToNat, Int.reduceMul, Int.reduceAdd, Int.reduceSub, Int.reduceNeg, Int.reduceLT, Int.reduceLE, Int.reduceGT, Int.reduceEq, gt_iff_lt, ge_iff_le, Nat.reducePow, Nat.reduceMul, Nat.reduceLT, Int.cast_ofNat_Int, false_and, and_false, Bool.and_true, Bool.true_and, Bool.and_false, Bool.false_and, Bool.or_true, Bool.true_or, Bool.or_false, Bool.false_or, ↓vD_0, ↓vO_0, ↓rD_0, ↓rO_0, ↓kD_0, ↓kO_0, ↓vD_1, ↓vO_1, ↓rD_1, ↓rO_1, ↓kD_1, ↓kO_1, ↓vD_2, ↓vO_2, ↓rD_2, ↓rO_2, ↓kD_2, ↓kO_2, ↓vD_3, ↓vO_3, ↓rD_3, ↓rO_3, ↓kD_3, ↓kO_3, ↓vD_4, ↓vO_4, ↓rD_4, ↓rO_4, ↓kD_4, ↓kO_4, ↓vD_5, ↓vO_5, ↓rD_5, ↓rO_5, ↓kD_5, ↓kO_5, ↓vD_6, ↓vO_6, ↓rD_6, ↓rO_6, ↓kD_6, ↓kO_6, ↓vD_7, ↓vO_7, ↓rD_7, ↓rO_7, ↓kD_7, ↓kO_7, ↓vD_8, ↓vO_8, ↓rD_8, ↓rO_8, ↓kD_8, ↓kO_8, ↓vD_9, ↓vO_9, ↓rD_9, ↓rO_9, ↓kD_9, ↓kO_9, ↓vD_10, ↓vO_10, ↓rD_10, ↓rO_10, ↓kD_10, ↓kO_10, ↓vD_11, ↓vO_11, ↓rD_11, ↓rO_11, ↓kD_11, ↓kO_11, ↓vD_12, ↓vO_12, ↓rD_12, ↓rO_12, ↓kD_12, ↓kO_12, ↓vD_13, ↓vO_13, ↓rD_13, ↓rO_13, ↓kD_13, ↓kO_13, ↓vD_14, ↓vO_14, ↓rD_14, ↓rO_14, ↓kD_14, ↓kO_14, ↓vD_15, ↓vO_15, ↓rD_15, ↓rO_15, ↓kD_15, ↓kO_15, ↓den_is_between, ↓b_is_between, ↓r_is_integer]
  by_cases h1 : lo ≤ v
  · simp (disch := first | omega | rfl) only [↓ok_d1, ↓ok_d2, ↓ok_d3, ↓ok_d4, ↓ok_d5, ↓ok_d6, ↓ok_d7, ↓ok_bind, ↓ok_ret, ↓ok_bad, ↓ok_mV, ↓ok_rdD, ↓ok_rdT, ↓ok_dtD, ↓ok_dtT, ↓ok_rds0, ↓ok_rdsC, ↓ok_dts0, ↓ok_dtsC, ↓ok_nil, ↓ok_cons, ↓ok_bin, ↓ok_cb, ↓ok_tup, ↓ok_lst, ↓ok_tru, ↓ok_truB, ↓ok_truI, ↓ok_truN, ↓ok_truL, ↓ok_truT, ↓ok_and, ↓ok_or, ↓ok_not, ↓ok_ifE, ↓ok_andV, ↓ok_orV, ↓ok_notV, ↓ok_neg, ↓ok_chain, ↓ok_seq, ↓ok_skip, ↓ok_retS, ↓ok_retN, ↓ok_bk, ↓ok_ct, ↓ok_ex1, ↓ok_if, ↓ok_set, ↓ok_setP, ↓ok_asg, ↓ok_gN, ↓ok_gsN, ↓ok_gsC, ↓ok_gT, ↓ok_gSb, ↓ok_par, ↓ok_put, ↓ok_get, ↓ok_run, ↓ok_call, ↓ok_callK, ↓ok_make, ↓ok_prop, ↓ok_for, ↓ok_items, ↓ok_rng1, ↓ok_rng2, ↓ok_comp, ↓ok_yes, ↓ok_compS0, ↓ok_compSC, wipeE, ↓ok_sl, ↓ok_noP, ↓ok_pt, ↓ok_slL, ↓ok_slT, ↓ok_rep, ↓ok_app, ↓ok_oSub, ↓ok_oMul, ↓ok_oDiv, ↓ok_oMod, ↓ok_oPow, ↓ok_oLt, ↓ok_oLe, ↓ok_oGt, ↓ok_oGe, ↓ok_oAdd, ↓ok_oAddL, ↓ok_oAddI, ↓ok_oEqI, ↓ok_oEqL, ↓ok_oEqT, ↓ok_oEqB, ↓ok_oEqN, ↓ok_oEqS, ↓ok_oNeI, ↓ok_oNeL, ↓ok_oNeT, ↓ok_oNeB, ↓ok_oNeN, ↓ok_oNeS, ↓ok_oIs, ↓ok_oIsN, ↓ix_0, ↓ix_1, ↓ix_2, ↓ix_3, ↓ix_4, ↓it_0, ↓it_1, ↓it_2, ↓it_3, ixn_0, ixn_1, ixn_2, ↓ok_len, ↓ok_lenT, ↓ok_absI, ↓ok_intI, ↓ok_max2, ↓ok_min2, ↓ok_max3, ↓ok_min3, ↓ok_dm, ↓ok_repr, argsE, backE, outE, Pu.M.dt, List.getElem?_cons_zero, List.getElem?_cons_succ, List.set_cons_zero, List.set_cons_succ, List.take_succ_cons, List.take_zero, List.replicate_zero, List.replicate_succ, List.append_nil, List.nil_append, List.cons_append, List.length_cons, List.length_nil, Nat.sub_self, Nat.reduceSub, Nat.reduceAdd, Nat.reduceLeDiff, decide_true, decide_false, reduceCtorEq, noBor, setsE, slotOf, setsS, putFs, putVs, lookV, sel, isNon, Bool.not_true, Bool.not_false, Bool.not_eq_true, decide_eq_true_eq, decide_eq_false_iff_not, Bool.true_eq_false, Bool.false_eq_true, false_implies, true_implies, and_true, true_and, not_true_eq_false, not_false_eq_true, and_self, implies_true, or_false, false_or, List.flatten_cons, List.flatten_nil, true_or, or_true, Int.sub_zero, eq_self, veq_int, veq_str, cMod, cDiv, cPow, cMul_r, cMul_l, strq, String.reduceEq, sz, szl, dOk_int, dOk_bl, dOk_non, if_true, if_false, Int.reducePow, Int.reduceToNat, Int.reduceMul, Int.reduceAdd, Int.reduceSub, Int.reduceNeg, Int.reduceLT, Int.reduceLE, Int.reduceGT, Int.reduceEq, gt_iff_lt, ge_iff_le, Nat.reducePow, Nat.reduceMul, Nat.reduceLT, Int.cast_ofNat_Int, false_and, and_false, Bool.and_true, Bool.true_and, Bool.and_false, Bool.false_and, Bool.or_true, Bool.true_or, Bool.or_false, Bool.false_or, ↓vD_0, ↓vO_0, ↓rD_0, ↓rO_0, ↓kD_0, ↓kO_0, ↓vD_1, ↓vO_1, ↓rD_1, ↓rO_1, ↓kD_1, ↓kO_1, ↓vD_2, ↓vO_2, ↓rD_2, ↓rO_2, ↓kD_2, ↓kO_2, ↓vD_3, ↓vO_3, ↓rD_3, ↓rO_3, ↓kD_3, ↓kO_3, ↓vD_4, ↓vO_4, ↓rD_4, ↓rO_4, ↓kD_4, ↓kO_4, ↓vD_5, ↓vO_5, ↓rD_5, ↓rO_5, ↓kD_5, ↓kO_5, ↓vD_6, ↓vO_6, ↓rD_6, ↓rO_6, ↓kD_6, ↓kO_6, ↓vD_7, ↓vO_7, ↓rD_7, ↓rO_7, ↓kD_7, ↓kO_7, ↓vD_8, ↓vO_8, ↓rD_8, ↓rO_8, ↓kD_8, ↓kO_8, ↓vD_9, ↓vO_9, ↓rD_9, ↓rO_9, ↓kD_9, ↓kO_9, ↓vD_10, ↓vO_10, ↓rD_10, ↓rO_10, ↓kD_10, ↓kO_10, ↓vD_11, ↓vO_11, ↓rD_11, ↓rO_11, ↓kD_11, ↓kO_11, ↓vD_12, ↓vO_12, ↓rD_12, ↓rO_12, ↓kD_12, ↓kO_12, ↓vD_13, ↓vO_13, ↓rD_13, ↓rO_13, ↓kD_13, ↓kO_13, ↓vD_14, ↓vO_14, ↓rD_14, ↓rO_14, ↓kD_14, ↓kO_14, ↓vD_15, ↓vO_15, ↓rD_15, ↓rO_15, ↓kD_15, ↓kO_15, ↓h1]
    try simp [h1]
  · simp (disch := first | omega | rfl) only [↓ok_d1, ↓ok_d2, ↓ok_d3, ↓ok_d4, ↓ok_d5, ↓ok_d6, ↓ok_d7, ↓ok_bind, ↓ok_ret, ↓ok_bad, ↓ok_mV, ↓ok_rdD, ↓ok_rdT, ↓ok_dtD, ↓ok_dtT, ↓ok_rds0, ↓ok_rdsC, ↓ok_dts0, ↓ok_dtsC, ↓ok_nil, ↓ok_cons, ↓ok_bin, ↓ok_cb, ↓ok_tup, ↓ok_lst, ↓ok_tru, ↓ok_truB, ↓ok_truI, ↓ok_truN, ↓ok_truL, ↓ok_truT, ↓ok_and, ↓ok_or, ↓ok_not, ↓ok_ifE, ↓ok_andV, ↓ok_orV, ↓ok_notV, ↓ok_neg, ↓ok_chain, ↓ok_seq, ↓ok_skip, ↓ok_retS, ↓ok_retN, ↓ok_bk, ↓ok_ct, ↓ok_ex1, ↓ok_if, ↓ok_set, ↓ok_setP, ↓ok_asg, ↓ok_gN, ↓ok_gsN, ↓ok_gsC, ↓ok_gT, ↓ok_gSb, ↓ok_par, ↓ok_put, ↓ok_get, ↓ok_run, ↓ok_call, ↓ok_callK, ↓ok_make, ↓ok_prop, ↓ok_for, ↓ok_items, ↓ok_rng1, ↓ok_rng2, ↓ok_comp, ↓ok_yes, ↓ok_compS0, ↓ok_compSC, wipeE, ↓ok_sl, ↓ok_noP, ↓ok_pt, ↓ok_slL, ↓ok_slT, ↓ok_rep, ↓ok_app, ↓ok_oSub, ↓ok_oMul, ↓ok_oDiv, ↓ok_oMod, ↓ok_oPow, ↓ok_oLt, ↓ok_oLe, ↓ok_oGt, ↓ok_oGe, ↓ok_oAdd, ↓ok_oAddL, ↓ok_oAddI, ↓ok_oEqI, ↓ok_oEqL, ↓ok_oEqT, ↓ok_oEqB, ↓ok_oEqN, ↓ok_oEqS, ↓ok_oNeI, ↓ok_oNeL, ↓ok_oNeT, ↓ok_oNeB, ↓ok_oNeN, ↓ok_oNeS, ↓ok_oIs, ↓ok_oIsN, ↓ix_0, ↓ix_1, ↓ix_2, ↓ix_3, ↓ix_4, ↓it_0, ↓it_1, ↓it_2, ↓it_3, ixn_0, ixn_1, ixn_2, ↓ok_len, ↓ok_lenT, ↓ok_absI, ↓ok_intI, ↓ok_max2, ↓ok_min2, ↓ok_max3, ↓ok_min3, ↓ok_dm, ↓ok_repr, argsE, backE, outE, Pu.M.dt, List.getElem?_cons_zero, List.getElem?_cons_succ, List.set_cons_zero, List.set_cons_succ, List.take_succ_cons, List.take_zero, List.replicate_zero, List.replicate_succ, List.append_nil, List.nil_append, List.cons_append, List.length_cons, List.length_nil, Nat.sub_self, Nat.reduceSub, Nat.reduceAdd, Nat.reduceLeDiff, decide_true, decide_false, reduceCtorEq, noBor, setsE, slotOf, setsS, putFs, putVs, lookV, sel, isNon, Bool.not_true, Bool.not_false, Bool.not_eq_true, decide_eq_true_eq, decide_eq_false_iff_not, Bool.true_eq_false, Bool.false_eq_true, false_implies, true_implies, and_true, true_and, not_true_eq_false, not_false_eq_true, and_self, implies_true, or_false, false_or, List.flatten_cons, List.flatten_nil, true_or, or_true, Int.sub_zero, eq_self, veq_int, veq_str, cMod, cDiv, cPow, cMul_r, cMul_l, strq, String.reduceEq, sz, szl, dOk_int, dOk_bl, dOk_non, if_true, if_false, Int.reducePow, Int.reduceToNat, Int.reduceMul, Int.reduceAdd, Int.reduceSub, Int.reduceNeg, Int.reduceLT, Int.reduceLE, Int.reduceGT, Int.reduceEq, gt_iff_lt, ge_iff_le, Nat.reducePow, Nat.reduceMul, Nat.reduceLT, Int.cast_ofNat_Int, false_and, and_false, Bool.and_true, Bool.true_and, Bool.and_false, Bool.false_and, Bool.or_true, Bool.true_or, Bool.or_false, Bool.false_or, ↓vD_0, ↓vO_0, ↓rD_0, ↓rO_0, ↓kD_0, ↓kO_0, ↓vD_1, ↓vO_1, ↓rD_1, ↓rO_1, ↓kD_1, ↓kO_1, ↓vD_2, ↓vO_2, ↓rD_2, ↓rO_2, ↓kD_2, ↓kO_2, ↓vD_3, ↓vO_3, ↓rD_3, ↓rO_3, ↓kD_3, ↓kO_3, ↓vD_4, ↓vO_4, ↓rD_4, ↓rO_4, ↓kD_4, ↓kO_4, ↓vD_5, ↓vO_5, ↓rD_5, ↓rO_5, ↓kD_5, ↓kO_5, ↓vD_6, ↓vO_6, ↓rD_6, ↓rO_6, ↓kD_6, ↓kO_6, ↓vD_7, ↓vO_7, ↓rD_7, ↓rO_7, ↓kD_7, ↓kO_7, ↓vD_8, ↓vO_8, ↓rD_8, ↓rO_8, ↓kD_8, ↓kO_8, ↓vD_9, ↓vO_9, ↓rD_9, ↓rO_9, ↓kD_9, ↓kO_9, ↓vD_10, ↓vO_10, ↓rD_10, ↓rO_10, ↓kD_10, ↓kO_10, ↓vD_11, ↓vO_11, ↓rD_11, ↓rO_11, ↓kD_11, ↓kO_11, ↓vD_12, ↓vO_12, ↓rD_12, ↓rO_12, ↓kD_12, ↓kO_12, ↓vD_13, ↓vO_13, ↓rD_13, ↓rO_13, ↓kD_13, ↓kO_13, ↓vD_14, ↓vO_14, ↓rD_14, ↓rO_14, ↓kD_14, ↓kO_14, ↓vD_15, ↓vO_15, ↓rD_15, ↓rO_15, ↓kD_15, ↓kO_15, ↓h1]
    try simp [h1]
end
theorem dOk_nil : dOk (.tup []) = true := rfl
end Pu.Q
set_option Elab.async false
set_option linter.all false
set_option maxRecDepth 100000
set_option maxHeartbeats 4000000
namespace Pu.Q
open PySem PySem.Spec PyProof.Rows L2 Pu
theorem Ok.compG {ws : List Nat} {mt : Val → M Unit} {mc : M Bool} {me : M RV} {e : Ev} (p : Val → Bool) (g : Val → Val) : ∀ {vs acc : List Val}, acc.length + vs.length ≤ sizeLine →
    (∀ v ∈ vs, Ok (mt v) e fun _ e1 => Ok mc e1 fun b e2 => b = p v ∧ (p v = true → Ok me e2 fun x e3 => Ok (M.dt x) e3 fun w e4 => w = g v ∧ wipeE e4 ws = e) ∧ (p v = false → wipeE e2 ws = e)) →
    Ok (compS ws mt mc me vs acc) e fun r e' => r = acc ++ (vs.filter p).map g ∧ e' = e
  | [], acc, _, _ => by
    rw [ok_compS0]
    simp
  | v :: vs, acc, hl, st => by
    rw [List.length_cons] at hl
    rw [ok_compSC]
    refine Ok.mono (st v List.mem_cons_self) fun _ e1 h1 => Ok.mono h1 ?_
    rintro b e2 ⟨rfl, h2, h3⟩
    refine ⟨fun hb => Ok.mono (h2 hb) fun x e3 h4 => Ok.mono h4 ?_, fun hb => ?_⟩
    · rintro w e4 ⟨rfl, h5⟩
      refine ⟨by omega, ?_⟩
      rw [h5]
      refine Ok.mono (Ok.compG p g (by simp; omega) fun u hu => st u (List.mem_cons_of_mem _ hu)) ?_
      rintro r e' ⟨rfl, rfl⟩
      refine ⟨?_, rfl⟩
      rw [List.filter_cons, if_pos hb, List.map_cons, List.append_assoc]
      rfl
    · have hb' : p v = false := by simpa using hb
      rw [h3 hb']
      refine Ok.mono (Ok.compG p g (by omega) fun u hu => st u (List.mem_cons_of_mem _ hu)) ?_
      rintro r e' ⟨rfl, rfl⟩
      refine ⟨?_, rfl⟩
      rw [List.filter_cons, if_neg hb]
abbrev dV (day : Int) (ts : List Int) : Val := .obj "Rounds" ["parts"] [.tup [.int day, .tup (ts.map .int)]]
structure Times (day : Int) (ts : List Int) : Prop where
  day1 : 1 ≤ day
  dayM : day ≤ 1000000000000000000
  few : ts.length ≤ 12
  ris : ts.Pairwise (· < ·)
  low : ∀ t ∈ ts, 0 ≤ t
  high : ∀ t ∈ ts, t < day
theorem i_rou {fs : List Str} {vs : List Val} : fIsi isT [.obj "Rounds" fs vs, .glo "Rounds"] = mV (.bl true) := rfl
section
variable {Q : RV → Ev → Prop} {s l p day t0 : Int} {t : Str} {ts : List Int}
theorem nb_is {is : List Int} : nbs (is.map .int) = true := by induction is with
  | nil => rfl
  | cons i is ih => simp [nbs, nb, ih]
theorem dOkT_is {is : List Int} : dOk (.tup (is.map .int)) = true ↔ True := by
  have := dOk_is (is := is)
  simp only [dOk, isD, dep] at this ⊢
  exact this
theorem dOk_nilL : dOk (.lst []) = true := rfl
theorem veq_nilL : veq (.lst []) (.lst []) = true := veq_yes rfl
theorem ok_neIs {is : List Int} {e : Ev} (h : is ≠ []) : Ok (oEq (.tup (is.map .int)) (.tup [])) e Q ↔ Q (.dat (.bl false)) e := by
  rw [ok_oEqT, veq_no (x := .tup (is.map .int)) (by simp [nb, nb_is]) rfl (by simp [h])]
  simp [dOkT_is, dOk_nil]
theorem r_Rounds__day : Ok den_Rounds__day [.dat (dV day ts)] Q ↔ Q (.dat (.int day)) [.un] := by
  simp (disch := first | omega | rfl) only [↓ok_d1, ↓ok_d2, ↓ok_d3, ↓ok_d4, ↓ok_d5, ↓ok_d6, ↓ok_d7, ↓ok_bind, ↓ok_ret, ↓ok_bad, ↓ok_mV, ↓ok_rdD, ↓ok_rdT, ↓ok_dtD, ↓ok_dtT, ↓ok_rds0, ↓ok_rdsC, ↓ok_dts0, ↓ok_dtsC, ↓ok_nil, ↓ok_cons, ↓ok_bin, ↓ok_cb, ↓ok_tup, ↓ok_lst, ↓ok_tru, ↓ok_truB, ↓ok_truI, ↓ok_truN, ↓ok_truL, ↓ok_truT, ↓ok_and, ↓ok_or, ↓ok_not, ↓ok_ifE, ↓ok_andV, ↓ok_orV, ↓ok_notV, ↓ok_neg, ↓ok_chain, ↓ok_seq, ↓ok_skip, ↓ok_retS, ↓ok_retN, ↓ok_bk, ↓ok_ct, ↓ok_ex1, ↓ok_if, ↓ok_set, ↓ok_setP, ↓ok_asg, ↓ok_gN, ↓ok_gsN, ↓ok_gsC, ↓ok_gT, ↓ok_gSb, ↓ok_par, ↓ok_put, ↓ok_get, ↓ok_run, ↓ok_call, ↓ok_callK, ↓ok_make, ↓ok_prop, ↓ok_for, ↓ok_items, ↓ok_rng1, ↓ok_rng2, ↓ok_comp, ↓ok_yes, ↓ok_compS0, ↓ok_compSC, wipeE, ↓ok_sl, ↓ok_noP, ↓ok_pt, ↓ok_slL, ↓ok_slT, ↓ok_rep, ↓ok_app, ↓ok_oSub, ↓ok_oMul, ↓ok_oDiv, ↓ok_oMod, ↓ok_oPow, ↓ok_oLt, ↓ok_oLe, ↓ok_oGt, ↓ok_oGe, ↓ok_oAdd, ↓ok_oAddL, ↓ok_oAddI, ↓ok_oEqI, ↓ok_oEqL, ↓ok_oEqT, ↓ok_oEqB, ↓ok_oEqN, ↓ok_oEqS, ↓ok_oNeI, ↓ok_oNeL, ↓ok_oNeT, ↓ok_oNeB, ↓ok_oNeN, ↓ok_oNeS, ↓ok_oIs, ↓ok_oIsN, ↓ix_0, ↓ix_1, ↓ix_2, ↓ix_3, ↓ix_4, ↓it_0, ↓it_1, ↓it_2, ↓it_3, ixn_0, ixn_1, ixn_2, ↓ok_len, ↓ok_lenT, ↓ok_absI, ↓ok_intI, ↓ok_max2, ↓ok_min2, ↓ok_max3, ↓ok_min3, ↓ok_dm, ↓ok_repr, argsE, backE, outE, Pu.M.dt, List.getElem?_cons_zero, List.getElem?_cons_succ, List.set_cons_zero, List.set_cons_succ, List.take_succ_cons, List.take_zero, List.replicate_zero, List.replicate_succ, List.append_nil, List.nil_append, List.cons_append, List.length_cons, List.length_nil, Nat.sub_self, Nat.reduceSub, Nat.reduceAdd, Nat.reduceLeDiff, decide_true, decide_false, reduceCtorEq, noBor, setsE, slotOf, setsS, putFs, putVs, lookV, sel, isNon, Bool.not_true, Bool.not_false, Bool.not_eq_true, decide_eq_true_eq, decide_eq_false_iff_not, Bool.true_eq_false, Bool.false_eq_true, false_implies, true_implies, and_true, true_and, not_true_eq_false, not_false_eq_true, and_self, implies_true, or_false, false_or, List.flatten_cons, List.flatten_nil, true_or, or_true, Int.sub_zero, eq_self, veq_int, veq_str, cMod, cDiv, cPow, cMul_r, cMul_l, strq, String.reduceEq, sz, szl, dOk_int, dOk_bl, dOk_non, if_true, if_false, Int.reducePow, Int.reduceToNat, Int.reduceMul, Int.reduceAdd, Int.reduceSub, Int.reduceNeg, Int.reduceLT, Int.reduceLE, Int.reduceGT, Int.reduceEq, gt_iff_lt, ge_iff_le, Nat.reducePow, Nat.reduceMul, Nat.reduceLT, Int.cast_ofNat_Int, false_and, and_false, Bool.and_true, Bool.true_and, Bool.and_false, Bool.false_and, Bool.or_true, Bool.true_or, Bool.or_false, Bool.false_or, ↓vD_0, ↓vO_0, ↓rD_0, ↓rO_0, ↓kD_0, ↓kO_0, ↓vD_1, ↓vO_1, ↓rD_1, ↓rO_1, ↓kD_1, ↓kO_1, ↓vD_2, ↓vO_2, ↓rD_2, ↓rO_2, ↓kD_2, ↓kO_2, ↓vD_3, ↓vO_3, ↓rD_3, ↓rO_3, ↓kD_3, ↓kO_3, ↓vD_4, ↓vO_4, ↓rD_4, ↓rO_4, ↓kD_4, ↓kO_4, ↓vD_5, ↓vO_5, ↓rD_5, ↓rO_5, ↓kD_5, ↓kO_5, ↓vD_6, ↓vO_6, ↓rD_6, ↓rO_6, ↓kD_6, ↓kO_6, ↓vD_7, ↓vO_7, ↓rD_7, ↓rO_7, ↓kD_7, ↓kO_7, ↓vD_8, ↓vO_8, ↓rD_8, ↓rO_8, ↓kD_8, ↓kO_8, ↓vD_9, ↓vO_9, ↓rD_9, ↓rO_9, ↓kD_9, ↓kO_9, ↓vD_10, ↓vO_10, ↓rD_10, ↓rO_10, ↓kD_10, ↓kO_10, ↓vD_11, ↓vO_11, ↓rD_11, ↓rO_11, ↓kD_11, ↓kO_11, ↓vD_12, ↓vO_12, ↓rD_12, ↓rO_12, ↓kD_12, ↓kO_12, ↓vD_13, ↓vO_13, ↓rD_13, ↓rO_13, ↓kD_13, ↓kO_13, ↓vD_14, ↓vO_14, ↓rD_14, ↓rO_14, ↓kD_14, ↓kO_14, ↓vD_15, ↓vO_15, ↓rD_15, ↓rO_15, ↓kD_15, ↓kO_15, ↓den_Rounds__day, ↓b_Rounds__day]
theorem r_Rounds__times : Ok den_Rounds__times [.dat (dV day ts)] Q ↔ Q (.dat (.tup (ts.map .int))) [.un] := by
  simp (disch := first | omega | rfl) only [↓ok_d1, ↓ok_d2, ↓ok_d3, ↓ok_d4, ↓ok_d5, ↓ok_d6, ↓ok_d7, ↓ok_bind, ↓ok_ret, ↓ok_bad, ↓ok_mV, ↓ok_rdD, ↓ok_rdT, ↓ok_dtD, ↓ok_dtT, ↓ok_rds0, ↓ok_rdsC, ↓ok_dts0, ↓ok_dtsC, ↓ok_nil, ↓ok_cons, ↓ok_bin, ↓ok_cb, ↓ok_tup, ↓ok_lst, ↓ok_tru, ↓ok_truB, ↓ok_truI, ↓ok_truN, ↓ok_truL, ↓ok_truT, ↓ok_and, ↓ok_or, ↓ok_not, ↓ok_ifE, ↓ok_andV, ↓ok_orV, ↓ok_notV, ↓ok_neg, ↓ok_chain, ↓ok_seq, ↓ok_skip, ↓ok_retS, ↓ok_retN, ↓ok_bk, ↓ok_ct, ↓ok_ex1, ↓ok_if, ↓ok_set, ↓ok_setP, ↓ok_asg, ↓ok_gN, ↓ok_gsN, ↓ok_gsC, ↓ok_gT, ↓ok_gSb, ↓ok_par, ↓ok_put, ↓ok_get, ↓ok_run, ↓ok_call, ↓ok_callK, ↓ok_make, ↓ok_prop, ↓ok_for, ↓ok_items, ↓ok_rng1, ↓ok_rng2, ↓ok_comp, ↓ok_yes, ↓ok_compS0, ↓ok_compSC, wipeE, ↓ok_sl, ↓ok_noP, ↓ok_pt, ↓ok_slL, ↓ok_slT, ↓ok_rep, ↓ok_app, ↓ok_oSub, ↓ok_oMul, ↓ok_oDiv, ↓ok_oMod, ↓ok_oPow, ↓ok_oLt, ↓ok_oLe, ↓ok_oGt, ↓ok_oGe, ↓ok_oAdd, ↓ok_oAddL, ↓ok_oAddI, ↓ok_oEqI, ↓ok_oEqL, ↓ok_oEqT, ↓ok_oEqB, ↓ok_oEqN, ↓ok_oEqS, ↓ok_oNeI, ↓ok_oNeL, ↓ok_oNeT, ↓ok_oNeB, ↓ok_oNeN, ↓ok_oNeS, ↓ok_oIs, ↓ok_oIsN, ↓ix_0, ↓ix_1, ↓ix_2, ↓ix_3, ↓ix_4, ↓it_0, ↓it_1, ↓it_2, ↓it_3, ixn_0, ixn_1, ixn_2, ↓ok_len, ↓ok_lenT, ↓ok_absI, ↓ok_intI, ↓ok_max2, ↓ok_min2, ↓ok_max3, ↓ok_min3, ↓ok_dm, ↓ok_repr, argsE, backE, outE, Pu.M.dt, List.getElem?_cons_zero, List.getElem?_cons_succ, List.set_cons_zero, List.set_cons_succ, List.take_succ_cons, List.take_zero, List.replicate_zero, List.replicate_succ, List.append_nil, List.nil_append, List.cons_append, List.length_cons, List.length_nil, Nat.sub_self, Nat.reduceSub, Nat.reduceAdd, Nat.reduceLeDiff, decide_true, decide_false, reduceCtorEq, noBor, setsE, slotOf, setsS, putFs, putVs, lookV, sel, isNon, Bool.not_true, Bool.not_false, Bool.not_eq_true, decide_eq_true_eq, decide_eq_false_iff_not, Bool.true_eq_false, Bool.false_eq_true, false_implies, true_implies, and_true, true_and, not_true_eq_false, not_false_eq_true, and_self, implies_true, or_false, false_or, List.flatten_cons, List.flatten_nil, true_or, or_true, Int.sub_zero, eq_self, veq_int, veq_str, cMod, cDiv, cPow, cMul_r, cMul_l, strq, String.reduceEq, sz, szl, dOk_int, dOk_bl, dOk_non, if_true, if_false, Int.reducePow, Int.reduceToNat, Int.reduceMul, Int.reduceAdd, Int.reduceSub, Int.reduceNeg, Int.reduceLT, Int.reduceLE, Int.reduceGT, Int.reduceEq, gt_iff_lt, ge_iff_le, Nat.reducePow, Nat.reduceMul, Nat.reduceLT, Int.cast_ofNat_Int, false_and, and_false, Bool.and_true, Bool.true_and, Bool.and_false, Bool.false_and, Bool.or_true, Bool.true_or, Bool.or_false, Bool.false_or, ↓vD_0, ↓vO_0, ↓rD_0, ↓rO_0, ↓kD_0, ↓kO_0, ↓vD_1, ↓vO_1, ↓rD_1, ↓rO_1, ↓kD_1, ↓kO_1, ↓vD_2, ↓vO_2, ↓rD_2, ↓rO_2, ↓kD_2, ↓kO_2, ↓vD_3, ↓vO_3, ↓rD_3, ↓rO_3, ↓kD_3, ↓kO_3, ↓vD_4, ↓vO_4, ↓rD_4, ↓rO_4, ↓kD_4, ↓kO_4, ↓vD_5, ↓vO_5, ↓rD_5, ↓rO_5, ↓kD_5, ↓kO_5, ↓vD_6, ↓vO_6, ↓rD_6, ↓rO_6, ↓kD_6, ↓kO_6, ↓vD_7, ↓vO_7, ↓rD_7, ↓rO_7, ↓kD_7, ↓kO_7, ↓vD_8, ↓vO_8, ↓rD_8, ↓rO_8, ↓kD_8, ↓kO_8, ↓vD_9, ↓vO_9, ↓rD_9, ↓rO_9, ↓kD_9, ↓kO_9, ↓vD_10, ↓vO_10, ↓rD_10, ↓rO_10, ↓kD_10, ↓kO_10, ↓vD_11, ↓vO_11, ↓rD_11, ↓rO_11, ↓kD_11, ↓kO_11, ↓vD_12, ↓vO_12, ↓rD_12, ↓rO_12, ↓kD_12, ↓kO_12, ↓vD_13, ↓vO_13, ↓rD_13, ↓rO_13, ↓kD_13, ↓kO_13, ↓vD_14, ↓vO_14, ↓rD_14, ↓rO_14, ↓kD_14, ↓kO_14, ↓vD_15, ↓vO_15, ↓rD_15, ↓rO_15, ↓kD_15, ↓kO_15, ↓den_Rounds__times, ↓b_Rounds__times]
theorem r_check_rounds : Ok den_check_rounds [.dat (dV day ts)] Q ↔ Q (.dat .non) [.un] := by
  simp (disch := first | omega | rfl) only [↓ok_d1, ↓ok_d2, ↓ok_d3, ↓ok_d4, ↓ok_d5, ↓ok_d6, ↓ok_d7, ↓ok_bind, ↓ok_ret, ↓ok_bad, ↓ok_mV, ↓ok_rdD, ↓ok_rdT, ↓ok_dtD, ↓ok_dtT, ↓ok_rds0, ↓ok_rdsC, ↓ok_dts0, ↓ok_dtsC, ↓ok_nil, ↓ok_cons, ↓ok_bin, ↓ok_cb, ↓ok_tup, ↓ok_lst, ↓ok_tru, ↓ok_truB, ↓ok_truI, ↓ok_truN, ↓ok_truL, ↓ok_truT, ↓ok_and, ↓ok_or, ↓ok_not, ↓ok_ifE, ↓ok_andV, ↓ok_orV, ↓ok_notV, ↓ok_neg, ↓ok_chain, ↓ok_seq, ↓ok_skip, ↓ok_retS, ↓ok_retN, ↓ok_bk, ↓ok_ct, ↓ok_ex1, ↓ok_if, ↓ok_set, ↓ok_setP, ↓ok_asg, ↓ok_gN, ↓ok_gsN, ↓ok_gsC, ↓ok_gT, ↓ok_gSb, ↓ok_par, ↓ok_put, ↓ok_get, ↓ok_run, ↓ok_call, ↓ok_callK, ↓ok_make, ↓ok_prop, ↓ok_for, ↓ok_items, ↓ok_rng1, ↓ok_rng2, ↓ok_comp, ↓ok_yes, ↓ok_compS0, ↓ok_compSC, wipeE, ↓ok_sl, ↓ok_noP, ↓ok_pt, ↓ok_slL, ↓ok_slT, ↓ok_rep, ↓ok_app, ↓ok_oSub, ↓ok_oMul, ↓ok_oDiv, ↓ok_oMod, ↓ok_oPow, ↓ok_oLt, ↓ok_oLe, ↓ok_oGt, ↓ok_oGe, ↓ok_oAdd, ↓ok_oAddL, ↓ok_oAddI, ↓ok_oEqI, ↓ok_oEqL, ↓ok_oEqT, ↓ok_oEqB, ↓ok_oEqN, ↓ok_oEqS, ↓ok_oNeI, ↓ok_oNeL, ↓ok_oNeT, ↓ok_oNeB, ↓ok_oNeN, ↓ok_oNeS, ↓ok_oIs, ↓ok_oIsN, ↓ix_0, ↓ix_1, ↓ix_2, ↓ix_3, ↓ix_4, ↓it_0, ↓it_1, ↓it_2, ↓it_3, ixn_0, ixn_1, ixn_2, ↓ok_len, ↓ok_lenT, ↓ok_absI, ↓ok_intI, ↓ok_max2, ↓ok_min2, ↓ok_max3, ↓ok_min3, ↓ok_dm, ↓ok_repr, argsE, backE, outE, Pu.M.dt, List.getElem?_cons_zero, List.getElem?_cons_succ, List.set_cons_zero, List.set_cons_succ, List.take_succ_cons, List.take_zero, List.replicate_zero, List.replicate_succ, List.append_nil, List.nil_append, List.cons_append, List.length_cons, List.length_nil, Nat.sub_self, Nat.reduceSub, Nat.reduceAdd, Nat.reduceLeDiff, decide_true, decide_false, reduceCtorEq, noBor, setsE, slotOf, setsS, putFs, putVs, lookV, sel, isNon, Bool.not_true, Bool.not_false, Bool.not_eq_true, decide_eq_true_eq, decide_eq_false_iff_not, Bool.true_eq_false, Bool.false_eq_true, false_implies, true_implies, and_true, true_and, not_true_eq_false, not_false_eq_true, and_self, implies_true, or_false, false_or, List.flatten_cons, List.flatten_nil, true_or, or_true, Int.sub_zero, eq_self, veq_int, veq_str, cMod, cDiv, cPow, cMul_r, cMul_l, strq, String.reduceEq, sz, szl, dOk_int, dOk_bl, dOk_non, if_true, if_false, Int.reducePow, Int.reduceToNat, Int.reduceMul, Int.reduceAdd, Int.reduceSub, Int.reduceNeg, Int.reduceLT, Int.reduceLE, Int.reduceGT, Int.reduceEq, gt_iff_lt, ge_iff_le, Nat.reducePow, Nat.reduceMul, Nat.reduceLT, Int.cast_ofNat_Int, false_and, and_false, Bool.and_true, Bool.true_and, Bool.and_false, Bool.false_and, Bool.or_true, Bool.true_or, Bool.or_false, Bool.false_or, ↓vD_0, ↓vO_0, ↓rD_0, ↓rO_0, ↓kD_0, ↓kO_0, ↓vD_1, ↓vO_1, ↓rD_1, ↓rO_1, ↓kD_1, ↓kO_1, ↓vD_2, ↓vO_2, ↓rD_2, ↓rO_2, ↓kD_2, ↓kO_2, ↓vD_3, ↓vO_3, ↓rD_3, ↓rO_3, ↓kD_3, ↓kO_3, ↓vD_4, ↓vO_4, ↓rD_4, ↓rO_4, ↓kD_4, ↓kO_4, ↓vD_5, ↓vO_5, ↓rD_5, ↓rO_5, ↓kD_5, ↓kO_5, ↓vD_6, ↓vO_6, ↓rD_6, ↓rO_6, ↓kD_6, ↓kO_6, ↓vD_7, ↓vO_7, ↓rD_7, ↓rO_7, ↓kD_7, ↓kO_7, ↓vD_8, ↓vO_8, ↓rD_8, ↓rO_8, ↓kD_8, ↓kO_8, ↓vD_9, ↓vO_9, ↓rD_9, ↓rO_9, ↓kD_9, ↓kO_9, ↓vD_10, ↓vO_10, ↓rD_10, ↓rO_10, ↓kD_10, ↓kO_10, ↓vD_11, ↓vO_11, ↓rD_11, ↓rO_11, ↓kD_11, ↓kO_11, ↓vD_12, ↓vO_12, ↓rD_12, ↓rO_12, ↓kD_12, ↓kO_12, ↓vD_13, ↓vO_13, ↓rD_13, ↓rO_13, ↓kD_13, ↓kO_13, ↓vD_14, ↓vO_14, ↓rD_14, ↓rO_14, ↓kD_14, ↓kO_14, ↓vD_15, ↓vO_15, ↓rD_15, ↓rO_15, ↓kD_15, ↓kO_15, ↓den_check_rounds, ↓b_check_rounds, ↓i_rou]
theorem r_check_ways : Ok den_check_ways [.dat (rV s l p t), .dat (dV day ts)] Q ↔ Q (.dat .non) [.un, .un] := by
  simp (disch := first | omega | rfl) only [↓ok_d1, ↓ok_d2, ↓ok_d3, ↓ok_d4, ↓ok_d5, ↓ok_d6, ↓ok_d7, ↓ok_bind, ↓ok_ret, ↓ok_bad, ↓ok_mV, ↓ok_rdD, ↓ok_rdT, ↓ok_dtD, ↓ok_dtT, ↓ok_rds0, ↓ok_rdsC, ↓ok_dts0, ↓ok_dtsC, ↓ok_nil, ↓ok_cons, ↓ok_bin, ↓ok_cb, ↓ok_tup, ↓ok_lst, ↓ok_tru, ↓ok_truB, ↓ok_truI, ↓ok_truN, ↓ok_truL, ↓ok_truT, ↓ok_and, ↓ok_or, ↓ok_not, ↓ok_ifE, ↓ok_andV, ↓ok_orV, ↓ok_notV, ↓ok_neg, ↓ok_chain, ↓ok_seq, ↓ok_skip, ↓ok_retS, ↓ok_retN, ↓ok_bk, ↓ok_ct, ↓ok_ex1, ↓ok_if, ↓ok_set, ↓ok_setP, ↓ok_asg, ↓ok_gN, ↓ok_gsN, ↓ok_gsC, ↓ok_gT, ↓ok_gSb, ↓ok_par, ↓ok_put, ↓ok_get, ↓ok_run, ↓ok_call, ↓ok_callK, ↓ok_make, ↓ok_prop, ↓ok_for, ↓ok_items, ↓ok_rng1, ↓ok_rng2, ↓ok_comp, ↓ok_yes, ↓ok_compS0, ↓ok_compSC, wipeE, ↓ok_sl, ↓ok_noP, ↓ok_pt, ↓ok_slL, ↓ok_slT, ↓ok_rep, ↓ok_app, ↓ok_oSub, ↓ok_oMul, ↓ok_oDiv, ↓ok_oMod, ↓ok_oPow, ↓ok_oLt, ↓ok_oLe, ↓ok_oGt, ↓ok_oGe, ↓ok_oAdd, ↓ok_oAddL, ↓ok_oAddI, ↓ok_oEqI, ↓ok_oEqL, ↓ok_oEqT, ↓ok_oEqB, ↓ok_oEqN, ↓ok_oEqS, ↓ok_oNeI, ↓ok_oNeL, ↓ok_oNeT, ↓ok_oNeB, ↓ok_oNeN, ↓ok_oNeS, ↓ok_oIs, ↓ok_oIsN, ↓ix_0, ↓ix_1, ↓ix_2, ↓ix_3, ↓ix_4, ↓it_0, ↓it_1, ↓it_2, ↓it_3, ixn_0, ixn_1, ixn_2, ↓ok_len, ↓ok_lenT, ↓ok_absI, ↓ok_intI, ↓ok_max2, ↓ok_min2, ↓ok_max3, ↓ok_min3, ↓ok_dm, ↓ok_repr, argsE, backE, outE, Pu.M.dt, List.getElem?_cons_zero, List.getElem?_cons_succ, List.set_cons_zero, List.set_cons_succ, List.take_succ_cons, List.take_zero, List.replicate_zero, List.replicate_succ, List.append_nil, List.nil_append, List.cons_append, List.length_cons, List.length_nil, Nat.sub_self, Nat.reduceSub, Nat.reduceAdd, Nat.reduceLeDiff, decide_true, decide_false, reduceCtorEq, noBor, setsE, slotOf, setsS, putFs, putVs, lookV, sel, isNon, Bool.not_true, Bool.not_false, Bool.not_eq_true, decide_eq_true_eq, decide_eq_false_iff_not, Bool.true_eq_false, Bool.false_eq_true, false_implies, true_implies, and_true, true_and, not_true_eq_false, not_false_eq_true, and_self, implies_true, or_false, false_or, List.flatten_cons, List.flatten_nil, true_or, or_true, Int.sub_zero, eq_self, veq_int, veq_str, cMod, cDiv, cPow, cMul_r, cMul_l, strq, String.reduceEq, sz, szl, dOk_int, dOk_bl, dOk_non, if_true, if_false, Int.reducePow, Int.reduceToNat, Int.reduceMul, Int.reduceAdd, Int.reduceSub, Int.reduceNeg, Int.reduceLT, Int.reduceLE, Int.reduceGT, Int.reduceEq, gt_iff_lt, ge_iff_le, Nat.reducePow, Nat.reduceMul, Nat.reduceLT, Int.cast_ofNat_Int, false_and, and_false, Bool.and_true, Bool.true_and, Bool.and_false, Bool.false_and, Bool.or_true, Bool.true_or, Bool.or_false, Bool.false_or, ↓vD_0, ↓vO_0, ↓rD_0, ↓rO_0, ↓kD_0, ↓kO_0, ↓vD_1, ↓vO_1, ↓rD_1, ↓rO_1, ↓kD_1, ↓kO_1, ↓vD_2, ↓vO_2, ↓rD_2, ↓rO_2, ↓kD_2, ↓kO_2, ↓vD_3, ↓vO_3, ↓rD_3, ↓rO_3, ↓kD_3, ↓kO_3, ↓vD_4, ↓vO_4, ↓rD_4, ↓rO_4, ↓kD_4, ↓kO_4, ↓vD_5, ↓vO_5, ↓rD_5, ↓rO_5, ↓kD_5, ↓kO_5, ↓vD_6, ↓vO_6, ↓rD_6, ↓rO_6, ↓kD_6, ↓kO_6, ↓vD_7, ↓vO_7, ↓rD_7, ↓rO_7, ↓kD_7, ↓kO_7, ↓vD_8, ↓vO_8, ↓rD_8, ↓rO_8, ↓kD_8, ↓kO_8, ↓vD_9, ↓vO_9, ↓rD_9, ↓rO_9, ↓kD_9, ↓kO_9, ↓vD_10, ↓vO_10, ↓rD_10, ↓rO_10, ↓kD_10, ↓kO_10, ↓vD_11, ↓vO_11, ↓rD_11, ↓rO_11, ↓kD_11, ↓kO_11, ↓vD_12, ↓vO_12, ↓rD_12, ↓rO_12, ↓kD_12, ↓kO_12, ↓vD_13, ↓vO_13, ↓rD_13, ↓rO_13, ↓kD_13, ↓kO_13, ↓vD_14, ↓vO_14, ↓rD_14, ↓rO_14, ↓kD_14, ↓kO_14, ↓vD_15, ↓vO_15, ↓rD_15, ↓rO_15, ↓kD_15, ↓kO_15, ↓den_check_ways, ↓b_check_ways, ↓r_check_rule, ↓r_check_rounds]
theorem times_loop {s0 : Slot} (T : Times day ts) : ∀ (r : List Int) (i : Nat) (s3 s4 s5 : Slot), ts.drop i = r →
    Ok ((loopS (gT 2 (gsC (gN 3) (gsC (gN 4) gsN))) (mSeq (mSet 5 (mIfE (mTru (mBin oGt (mVar 3) (mV (.int 0)))) (mBin oAdd (mBin oIx (mVar 2) (mBin oSub (mVar 3) (mV (.int 1)))) (mV (.int 1))) (mV (.int 0)))) (mIf (mOr (mTru (mBin oEq (mVar 3) (mV (.int 12)))) (mNot (mTru (mCall [false, false, false] den_is_between (mCons (mVar 4) (mCons (mVar 5) (mCons (mBin oSub (mVar 1) (mV (.int 1))) mNil))) [])))) M.bad mSkip))) (enumV (i : Int) (r.map .int))) [s0, .dat (.int day), .dat (.tup (ts.map .int)), s3, s4, s5] fun o e' => o = .nx ∧ ∃ y3 y4 y5, e' = [s0, .dat (.int day), .dat (.tup (ts.map .int)), y3, y4, y5]
  | [], i, s3, s4, s5, _ => by
    show Ok (loopS _ _ []) _ _
    rw [ok_loop0]
    exact ⟨rfl, _, _, _, rfl⟩
  | x :: r, i, s3, s4, s5, hd => by
    have hi : i < ts.length := by
      have := congrArg List.length hd
      rw [List.length_drop, List.length_cons] at this
      omega
    have hx : ts[i] = x := by
      have h1 : (ts.drop i)[0]? = some x := by rw [hd]; rfl
      rw [List.getElem?_drop] at h1
      simpa [hi] using h1
    have hr : ts.drop (i + 1) = r := by
      have := congrArg List.tail hd
      simpa using this
    have ih := fun s3 s4 s5 => times_loop (s0 := s0) T r (i + 1) s3 s4 s5 hr
    rw [show (((i + 1 : Nat)) : Int) = (i : Int) + 1 by omega] at ih
    have few := T.few
    have mem : x ∈ ts := by rw [← hx]; exact List.getElem_mem hi
    have lo := T.low x mem
    have hi2 := T.high x mem
    refine Ok.via fun Q' k => ?_
    rw [show enumV (i : Int) ((x :: r).map Val.int) = .tup [.int i, .int x] :: enumV ((i : Int) + 1) (r.map .int) from rfl, ok_loopC]
    have h12 : ¬ (i : Int) = 12 := by omega
    by_cases h0 : i = 0
    · have z1 : (0 < (i : Int)) = False := eq_false (by omega)
      have z2 : 0 ≤ x ∧ x ≤ day - 1 := by omega
      simp (disch := first | omega | rfl) only [↓ok_d1, ↓ok_d2, ↓ok_d3, ↓ok_d4, ↓ok_d5, ↓ok_d6, ↓ok_d7, ↓ok_bind, ↓ok_ret, ↓ok_bad, ↓ok_mV, ↓ok_rdD, ↓ok_rdT, ↓ok_dtD, ↓ok_dtT, ↓ok_rds0, ↓ok_rdsC, ↓ok_dts0, ↓ok_dtsC, ↓ok_nil, ↓ok_cons, ↓ok_bin, ↓ok_cb, ↓ok_tup, ↓ok_lst, ↓ok_tru, ↓ok_truB, ↓ok_truI, ↓ok_truN, ↓ok_truL, ↓ok_truT, ↓ok_and, ↓ok_or, ↓ok_not, ↓ok_ifE, ↓ok_andV, ↓ok_orV, ↓ok_notV, ↓ok_neg, ↓ok_chain, ↓ok_seq, ↓ok_skip, ↓ok_retS, ↓ok_retN, ↓ok_bk, ↓ok_ct, ↓ok_ex1, ↓ok_if, ↓ok_set, ↓ok_setP, ↓ok_asg, ↓ok_gN, ↓ok_gsN, ↓ok_gsC, ↓ok_gT, ↓ok_gSb, ↓ok_par, ↓ok_put, ↓ok_get, ↓ok_run, ↓ok_call, ↓ok_callK, ↓ok_make, ↓ok_prop, ↓ok_for, ↓ok_items, ↓ok_rng1, ↓ok_rng2, ↓ok_comp, ↓ok_yes, ↓ok_compS0, ↓ok_compSC, wipeE, ↓ok_sl, ↓ok_noP, ↓ok_pt, ↓ok_slL, ↓ok_slT, ↓ok_rep, ↓ok_app, ↓ok_oSub, ↓ok_oMul, ↓ok_oDiv, ↓ok_oMod, ↓ok_oPow, ↓ok_oLt, ↓ok_oLe, ↓ok_oGt, ↓ok_oGe, ↓ok_oAdd, ↓ok_oAddL, ↓ok_oAddI, ↓ok_oEqI, ↓ok_oEqL, ↓ok_oEqT, ↓ok_oEqB, ↓ok_oEqN, ↓ok_oEqS, ↓ok_oNeI, ↓ok_oNeL, ↓ok_oNeT, ↓ok_oNeB, ↓ok_oNeN, ↓ok_oNeS, ↓ok_oIs, ↓ok_oIsN, ↓ix_0, ↓ix_1, ↓ix_2, ↓ix_3, ↓ix_4, ↓it_0, ↓it_1, ↓it_2, ↓it_3, ixn_0, ixn_1, ixn_2, ↓ok_len, ↓ok_lenT, ↓ok_absI, ↓ok_intI, ↓ok_max2, ↓ok_min2, ↓ok_max3, ↓ok_min3, ↓ok_dm, ↓ok_repr, argsE, backE, outE, Pu.M.dt, List.getElem?_cons_zero, List.getElem?_cons_succ, List.set_cons_zero, List.set_cons_succ, List.take_succ_cons, List.take_zero, List.replicate_zero, List.replicate_succ, List.append_nil, List.nil_append, List.cons_append, List.length_cons, List.length_nil, Nat.sub_self, Nat.reduceSub, Nat.reduceAdd, Nat.reduceLeDiff, decide_true, decide_false, reduceCtorEq, noBor, setsE, slotOf, setsS, putFs, putVs, lookV, sel, isNon, Bool.not_true, Bool.not_false, Bool.not_eq_true, decide_eq_true_eq, decide_eq_false_iff_not, Bool.true_eq_false, Bool.false_eq_true, false_implies, true_implies, and_true, true_and, not_true_eq_false, not_false_eq_true, and_self, implies_true, or_false, false_or, List.flatten_cons, List.flatten_nil, true_or, or_true, Int.sub_zero, eq_self, veq_int, veq_str, cMod, cDiv, cPow, cMul_r, cMul_l, strq, String.reduceEq, sz, szl, dOk_int, dOk_bl, dOk_non, if_true, if_false, Int.reducePow, Int.reduceToNat, Int.reduceMul, Int.reduceAdd, Int.reduceSub, Int.reduceNeg, Int.reduceLT, Int.reduceLE, Int.reduceGT, Int.reduceEq, gt_iff_lt, ge_iff_le, Nat.reducePow, Nat.reduceMul, Nat.reduceLT, Int.cast_ofNat_Int, false_and, and_false, Bool.and_true, Bool.true_and, Bool.and_false, Bool.false_and, Bool.or_true, Bool.true_or, Bool.or_false, Bool.false_or, ↓vD_0, ↓vO_0, ↓rD_0, ↓rO_0, ↓kD_0, ↓kO_0, ↓vD_1, ↓vO_1, ↓rD_1, ↓rO_1, ↓kD_1, ↓kO_1, ↓vD_2, ↓vO_2, ↓rD_2, ↓rO_2, ↓kD_2, ↓kO_2, ↓vD_3, ↓vO_3, ↓rD_3, ↓rO_3, ↓kD_3, ↓kO_3, ↓vD_4, ↓vO_4, ↓rD_4, ↓rO_4, ↓kD_4, ↓kO_4, ↓vD_5, ↓vO_5, ↓rD_5, ↓rO_5, ↓kD_5, ↓kO_5, ↓vD_6, ↓vO_6, ↓rD_6, ↓rO_6, ↓kD_6, ↓kO_6, ↓vD_7, ↓vO_7, ↓rD_7, ↓rO_7, ↓kD_7, ↓kO_7, ↓vD_8, ↓vO_8, ↓rD_8, ↓rO_8, ↓kD_8, ↓kO_8, ↓vD_9, ↓vO_9, ↓rD_9, ↓rO_9, ↓kD_9, ↓kO_9, ↓vD_10, ↓vO_10, ↓rD_10, ↓rO_10, ↓kD_10, ↓kO_10, ↓vD_11, ↓vO_11, ↓rD_11, ↓rO_11, ↓kD_11, ↓kO_11, ↓vD_12, ↓vO_12, ↓rD_12, ↓rO_12, ↓kD_12, ↓kO_12, ↓vD_13, ↓vO_13, ↓rD_13, ↓rO_13, ↓kD_13, ↓kO_13, ↓vD_14, ↓vO_14, ↓rD_14, ↓rO_14, ↓kD_14, ↓kO_14, ↓vD_15, ↓vO_15, ↓rD_15, ↓rO_15, ↓kD_15, ↓kO_15, ↓z1, ↓h12, ↓r_is_betweenB, ↓z2]
      exact Ok.mono (ih _ _ _) fun o e' h => k _ _ h
    · obtain ⟨j, rfl⟩ : ∃ j, i = j + 1 := ⟨i - 1, by omega⟩
      have z1 : (0 < ((j + 1 : Nat) : Int)) = True := eq_true (by omega)
      have hj : j < ts.length := by omega
      have h4 : ((j + 1 : Nat) : Int) - 1 = (j : Nat) := by omega
      have h6 : atI (ts.map Val.int) (j : Int) = some (.int ts[j]) := atI_lit j (by simp [hj])
      have z2 : ts[j] + 1 ≤ x ∧ x ≤ day - 1 := by
        have := List.pairwise_iff_getElem.mp T.ris j (j + 1) hj hi (by omega)
        rw [hx] at this
        omega
      simp (disch := first | omega | rfl) only [↓ok_d1, ↓ok_d2, ↓ok_d3, ↓ok_d4, ↓ok_d5, ↓ok_d6, ↓ok_d7, ↓ok_bind, ↓ok_ret, ↓ok_bad, ↓ok_mV, ↓ok_rdD, ↓ok_rdT, ↓ok_dtD, ↓ok_dtT, ↓ok_rds0, ↓ok_rdsC, ↓ok_dts0, ↓ok_dtsC, ↓ok_nil, ↓ok_cons, ↓ok_bin, ↓ok_cb, ↓ok_tup, ↓ok_lst, ↓ok_tru, ↓ok_truB, ↓ok_truI, ↓ok_truN, ↓ok_truL, ↓ok_truT, ↓ok_and, ↓ok_or, ↓ok_not, ↓ok_ifE, ↓ok_andV, ↓ok_orV, ↓ok_notV, ↓ok_neg, ↓ok_chain, ↓ok_seq, ↓ok_skip, ↓ok_retS, ↓ok_retN, ↓ok_bk, ↓ok_ct, ↓ok_ex1, ↓ok_if, ↓ok_set, ↓ok_setP, ↓ok_asg, ↓ok_gN, ↓ok_gsN, ↓ok_gsC, ↓ok_gT, ↓ok_gSb, ↓ok_par, ↓ok_put, ↓ok_get, ↓ok_run, ↓ok_call, ↓ok_callK, ↓ok_make, ↓ok_prop, ↓ok_for, ↓ok_items, ↓ok_rng1, ↓ok_rng2, ↓ok_comp, ↓ok_yes, ↓ok_compS0, ↓ok_compSC, wipeE, ↓ok_sl, ↓ok_noP, ↓ok_pt, ↓ok_slL, ↓ok_slT, ↓ok_rep, ↓ok_app, ↓ok_oSub, ↓ok_oMul, ↓ok_oDiv, ↓ok_oMod, ↓ok_oPow, ↓ok_oLt, ↓ok_oLe, ↓ok_oGt, ↓ok_oGe, ↓ok_oAdd, ↓ok_oAddL, ↓ok_oAddI, ↓ok_oEqI, ↓ok_oEqL, ↓ok_oEqT, ↓ok_oEqB, ↓ok_oEqN, ↓ok_oEqS, ↓ok_oNeI, ↓ok_oNeL, ↓ok_oNeT, ↓ok_oNeB, ↓ok_oNeN, ↓ok_oNeS, ↓ok_oIs, ↓ok_oIsN, ↓ix_0, ↓ix_1, ↓ix_2, ↓ix_3, ↓ix_4, ↓it_0, ↓it_1, ↓it_2, ↓it_3, ixn_0, ixn_1, ixn_2, ↓ok_len, ↓ok_lenT, ↓ok_absI, ↓ok_intI, ↓ok_max2, ↓ok_min2, ↓ok_max3, ↓ok_min3, ↓ok_dm, ↓ok_repr, argsE, backE, outE, Pu.M.dt, List.getElem?_cons_zero, List.getElem?_cons_succ, List.set_cons_zero, List.set_cons_succ, List.take_succ_cons, List.take_zero, List.replicate_zero, List.replicate_succ, List.append_nil, List.nil_append, List.cons_append, List.length_cons, List.length_nil, Nat.sub_self, Nat.reduceSub, Nat.reduceAdd, Nat.reduceLeDiff, decide_true, decide_false, reduceCtorEq, noBor, setsE, slotOf, setsS, putFs, putVs, lookV, sel, isNon, Bool.not_true, Bool.not_false, Bool.not_eq_true, decide_eq_true_eq, decide_eq_false_iff_not, Bool.true_eq_false, Bool.false_eq_true, false_implies, true_implies, and_true, true_and, not_true_eq_false, not_false_eq_true, and_self, implies_true, or_false, false_or, List.flatten_cons, List.flatten_nil, true_or, or_true, Int.sub_zero, eq_self, veq_int, veq_str, cMod, cDiv, cPow, cMul_r, cMul_l, strq, String.reduceEq, sz, szl, dOk_int, dOk_bl, dOk_non, if_true, if_false, Int.reducePow, Int.reduceToNat, Int.reduceMul, Int.reduceAdd, Int.reduceSub, Int.reduceNeg, Int.reduceLT, Int.reduceLE, Int.reduceGT, Int.reduceEq, gt_iff_lt, ge_iff_le, Nat.reducePow, Nat.reduceMul, Nat.reduceLT, Int.cast_ofNat_Int, false_and, and_false, Bool.and_true, Bool.true_and, Bool.and_false, Bool.false_and, Bool.or_true, Bool.true_or, Bool.or_false, Bool.false_or, ↓vD_0, ↓vO_0, ↓rD_0, ↓rO_0, ↓kD_0, ↓kO_0, ↓vD_1, ↓vO_1, ↓rD_1, ↓rO_1, ↓kD_1, ↓kO_1, ↓vD_2, ↓vO_2, ↓rD_2, ↓rO_2, ↓kD_2, ↓kO_2, ↓vD_3, ↓vO_3, ↓rD_3, ↓rO_3, ↓kD_3, ↓kO_3, ↓vD_4, ↓vO_4, ↓rD_4, ↓rO_4, ↓kD_4, ↓kO_4, ↓vD_5, ↓vO_5, ↓rD_5, ↓rO_5, ↓kD_5, ↓kO_5, ↓vD_6, ↓vO_6, ↓rD_6, ↓rO_6, ↓kD_6, ↓kO_6, ↓vD_7, ↓vO_7, ↓rD_7, ↓rO_7, ↓kD_7, ↓kO_7, ↓vD_8, ↓vO_8, ↓rD_8, ↓rO_8, ↓kD_8, ↓kO_8, ↓vD_9, ↓vO_9, ↓rD_9, ↓rO_9, ↓kD_9, ↓kO_9, ↓vD_10, ↓vO_10, ↓rD_10, ↓rO_10, ↓kD_10, ↓kO_10, ↓vD_11, ↓vO_11, ↓rD_11, ↓rO_11, ↓kD_11, ↓kO_11, ↓vD_12, ↓vO_12, ↓rD_12, ↓rO_12, ↓kD_12, ↓kO_12, ↓vD_13, ↓vO_13, ↓rD_13, ↓rO_13, ↓kD_13, ↓kO_13, ↓vD_14, ↓vO_14, ↓rD_14, ↓rO_14, ↓kD_14, ↓kO_14, ↓vD_15, ↓vO_15, ↓rD_15, ↓rO_15, ↓kD_15, ↓kO_15, ↓z1, ↓h12, ↓r_is_betweenB, ↓h4, ↓ixT_of h6, ↓z2]
      exact Ok.mono (ih _ _ _) fun o e' h => k _ _ h
theorem r_rounds_init (T : Times day ts) (h : ts ≠ []) : Ok den_Rounds____init__ [.own (.obj "Rounds" [] []), .dat (.int day), .dat (.tup (ts.map .int))] Q ↔ Q (.dat .non) [.own (dV day ts), .un, .un] := by
  refine ok_det ?_
  simp (disch := first | omega | rfl) only [↓ok_d1, ↓ok_d2, ↓ok_d3, ↓ok_d4, ↓ok_d5, ↓ok_d6, ↓ok_d7, ↓ok_bind, ↓ok_ret, ↓ok_bad, ↓ok_mV, ↓ok_rdD, ↓ok_rdT, ↓ok_dtD, ↓ok_dtT, ↓ok_rds0, ↓ok_rdsC, ↓ok_dts0, ↓ok_dtsC, ↓ok_nil, ↓ok_cons, ↓ok_bin, ↓ok_cb, ↓ok_tup, ↓ok_lst, ↓ok_tru, ↓ok_truB, ↓ok_truI, ↓ok_truN, ↓ok_truL, ↓ok_truT, ↓ok_and, ↓ok_or, ↓ok_not, ↓ok_ifE, ↓ok_andV, ↓ok_orV, ↓ok_notV, ↓ok_neg, ↓ok_chain, ↓ok_seq, ↓ok_skip, ↓ok_retS, ↓ok_retN, ↓ok_bk, ↓ok_ct, ↓ok_ex1, ↓ok_if, ↓ok_set, ↓ok_setP, ↓ok_asg, ↓ok_gN, ↓ok_gsN, ↓ok_gsC, ↓ok_gT, ↓ok_gSb, ↓ok_par, ↓ok_put, ↓ok_get, ↓ok_run, ↓ok_call, ↓ok_callK, ↓ok_make, ↓ok_prop, ↓ok_for, ↓ok_items, ↓ok_rng1, ↓ok_rng2, ↓ok_comp, ↓ok_yes, ↓ok_compS0, ↓ok_compSC, wipeE, ↓ok_sl, ↓ok_noP, ↓ok_pt, ↓ok_slL, ↓ok_slT, ↓ok_rep, ↓ok_app, ↓ok_oSub, ↓ok_oMul, ↓ok_oDiv, ↓ok_oMod, ↓ok_oPow, ↓ok_oLt, ↓ok_oLe, ↓ok_oGt, ↓ok_oGe, ↓ok_oAdd, ↓ok_oAddL, ↓ok_oAddI, ↓ok_oEqI, ↓ok_oEqL, ↓ok_oEqT, ↓ok_oEqB, ↓ok_oEqN, ↓ok_oEqS, ↓ok_oNeI, ↓ok_oNeL, ↓ok_oNeT, ↓ok_oNeB, ↓ok_oNeN, ↓ok_oNeS, ↓ok_oIs, ↓ok_oIsN, ↓ix_0, ↓ix_1, ↓ix_2, ↓ix_3, ↓ix_4, ↓it_0, ↓it_1, ↓it_2, ↓it_3, ixn_0, ixn_1, ixn_2, ↓ok_len, ↓ok_lenT, ↓ok_absI, ↓ok_intI, ↓ok_max2, ↓ok_min2, ↓ok_max3, ↓ok_min3, ↓ok_dm, ↓ok_repr, argsE, backE, outE, Pu.M.dt, List.getElem?_cons_zero, List.getElem?_cons_succ, List.set_cons_zero, List.set_cons_succ, List.take_succ_cons, List.take_zero, List.replicate_zero, List.replicate_succ, List.append_nil, List.nil_append, List.cons_append, List.length_cons, List.length_nil, Nat.sub_self, Nat.reduceSub, Nat.reduceAdd, Nat.reduceLeDiff, decide_true, decide_false, reduceCtorEq, noBor, setsE, slotOf, setsS, putFs, putVs, lookV, sel, isNon, Bool.not_true, Bool.not_false, Bool.not_eq_true, decide_eq_true_eq, decide_eq_false_iff_not, Bool.true_eq_false, Bool.false_eq_true, false_implies, true_implies, and_true, true_and, not_true_eq_false, not_false_eq_true, and_self, implies_true, or_false, false_or, List.flatten_cons, List.flatten_nil, true_or, or_true, Int.sub_zero, eq_self, veq_int, veq_str, cMod, cDiv, cPow, cMul_r, cMul_l, strq, String.reduceEq, sz, szl, dOk_int, dOk_bl, dOk_non, if_true, if_false, Int.reducePow, Int.reduceToNat, Int.reduceMul, Int.reduceAdd, Int.reduceSub, Int.reduceNeg, Int.reduceLT, Int.reduceLE, Int.reduceGT, Int.reduceEq, gt_iff_lt, ge_iff_le, Nat.reducePow, Nat.reduceMul, Nat.reduceLT, Int.cast_ofNat_Int, false_and, and_false, Bool.and_true, Bool.true_and, Bool.and_false, Bool.false_and, Bool.or_true, Bool.true_or, Bool.or_false, Bool.false_or, ↓vD_0, ↓vO_0, ↓rD_0, ↓rO_0, ↓kD_0, ↓kO_0, ↓vD_1, ↓vO_1, ↓rD_1, ↓rO_1, ↓kD_1, ↓kO_1, ↓vD_2, ↓vO_2, ↓rD_2, ↓rO_2, ↓kD_2, ↓kO_2, ↓vD_3, ↓vO_3, ↓rD_3, ↓rO_3, ↓kD_3, ↓kO_3, ↓vD_4, ↓vO_4, ↓rD_4, ↓rO_4, ↓kD_4, ↓kO_4, ↓vD_5, ↓vO_5, ↓rD_5, ↓rO_5, ↓kD_5, ↓kO_5, ↓vD_6, ↓vO_6, ↓rD_6, ↓rO_6, ↓kD_6, ↓kO_6, ↓vD_7, ↓vO_7, ↓rD_7, ↓rO_7, ↓kD_7, ↓kO_7, ↓vD_8, ↓vO_8, ↓rD_8, ↓rO_8, ↓kD_8, ↓kO_8, ↓vD_9, ↓vO_9, ↓rD_9, ↓rO_9, ↓kD_9, ↓kO_9, ↓vD_10, ↓vO_10, ↓rD_10, ↓rO_10, ↓kD_10, ↓kO_10, ↓vD_11, ↓vO_11, ↓rD_11, ↓rO_11, ↓kD_11, ↓kO_11, ↓vD_12, ↓vO_12, ↓rD_12, ↓rO_12, ↓kD_12, ↓kO_12, ↓vD_13, ↓vO_13, ↓rD_13, ↓rO_13, ↓kD_13, ↓kO_13, ↓vD_14, ↓vO_14, ↓rD_14, ↓rO_14, ↓kD_14, ↓kO_14, ↓vD_15, ↓vO_15, ↓rD_15, ↓rO_15, ↓kD_15, ↓kO_15, ↓den_Rounds____init__, ↓b_Rounds____init__, ↓r_check_number T.day1 T.dayM, ↓i_tup, ↓ok_neIs h, ↓ok_enum, ↓seqV_T]
  refine Ok.mono (times_loop T ts 0 _ _ _ rfl) ?_
  rintro o _ ⟨rfl, y3, y4, y5, rfl⟩
  simp (disch := first | omega | rfl) only [↓ok_d1, ↓ok_d2, ↓ok_d3, ↓ok_d4, ↓ok_d5, ↓ok_d6, ↓ok_d7, ↓ok_bind, ↓ok_ret, ↓ok_bad, ↓ok_mV, ↓ok_rdD, ↓ok_rdT, ↓ok_dtD, ↓ok_dtT, ↓ok_rds0, ↓ok_rdsC, ↓ok_dts0, ↓ok_dtsC, ↓ok_nil, ↓ok_cons, ↓ok_bin, ↓ok_cb, ↓ok_tup, ↓ok_lst, ↓ok_tru, ↓ok_truB, ↓ok_truI, ↓ok_truN, ↓ok_truL, ↓ok_truT, ↓ok_and, ↓ok_or, ↓ok_not, ↓ok_ifE, ↓ok_andV, ↓ok_orV, ↓ok_notV, ↓ok_neg, ↓ok_chain, ↓ok_seq, ↓ok_skip, ↓ok_retS, ↓ok_retN, ↓ok_bk, ↓ok_ct, ↓ok_ex1, ↓ok_if, ↓ok_set, ↓ok_setP, ↓ok_asg, ↓ok_gN, ↓ok_gsN, ↓ok_gsC, ↓ok_gT, ↓ok_gSb, ↓ok_par, ↓ok_put, ↓ok_get, ↓ok_run, ↓ok_call, ↓ok_callK, ↓ok_make, ↓ok_prop, ↓ok_for, ↓ok_items, ↓ok_rng1, ↓ok_rng2, ↓ok_comp, ↓ok_yes, ↓ok_compS0, ↓ok_compSC, wipeE, ↓ok_sl, ↓ok_noP, ↓ok_pt, ↓ok_slL, ↓ok_slT, ↓ok_rep, ↓ok_app, ↓ok_oSub, ↓ok_oMul, ↓ok_oDiv, ↓ok_oMod, ↓ok_oPow, ↓ok_oLt, ↓ok_oLe, ↓ok_oGt, ↓ok_oGe, ↓ok_oAdd, ↓ok_oAddL, ↓ok_oAddI, ↓ok_oEqI, ↓ok_oEqL, ↓ok_oEqT, ↓ok_oEqB, ↓ok_oEqN, ↓ok_oEqS, ↓ok_oNeI, ↓ok_oNeL, ↓ok_oNeT, ↓ok_oNeB, ↓ok_oNeN, ↓ok_oNeS, ↓ok_oIs, ↓ok_oIsN, ↓ix_0, ↓ix_1, ↓ix_2, ↓ix_3, ↓ix_4, ↓it_0, ↓it_1, ↓it_2, ↓it_3, ixn_0, ixn_1, ixn_2, ↓ok_len, ↓ok_lenT, ↓ok_absI, ↓ok_intI, ↓ok_max2, ↓ok_min2, ↓ok_max3, ↓ok_min3, ↓ok_dm, ↓ok_repr, argsE, backE, outE, Pu.M.dt, List.getElem?_cons_zero, List.getElem?_cons_succ, List.set_cons_zero, List.set_cons_succ, List.take_succ_cons, List.take_zero, List.replicate_zero, List.replicate_succ, List.append_nil, List.nil_append, List.cons_append, List.length_cons, List.length_nil, Nat.sub_self, Nat.reduceSub, Nat.reduceAdd, Nat.reduceLeDiff, decide_true, decide_false, reduceCtorEq, noBor, setsE, slotOf, setsS, putFs, putVs, lookV, sel, isNon, Bool.not_true, Bool.not_false, Bool.not_eq_true, decide_eq_true_eq, decide_eq_false_iff_not, Bool.true_eq_false, Bool.false_eq_true, false_implies, true_implies, and_true, true_and, not_true_eq_false, not_false_eq_true, and_self, implies_true, or_false, false_or, List.flatten_cons, List.flatten_nil, true_or, or_true, Int.sub_zero, eq_self, veq_int, veq_str, cMod, cDiv, cPow, cMul_r, cMul_l, strq, String.reduceEq, sz, szl, dOk_int, dOk_bl, dOk_non, if_true, if_false, Int.reducePow, Int.reduceToNat, Int.reduceMul, Int.reduceAdd, Int.reduceSub, Int.reduceNeg, Int.reduceLT, Int.reduceLE, Int.reduceGT, Int.reduceEq, gt_iff_lt, ge_iff_le, Nat.reducePow, Nat.reduceMul, Nat.reduceLT, Int.cast_ofNat_Int, false_and, and_false, Bool.and_true, Bool.true_and, Bool.and_false, Bool.false_and, Bool.or_true, Bool.true_or, Bool.or_false, Bool.false_or, ↓vD_0, ↓vO_0, ↓rD_0, ↓rO_0, ↓kD_0, ↓kO_0, ↓vD_1, ↓vO_1, ↓rD_1, ↓rO_1, ↓kD_1, ↓kO_1, ↓vD_2, ↓vO_2, ↓rD_2, ↓rO_2, ↓kD_2, ↓kO_2, ↓vD_3, ↓vO_3, ↓rD_3, ↓rO_3, ↓kD_3, ↓kO_3, ↓vD_4, ↓vO_4, ↓rD_4, ↓rO_4, ↓kD_4, ↓kO_4, ↓vD_5, ↓vO_5, ↓rD_5, ↓rO_5, ↓kD_5, ↓kO_5, ↓vD_6, ↓vO_6, ↓rD_6, ↓rO_6, ↓kD_6, ↓kO_6, ↓vD_7, ↓vO_7, ↓rD_7, ↓rO_7, ↓kD_7, ↓kO_7, ↓vD_8, ↓vO_8, ↓rD_8, ↓rO_8, ↓kD_8, ↓kO_8, ↓vD_9, ↓vO_9, ↓rD_9, ↓rO_9, ↓kD_9, ↓kO_9, ↓vD_10, ↓vO_10, ↓rD_10, ↓rO_10, ↓kD_10, ↓kO_10, ↓vD_11, ↓vO_11, ↓rD_11, ↓rO_11, ↓kD_11, ↓kO_11, ↓vD_12, ↓vO_12, ↓rD_12, ↓rO_12, ↓kD_12, ↓kO_12, ↓vD_13, ↓vO_13, ↓rD_13, ↓rO_13, ↓kD_13, ↓kO_13, ↓vD_14, ↓vO_14, ↓rD_14, ↓rO_14, ↓kD_14, ↓kO_14, ↓vD_15, ↓vO_15, ↓rD_15, ↓rO_15, ↓kD_15, ↓kO_15]
def nextOf (day : Int) (ts : List Int) (t0 m : Int) : Int := m - m % day + ((ts.filter fun x => decide (m % day ≤ x)).head?).getD (day + t0)
theorem r_next_of {m : Int} (hd : 0 < day) (hl : ts.length ≤ 1000) (h0 : ts.head? = some t0) : Ok den_next_of [.dat (.int day), .dat (.tup (ts.map .int)), .dat (.int m)] Q ↔ Q (.dat (.int (nextOf day ts t0 m))) [.un, .un, .un] := by
  refine ok_det ?_
  obtain ⟨r, rfl⟩ : ∃ r, ts = t0 :: r := by cases ts with
    | nil => cases h0
    | cons a b => cases h0; exact ⟨b, rfl⟩
  simp (disch := first | omega | rfl) only [↓ok_d1, ↓ok_d2, ↓ok_d3, ↓ok_d4, ↓ok_d5, ↓ok_d6, ↓ok_d7, ↓ok_bind, ↓ok_ret, ↓ok_bad, ↓ok_mV, ↓ok_rdD, ↓ok_rdT, ↓ok_dtD, ↓ok_dtT, ↓ok_rds0, ↓ok_rdsC, ↓ok_dts0, ↓ok_dtsC, ↓ok_nil, ↓ok_cons, ↓ok_bin, ↓ok_cb, ↓ok_tup, ↓ok_lst, ↓ok_tru, ↓ok_truB, ↓ok_truI, ↓ok_truN, ↓ok_truL, ↓ok_truT, ↓ok_and, ↓ok_or, ↓ok_not, ↓ok_ifE, ↓ok_andV, ↓ok_orV, ↓ok_notV, ↓ok_neg, ↓ok_chain, ↓ok_seq, ↓ok_skip, ↓ok_retS, ↓ok_retN, ↓ok_bk, ↓ok_ct, ↓ok_ex1, ↓ok_if, ↓ok_set, ↓ok_setP, ↓ok_asg, ↓ok_gN, ↓ok_gsN, ↓ok_gsC, ↓ok_gT, ↓ok_gSb, ↓ok_par, ↓ok_put, ↓ok_get, ↓ok_run, ↓ok_call, ↓ok_callK, ↓ok_make, ↓ok_prop, ↓ok_for, ↓ok_items, ↓ok_rng1, ↓ok_rng2, ↓ok_comp, ↓ok_yes, ↓ok_compS0, ↓ok_compSC, wipeE, ↓ok_sl, ↓ok_noP, ↓ok_pt, ↓ok_slL, ↓ok_slT, ↓ok_rep, ↓ok_app, ↓ok_oSub, ↓ok_oMul, ↓ok_oDiv, ↓ok_oMod, ↓ok_oPow, ↓ok_oLt, ↓ok_oLe, ↓ok_oGt, ↓ok_oGe, ↓ok_oAdd, ↓ok_oAddL, ↓ok_oAddI, ↓ok_oEqI, ↓ok_oEqL, ↓ok_oEqT, ↓ok_oEqB, ↓ok_oEqN, ↓ok_oEqS, ↓ok_oNeI, ↓ok_oNeL, ↓ok_oNeT, ↓ok_oNeB, ↓ok_oNeN, ↓ok_oNeS, ↓ok_oIs, ↓ok_oIsN, ↓ix_0, ↓ix_1, ↓ix_2, ↓ix_3, ↓ix_4, ↓it_0, ↓it_1, ↓it_2, ↓it_3, ixn_0, ixn_1, ixn_2, ↓ok_len, ↓ok_lenT, ↓ok_absI, ↓ok_intI, ↓ok_max2, ↓ok_min2, ↓ok_max3, ↓ok_min3, ↓ok_dm, ↓ok_repr, argsE, backE, outE, Pu.M.dt, List.getElem?_cons_zero, List.getElem?_cons_succ, List.set_cons_zero, List.set_cons_succ, List.take_succ_cons, List.take_zero, List.replicate_zero, List.replicate_succ, List.append_nil, List.nil_append, List.cons_append, List.length_cons, List.length_nil, Nat.sub_self, Nat.reduceSub, Nat.reduceAdd, Nat.reduceLeDiff, decide_true, decide_false, reduceCtorEq, noBor, setsE, slotOf, setsS, putFs, putVs, lookV, sel, isNon, Bool.not_true, Bool.not_false, Bool.not_eq_true, decide_eq_true_eq, decide_eq_false_iff_not, Bool.true_eq_false, Bool.false_eq_true, false_implies, true_implies, and_true, true_and, not_true_eq_false, not_false_eq_true, and_self, implies_true, or_false, false_or, List.flatten_cons, List.flatten_nil, true_or, or_true, Int.sub_zero, eq_self, veq_int, veq_str, cMod, cDiv, cPow, cMul_r, cMul_l, strq, String.reduceEq, sz, szl, dOk_int, dOk_bl, dOk_non, if_true, if_false, Int.reducePow, Int.reduceToNat, Int.reduceMul, Int.reduceAdd, Int.reduceSub, Int.reduceNeg, Int.reduceLT, Int.reduceLE, Int.reduceGT, Int.reduceEq, gt_iff_lt, ge_iff_le, Nat.reducePow, Nat.reduceMul, Nat.reduceLT, Int.cast_ofNat_Int, false_and, and_false, Bool.and_true, Bool.true_and, Bool.and_false, Bool.false_and, Bool.or_true, Bool.true_or, Bool.or_false, Bool.false_or, ↓vD_0, ↓vO_0, ↓rD_0, ↓rO_0, ↓kD_0, ↓kO_0, ↓vD_1, ↓vO_1, ↓rD_1, ↓rO_1, ↓kD_1, ↓kO_1, ↓vD_2, ↓vO_2, ↓rD_2, ↓rO_2, ↓kD_2, ↓kO_2, ↓vD_3, ↓vO_3, ↓rD_3, ↓rO_3, ↓kD_3, ↓kO_3, ↓vD_4, ↓vO_4, ↓rD_4, ↓rO_4, ↓kD_4, ↓kO_4, ↓vD_5, ↓vO_5, ↓rD_5, ↓rO_5, ↓kD_5, ↓kO_5, ↓vD_6, ↓vO_6, ↓rD_6, ↓rO_6, ↓kD_6, ↓kO_6, ↓vD_7, ↓vO_7, ↓rD_7, ↓rO_7, ↓kD_7, ↓kO_7, ↓vD_8, ↓vO_8, ↓rD_8, ↓rO_8, ↓kD_8, ↓kO_8, ↓vD_9, ↓vO_9, ↓rD_9, ↓rO_9, ↓kD_9, ↓kO_9, ↓vD_10, ↓vO_10, ↓rD_10, ↓rO_10, ↓kD_10, ↓kO_10, ↓vD_11, ↓vO_11, ↓rD_11, ↓rO_11, ↓kD_11, ↓kO_11, ↓vD_12, ↓vO_12, ↓rD_12, ↓rO_12, ↓kD_12, ↓kO_12, ↓vD_13, ↓vO_13, ↓rD_13, ↓rO_13, ↓kD_13, ↓kO_13, ↓vD_14, ↓vO_14, ↓rD_14, ↓rO_14, ↓kD_14, ↓kO_14, ↓vD_15, ↓vO_15, ↓rD_15, ↓rO_15, ↓kD_15, ↓kO_15, ↓den_next_of, ↓b_next_of, ↓hd]
  refine Ok.mono (Ok.compG (fun v => match v with | .int x => decide (m % day ≤ x) | _ => false) id (by rw [sizeLine_eq]; simp at hl ⊢; omega) ?_) ?_
  · rintro v hv
    obtain ⟨x, _, rfl⟩ := List.mem_map.mp hv
    simp (disch := first | omega | rfl) only [↓ok_d1, ↓ok_d2, ↓ok_d3, ↓ok_d4, ↓ok_d5, ↓ok_d6, ↓ok_d7, ↓ok_bind, ↓ok_ret, ↓ok_bad, ↓ok_mV, ↓ok_rdD, ↓ok_rdT, ↓ok_dtD, ↓ok_dtT, ↓ok_rds0, ↓ok_rdsC, ↓ok_dts0, ↓ok_dtsC, ↓ok_nil, ↓ok_cons, ↓ok_bin, ↓ok_cb, ↓ok_tup, ↓ok_lst, ↓ok_tru, ↓ok_truB, ↓ok_truI, ↓ok_truN, ↓ok_truL, ↓ok_truT, ↓ok_and, ↓ok_or, ↓ok_not, ↓ok_ifE, ↓ok_andV, ↓ok_orV, ↓ok_notV, ↓ok_neg, ↓ok_chain, ↓ok_seq, ↓ok_skip, ↓ok_retS, ↓ok_retN, ↓ok_bk, ↓ok_ct, ↓ok_ex1, ↓ok_if, ↓ok_set, ↓ok_setP, ↓ok_asg, ↓ok_gN, ↓ok_gsN, ↓ok_gsC, ↓ok_gT, ↓ok_gSb, ↓ok_par, ↓ok_put, ↓ok_get, ↓ok_run, ↓ok_call, ↓ok_callK, ↓ok_make, ↓ok_prop, ↓ok_for, ↓ok_items, ↓ok_rng1, ↓ok_rng2, ↓ok_comp, ↓ok_yes, ↓ok_compS0, ↓ok_compSC, wipeE, ↓ok_sl, ↓ok_noP, ↓ok_pt, ↓ok_slL, ↓ok_slT, ↓ok_rep, ↓ok_app, ↓ok_oSub, ↓ok_oMul, ↓ok_oDiv, ↓ok_oMod, ↓ok_oPow, ↓ok_oLt, ↓ok_oLe, ↓ok_oGt, ↓ok_oGe, ↓ok_oAdd, ↓ok_oAddL, ↓ok_oAddI, ↓ok_oEqI, ↓ok_oEqL, ↓ok_oEqT, ↓ok_oEqB, ↓ok_oEqN, ↓ok_oEqS, ↓ok_oNeI, ↓ok_oNeL, ↓ok_oNeT, ↓ok_oNeB, ↓ok_oNeN, ↓ok_oNeS, ↓ok_oIs, ↓ok_oIsN, ↓ix_0, ↓ix_1, ↓ix_2, ↓ix_3, ↓ix_4, ↓it_0, ↓it_1, ↓it_2, ↓it_3, ixn_0, ixn_1, ixn_2, ↓ok_len, ↓ok_lenT, ↓ok_absI, ↓ok_intI, ↓ok_max2, ↓ok_min2, ↓ok_max3, ↓ok_min3, ↓ok_dm, ↓ok_repr, argsE, backE, outE, Pu.M.dt, List.getElem?_cons_zero, List.getElem?_cons_succ, List.set_cons_zero, List.set_cons_succ, List.take_succ_cons, List.take_zero, List.replicate_zero, List.replicate_succ, List.append_nil, List.nil_append, List.cons_append, List.length_cons, List.length_nil, Nat.sub_self, Nat.reduceSub, Nat.reduceAdd, Nat.reduceLeDiff, decide_true, decide_false, reduceCtorEq, noBor, setsE, slotOf, setsS, putFs, putVs, lookV, sel, isNon, Bool.not_true, Bool.not_false, Bool.not_eq_true, decide_eq_true_eq, decide_eq_false_iff_not, Bool.true_eq_false, Bool.false_eq_true, false_implies, true_implies, and_true, true_and, not_true_eq_false, not_false_eq_true, and_self, implies_true, or_false, false_or, List.flatten_cons, List.flatten_nil, true_or, or_true, Int.sub_zero, eq_self, veq_int, veq_str, cMod, cDiv, cPow, cMul_r, cMul_l, strq, String.reduceEq, sz, szl, dOk_int, dOk_bl, dOk_non, if_true, if_false, Int.reducePow, Int.reduceToNat, Int.reduceMul, Int.reduceAdd, Int.reduceSub, Int.reduceNeg, Int.reduceLT, Int.reduceLE, Int.reduceGT, Int.reduceEq, gt_iff_lt, ge_iff_le, Nat.reducePow, Nat.reduceMul, Nat.reduceLT, Int.cast_ofNat_Int, false_and, and_false, Bool.and_true, Bool.true_and, Bool.and_false, Bool.false_and, Bool.or_true, Bool.true_or, Bool.or_false, Bool.false_or, ↓vD_0, ↓vO_0, ↓rD_0, ↓rO_0, ↓kD_0, ↓kO_0, ↓vD_1, ↓vO_1, ↓rD_1, ↓rO_1, ↓kD_1, ↓kO_1, ↓vD_2, ↓vO_2, ↓rD_2, ↓rO_2, ↓kD_2, ↓kO_2, ↓vD_3, ↓vO_3, ↓rD_3, ↓rO_3, ↓kD_3, ↓kO_3, ↓vD_4, ↓vO_4, ↓rD_4, ↓rO_4, ↓kD_4, ↓kO_4, ↓vD_5, ↓vO_5, ↓rD_5, ↓rO_5, ↓kD_5, ↓kO_5, ↓vD_6, ↓vO_6, ↓rD_6, ↓rO_6, ↓kD_6, ↓kO_6, ↓vD_7, ↓vO_7, ↓rD_7, ↓rO_7, ↓kD_7, ↓kO_7, ↓vD_8, ↓vO_8, ↓rD_8, ↓rO_8, ↓kD_8, ↓kO_8, ↓vD_9, ↓vO_9, ↓rD_9, ↓rO_9, ↓kD_9, ↓kO_9, ↓vD_10, ↓vO_10, ↓rD_10, ↓rO_10, ↓kD_10, ↓kO_10, ↓vD_11, ↓vO_11, ↓rD_11, ↓rO_11, ↓kD_11, ↓kO_11, ↓vD_12, ↓vO_12, ↓rD_12, ↓rO_12, ↓kD_12, ↓kO_12, ↓vD_13, ↓vO_13, ↓rD_13, ↓rO_13, ↓kD_13, ↓kO_13, ↓vD_14, ↓vO_14, ↓rD_14, ↓rO_14, ↓kD_14, ↓kO_14, ↓vD_15, ↓vO_15, ↓rD_15, ↓rO_15, ↓kD_15, ↓kO_15]
    exact fun _ => rfl
  · rintro x e ⟨rfl, rfl⟩
    rw [List.nil_append, List.map_id, List.filter_map, show (fun v => match v with | Val.int x => decide (m % day ≤ x) | _ => false) ∘ Val.int = fun x => decide (m % day ≤ x) from rfl]
    unfold nextOf
    cases hf : (t0 :: r).filter fun x => decide (m % day ≤ x) with
    | nil =>
      simp (disch := first | omega | rfl) only [↓ok_d1, ↓ok_d2, ↓ok_d3, ↓ok_d4, ↓ok_d5, ↓ok_d6, ↓ok_d7, ↓ok_bind, ↓ok_ret, ↓ok_bad, ↓ok_mV, ↓ok_rdD, ↓ok_rdT, ↓ok_dtD, ↓ok_dtT, ↓ok_rds0, ↓ok_rdsC, ↓ok_dts0, ↓ok_dtsC, ↓ok_nil, ↓ok_cons, ↓ok_bin, ↓ok_cb, ↓ok_tup, ↓ok_lst, ↓ok_tru, ↓ok_truB, ↓ok_truI, ↓ok_truN, ↓ok_truL, ↓ok_truT, ↓ok_and, ↓ok_or, ↓ok_not, ↓ok_ifE, ↓ok_andV, ↓ok_orV, ↓ok_notV, ↓ok_neg, ↓ok_chain, ↓ok_seq, ↓ok_skip, ↓ok_retS, ↓ok_retN, ↓ok_bk, ↓ok_ct, ↓ok_ex1, ↓ok_if, ↓ok_set, ↓ok_setP, ↓ok_asg, ↓ok_gN, ↓ok_gsN, ↓ok_gsC, ↓ok_gT, ↓ok_gSb, ↓ok_par, ↓ok_put, ↓ok_get, ↓ok_run, ↓ok_call, ↓ok_callK, ↓ok_make, ↓ok_prop, ↓ok_for, ↓ok_items, ↓ok_rng1, ↓ok_rng2, ↓ok_comp, ↓ok_yes, ↓ok_compS0, ↓ok_compSC, wipeE, ↓ok_sl, ↓ok_noP, ↓ok_pt, ↓ok_slL, ↓ok_slT, ↓ok_rep, ↓ok_app, ↓ok_oSub, ↓ok_oMul, ↓ok_oDiv, ↓ok_oMod, ↓ok_oPow, ↓ok_oLt, ↓ok_oLe, ↓ok_oGt, ↓ok_oGe, ↓ok_oAdd, ↓ok_oAddL, ↓ok_oAddI, ↓ok_oEqI, ↓ok_oEqL, ↓ok_oEqT, ↓ok_oEqB, ↓ok_oEqN, ↓ok_oEqS, ↓ok_oNeI, ↓ok_oNeL, ↓ok_oNeT, ↓ok_oNeB, ↓ok_oNeN, ↓ok_oNeS, ↓ok_oIs, ↓ok_oIsN, ↓ix_0, ↓ix_1, ↓ix_2, ↓ix_3, ↓ix_4, ↓it_0, ↓it_1, ↓it_2, ↓it_3, ixn_0, ixn_1, ixn_2, ↓ok_len, ↓ok_lenT, ↓ok_absI, ↓ok_intI, ↓ok_max2, ↓ok_min2, ↓ok_max3, ↓ok_min3, ↓ok_dm, ↓ok_repr, argsE, backE, outE, Pu.M.dt, List.getElem?_cons_zero, List.getElem?_cons_succ, List.set_cons_zero, List.set_cons_succ, List.take_succ_cons, List.take_zero, List.replicate_zero, List.replicate_succ, List.append_nil, List.nil_append, List.cons_append, List.length_cons, List.length_nil, Nat.sub_self, Nat.reduceSub, Nat.reduceAdd, Nat.reduceLeDiff, decide_true, decide_false, reduceCtorEq, noBor, setsE, slotOf, setsS, putFs, putVs, lookV, sel, isNon, Bool.not_true, Bool.not_false, Bool.not_eq_true, decide_eq_true_eq, decide_eq_false_iff_not, Bool.true_eq_false, Bool.false_eq_true, false_implies, true_implies, and_true, true_and, not_true_eq_false, not_false_eq_true, and_self, implies_true, or_false, false_or, List.flatten_cons, List.flatten_nil, true_or, or_true, Int.sub_zero, eq_self, veq_int, veq_str, cMod, cDiv, cPow, cMul_r, cMul_l, strq, String.reduceEq, sz, szl, dOk_int, dOk_bl, dOk_non, if_true, if_false, Int.reducePow, Int.reduceToNat, Int.reduceMul, Int.reduceAdd, Int.reduceSub, Int.reduceNeg, Int.reduceLT, Int.reduceLE, Int.reduceGT, Int.reduceEq, gt_iff_lt, ge_iff_le, Nat.reducePow, Nat.reduceMul, Nat.reduceLT, Int.cast_ofNat_Int, false_and, and_false, Bool.and_true, Bool.true_and, Bool.and_false, Bool.false_and, Bool.or_true, Bool.true_or, Bool.or_false, Bool.false_or, ↓vD_0, ↓vO_0, ↓rD_0, ↓rO_0, ↓kD_0, ↓kO_0, ↓vD_1, ↓vO_1, ↓rD_1, ↓rO_1, ↓kD_1, ↓kO_1, ↓vD_2, ↓vO_2, ↓rD_2, ↓rO_2, ↓kD_2, ↓kO_2, ↓vD_3, ↓vO_3, ↓rD_3, ↓rO_3, ↓kD_3, ↓kO_3, ↓vD_4, ↓vO_4, ↓rD_4, ↓rO_4, ↓kD_4, ↓kO_4, ↓vD_5, ↓vO_5, ↓rD_5, ↓rO_5, ↓kD_5, ↓kO_5, ↓vD_6, ↓vO_6, ↓rD_6, ↓rO_6, ↓kD_6, ↓kO_6, ↓vD_7, ↓vO_7, ↓rD_7, ↓rO_7, ↓kD_7, ↓kO_7, ↓vD_8, ↓vO_8, ↓rD_8, ↓rO_8, ↓kD_8, ↓kO_8, ↓vD_9, ↓vO_9, ↓rD_9, ↓rO_9, ↓kD_9, ↓kO_9, ↓vD_10, ↓vO_10, ↓rD_10, ↓rO_10, ↓kD_10, ↓kO_10, ↓vD_11, ↓vO_11, ↓rD_11, ↓rO_11, ↓kD_11, ↓kO_11, ↓vD_12, ↓vO_12, ↓rD_12, ↓rO_12, ↓kD_12, ↓kO_12, ↓vD_13, ↓vO_13, ↓rD_13, ↓rO_13, ↓kD_13, ↓kO_13, ↓vD_14, ↓vO_14, ↓rD_14, ↓rO_14, ↓kD_14, ↓kO_14, ↓vD_15, ↓vO_15, ↓rD_15, ↓rO_15, ↓kD_15, ↓kO_15, ↓List.map_nil, ↓List.map_cons, ↓dOk_nilL, ↓veq_nilL]
      simp
    | cons a b =>
      have e1 : dOk (.lst ((a :: b).map .int)) = true := by rw [dOk_is]; trivial
      have e2 : veq (.lst ((a :: b).map .int)) (.lst []) = false := veq_no (by simp [nb, nbs, nb_is]) rfl (by simp)
      rw [List.map_cons] at e1 e2
      simp (disch := first | omega | rfl) only [↓ok_d1, ↓ok_d2, ↓ok_d3, ↓ok_d4, ↓ok_d5, ↓ok_d6, ↓ok_d7, ↓ok_bind, ↓ok_ret, ↓ok_bad, ↓ok_mV, ↓ok_rdD, ↓ok_rdT, ↓ok_dtD, ↓ok_dtT, ↓ok_rds0, ↓ok_rdsC, ↓ok_dts0, ↓ok_dtsC, ↓ok_nil, ↓ok_cons, ↓ok_bin, ↓ok_cb, ↓ok_tup, ↓ok_lst, ↓ok_tru, ↓ok_truB, ↓ok_truI, ↓ok_truN, ↓ok_truL, ↓ok_truT, ↓ok_and, ↓ok_or, ↓ok_not, ↓ok_ifE, ↓ok_andV, ↓ok_orV, ↓ok_notV, ↓ok_neg, ↓ok_chain, ↓ok_seq, ↓ok_skip, ↓ok_retS, ↓ok_retN, ↓ok_bk, ↓ok_ct, ↓ok_ex1, ↓ok_if, ↓ok_set, ↓ok_setP, ↓ok_asg, ↓ok_gN, ↓ok_gsN, ↓ok_gsC, ↓ok_gT, ↓ok_gSb, ↓ok_par, ↓ok_put, ↓ok_get, ↓ok_run, ↓ok_call, ↓ok_callK, ↓ok_make, ↓ok_prop, ↓ok_for, ↓ok_items, ↓ok_rng1, ↓ok_rng2, ↓ok_comp, ↓ok_yes, ↓ok_compS0, ↓ok_compSC, wipeE, ↓ok_sl, ↓ok_noP, ↓ok_pt, ↓ok_slL, ↓ok_slT, ↓ok_rep, ↓ok_app, ↓ok_oSub, ↓ok_oMul, ↓ok_oDiv, ↓ok_oMod, ↓ok_oPow, ↓ok_oLt, ↓ok_oLe, ↓ok_oGt, ↓ok_oGe, ↓ok_oAdd, ↓ok_oAddL, ↓ok_oAddI, ↓ok_oEqI, ↓ok_oEqL, ↓ok_oEqT, ↓ok_oEqB, ↓ok_oEqN, ↓ok_oEqS, ↓ok_oNeI, ↓ok_oNeL, ↓ok_oNeT, ↓ok_oNeB, ↓ok_oNeN, ↓ok_oNeS, ↓ok_oIs, ↓ok_oIsN, ↓ix_0, ↓ix_1, ↓ix_2, ↓ix_3, ↓ix_4, ↓it_0, ↓it_1, ↓it_2, ↓it_3, ixn_0, ixn_1, ixn_2, ↓ok_len, ↓ok_lenT, ↓ok_absI, ↓ok_intI, ↓ok_max2, ↓ok_min2, ↓ok_max3, ↓ok_min3, ↓ok_dm, ↓ok_repr, argsE, backE, outE, Pu.M.dt, List.getElem?_cons_zero, List.getElem?_cons_succ, List.set_cons_zero, List.set_cons_succ, List.take_succ_cons, List.take_zero, List.replicate_zero, List.replicate_succ, List.append_nil, List.nil_append, List.cons_append, List.length_cons, List.length_nil, Nat.sub_self, Nat.reduceSub, Nat.reduceAdd, Nat.reduceLeDiff, decide_true, decide_false, reduceCtorEq, noBor, setsE, slotOf, setsS, putFs, putVs, lookV, sel, isNon, Bool.not_true, Bool.not_false, Bool.not_eq_true, decide_eq_true_eq, decide_eq_false_iff_not, Bool.true_eq_false, Bool.false_eq_true, false_implies, true_implies, and_true, true_and, not_true_eq_false, not_false_eq_true, and_self, implies_true, or_false, false_or, List.flatten_cons, List.flatten_nil, true_or, or_true, Int.sub_zero, eq_self, veq_int, veq_str, cMod, cDiv, cPow, cMul_r, cMul_l, strq, String.reduceEq, sz, szl, dOk_int, dOk_bl, dOk_non, if_true, if_false, Int.reducePow, Int.reduceToNat, Int.reduceMul, Int.reduceAdd, Int.reduceSub, Int.reduceNeg, Int.reduceLT, Int.reduceLE, Int.reduceGT, Int.reduceEq, gt_iff_lt, ge_iff_le, Nat.reducePow, Nat.reduceMul, Nat.reduceLT, Int.cast_ofNat_Int, false_and, and_false, Bool.and_true, Bool.true_and, Bool.and_false, Bool.false_and, Bool.or_true, Bool.true_or, Bool.or_false, Bool.false_or, ↓vD_0, ↓vO_0, ↓rD_0, ↓rO_0, ↓kD_0, ↓kO_0, ↓vD_1, ↓vO_1, ↓rD_1, ↓rO_1, ↓kD_1, ↓kO_1, ↓vD_2, ↓vO_2, ↓rD_2, ↓rO_2, ↓kD_2, ↓kO_2, ↓vD_3, ↓vO_3, ↓rD_3, ↓rO_3, ↓kD_3, ↓kO_3, ↓vD_4, ↓vO_4, ↓rD_4, ↓rO_4, ↓kD_4, ↓kO_4, ↓vD_5, ↓vO_5, ↓rD_5, ↓rO_5, ↓kD_5, ↓kO_5, ↓vD_6, ↓vO_6, ↓rD_6, ↓rO_6, ↓kD_6, ↓kO_6, ↓vD_7, ↓vO_7, ↓rD_7, ↓rO_7, ↓kD_7, ↓kO_7, ↓vD_8, ↓vO_8, ↓rD_8, ↓rO_8, ↓kD_8, ↓kO_8, ↓vD_9, ↓vO_9, ↓rD_9, ↓rO_9, ↓kD_9, ↓kO_9, ↓vD_10, ↓vO_10, ↓rD_10, ↓rO_10, ↓kD_10, ↓kO_10, ↓vD_11, ↓vO_11, ↓rD_11, ↓rO_11, ↓kD_11, ↓kO_11, ↓vD_12, ↓vO_12, ↓rD_12, ↓rO_12, ↓kD_12, ↓kO_12, ↓vD_13, ↓vO_13, ↓rD_13, ↓rO_13, ↓kD_13, ↓kO_13, ↓vD_14, ↓vO_14, ↓rD_14, ↓rO_14, ↓kD_14, ↓kO_14, ↓vD_15, ↓vO_15, ↓rD_15, ↓rO_15, ↓kD_15, ↓kO_15, ↓List.map_cons, ↓e1, ↓e2, ↓dOk_nilL]
      simp
theorem later_mod {m x : Int} (hd : 0 < day) (h0 : 0 ≤ x) (h1 : x < day) : (x - m) % day = if m % day ≤ x then x - m % day else x - m % day + day := by
  have e0 : (x - m) % day = (x - m % day) % day := by rw [Int.sub_emod, Int.sub_emod x (m % day), Int.emod_emod_of_dvd _ (Int.dvd_refl day)]
  have r0 := Int.emod_nonneg m (show day ≠ 0 by omega)
  have r1 := Int.emod_lt_of_pos m hd
  rw [e0]
  split
  · exact Int.emod_eq_of_lt (by omega) (by omega)
  · rw [← Int.add_emod_right]
    exact Int.emod_eq_of_lt (by omega) (by omega)
theorem next_least {m : Int} (T : Times day ts) (h0 : ts.head? = some t0) : (∃ x ∈ ts, m + (x - m) % day = nextOf day ts t0 m) ∧ ∀ x ∈ ts, nextOf day ts t0 m ≤ m + (x - m) % day := by
  have hd : 0 < day := by have := T.day1; omega
  have r0 := Int.emod_nonneg m (show day ≠ 0 by omega)
  have r1 := Int.emod_lt_of_pos m hd
  have m0 : t0 ∈ ts := List.mem_of_mem_head? h0
  have least0 : ∀ x ∈ ts, t0 ≤ x := by
    cases ts with
    | nil => cases h0
    | cons a b =>
      cases h0
      intro x hx
      rcases List.mem_cons.mp hx with rfl | hx
      · omega
      · have := (List.pairwise_cons.mp T.ris).1 x hx
        omega
  have val : ∀ x ∈ ts, m + (x - m) % day = m - m % day + if m % day ≤ x then x else x + day := fun x hx => by
    rw [later_mod hd (T.low x hx) (T.high x hx)]
    split <;> omega
  unfold nextOf
  cases hf : ts.filter fun x => decide (m % day ≤ x) with
  | nil =>
    have none_ : ∀ x ∈ ts, ¬ m % day ≤ x := fun x hx q => by
      have : x ∈ ts.filter fun x => decide (m % day ≤ x) := List.mem_filter.mpr ⟨hx, by simpa using q⟩
      rw [hf] at this
      simp at this
    simp only [List.head?_nil, Option.getD_none]
    refine ⟨⟨t0, m0, ?_⟩, fun x hx => ?_⟩
    · rw [val t0 m0, if_neg (none_ t0 m0)]
      omega
    · rw [val x hx, if_neg (none_ x hx)]
      have := least0 x hx
      omega
  | cons a b =>
    have ma : a ∈ ts.filter fun x => decide (m % day ≤ x) := by rw [hf]; exact List.mem_cons_self
    obtain ⟨a1, a2⟩ := List.mem_filter.mp ma
    have a3 : m % day ≤ a := by simpa using a2
    simp only [List.head?_cons, Option.getD_some]
    refine ⟨⟨a, a1, by rw [val a a1, if_pos a3]⟩, fun x hx => ?_⟩
    rw [val x hx]
    have ha := T.high a a1
    split
    · rename_i hx2
      have mx : x ∈ ts.filter fun x => decide (m % day ≤ x) := List.mem_filter.mpr ⟨hx, by simpa using hx2⟩
      rw [hf] at mx
      have rs : (a :: b).Pairwise (· < ·) := by rw [← hf]; exact T.ris.filter _
      rcases List.mem_cons.mp mx with rfl | mx
      · omega
      · have := (List.pairwise_cons.mp rs).1 x mx
        omega
    · have := T.low x hx
      omega
def cameB (day : Int) (ts : List Int) (low high : Int) : Bool := ts.any fun x => decide (low + (x - low) % day ≤ high)
theorem came_iff {low high : Int} (T : Times day ts) (h0 : ts.head? = some t0) : cameB day ts low high = decide (nextOf day ts t0 low ≤ high) := by
  obtain ⟨⟨x, hx, e⟩, h⟩ := next_least (m := low) T h0
  rw [Bool.eq_iff_iff, decide_eq_true_eq]
  unfold cameB
  rw [List.any_eq_true]
  constructor
  · rintro ⟨y, hy, q⟩
    have := h y hy
    have := of_decide_eq_true q
    omega
  · intro q
    exact ⟨x, hx, decide_eq_true (by omega)⟩
theorem r_behind {a : Int} (hs : 0 < s) (hd : 0 < day) (hl : ts.length ≤ 1000) (h0 : ts.head? = some t0) : Ok den_behind [.dat (rV s l p t), .dat (dV day ts), .dat (.int a)] Q ↔ Q (.dat (.int (nextOf day ts t0 (markV t s a + l + 1)))) [.un, .un, .un] := by
  simp (disch := first | omega | rfl) only [↓ok_d1, ↓ok_d2, ↓ok_d3, ↓ok_d4, ↓ok_d5, ↓ok_d6, ↓ok_d7, ↓ok_bind, ↓ok_ret, ↓ok_bad, ↓ok_mV, ↓ok_rdD, ↓ok_rdT, ↓ok_dtD, ↓ok_dtT, ↓ok_rds0, ↓ok_rdsC, ↓ok_dts0, ↓ok_dtsC, ↓ok_nil, ↓ok_cons, ↓ok_bin, ↓ok_cb, ↓ok_tup, ↓ok_lst, ↓ok_tru, ↓ok_truB, ↓ok_truI, ↓ok_truN, ↓ok_truL, ↓ok_truT, ↓ok_and, ↓ok_or, ↓ok_not, ↓ok_ifE, ↓ok_andV, ↓ok_orV, ↓ok_notV, ↓ok_neg, ↓ok_chain, ↓ok_seq, ↓ok_skip, ↓ok_retS, ↓ok_retN, ↓ok_bk, ↓ok_ct, ↓ok_ex1, ↓ok_if, ↓ok_set, ↓ok_setP, ↓ok_asg, ↓ok_gN, ↓ok_gsN, ↓ok_gsC, ↓ok_gT, ↓ok_gSb, ↓ok_par, ↓ok_put, ↓ok_get, ↓ok_run, ↓ok_call, ↓ok_callK, ↓ok_make, ↓ok_prop, ↓ok_for, ↓ok_items, ↓ok_rng1, ↓ok_rng2, ↓ok_comp, ↓ok_yes, ↓ok_compS0, ↓ok_compSC, wipeE, ↓ok_sl, ↓ok_noP, ↓ok_pt, ↓ok_slL, ↓ok_slT, ↓ok_rep, ↓ok_app, ↓ok_oSub, ↓ok_oMul, ↓ok_oDiv, ↓ok_oMod, ↓ok_oPow, ↓ok_oLt, ↓ok_oLe, ↓ok_oGt, ↓ok_oGe, ↓ok_oAdd, ↓ok_oAddL, ↓ok_oAddI, ↓ok_oEqI, ↓ok_oEqL, ↓ok_oEqT, ↓ok_oEqB, ↓ok_oEqN, ↓ok_oEqS, ↓ok_oNeI, ↓ok_oNeL, ↓ok_oNeT, ↓ok_oNeB, ↓ok_oNeN, ↓ok_oNeS, ↓ok_oIs, ↓ok_oIsN, ↓ix_0, ↓ix_1, ↓ix_2, ↓ix_3, ↓ix_4, ↓it_0, ↓it_1, ↓it_2, ↓it_3, ixn_0, ixn_1, ixn_2, ↓ok_len, ↓ok_lenT, ↓ok_absI, ↓ok_intI, ↓ok_max2, ↓ok_min2, ↓ok_max3, ↓ok_min3, ↓ok_dm, ↓ok_repr, argsE, backE, outE, Pu.M.dt, List.getElem?_cons_zero, List.getElem?_cons_succ, List.set_cons_zero, List.set_cons_succ, List.take_succ_cons, List.take_zero, List.replicate_zero, List.replicate_succ, List.append_nil, List.nil_append, List.cons_append, List.length_cons, List.length_nil, Nat.sub_self, Nat.reduceSub, Nat.reduceAdd, Nat.reduceLeDiff, decide_true, decide_false, reduceCtorEq, noBor, setsE, slotOf, setsS, putFs, putVs, lookV, sel, isNon, Bool.not_true, Bool.not_false, Bool.not_eq_true, decide_eq_true_eq, decide_eq_false_iff_not, Bool.true_eq_false, Bool.false_eq_true, false_implies, true_implies, and_true, true_and, not_true_eq_false, not_false_eq_true, and_self, implies_true, or_false, false_or, List.flatten_cons, List.flatten_nil, true_or, or_true, Int.sub_zero, eq_self, veq_int, veq_str, cMod, cDiv, cPow, cMul_r, cMul_l, strq, String.reduceEq, sz, szl, dOk_int, dOk_bl, dOk_non, if_true, if_false, Int.reducePow, Int.reduceToNat, Int.reduceMul, Int.reduceAdd, Int.reduceSub, Int.reduceNeg, Int.reduceLT, Int.reduceLE, Int.reduceGT, Int.reduceEq, gt_iff_lt, ge_iff_le, Nat.reducePow, Nat.reduceMul, Nat.reduceLT, Int.cast_ofNat_Int, false_and, and_false, Bool.and_true, Bool.true_and, Bool.and_false, Bool.false_and, Bool.or_true, Bool.true_or, Bool.or_false, Bool.false_or, ↓vD_0, ↓vO_0, ↓rD_0, ↓rO_0, ↓kD_0, ↓kO_0, ↓vD_1, ↓vO_1, ↓rD_1, ↓rO_1, ↓kD_1, ↓kO_1, ↓vD_2, ↓vO_2, ↓rD_2, ↓rO_2, ↓kD_2, ↓kO_2, ↓vD_3, ↓vO_3, ↓rD_3, ↓rO_3, ↓kD_3, ↓kO_3, ↓vD_4, ↓vO_4, ↓rD_4, ↓rO_4, ↓kD_4, ↓kO_4, ↓vD_5, ↓vO_5, ↓rD_5, ↓rO_5, ↓kD_5, ↓kO_5, ↓vD_6, ↓vO_6, ↓rD_6, ↓rO_6, ↓kD_6, ↓kO_6, ↓vD_7, ↓vO_7, ↓rD_7, ↓rO_7, ↓kD_7, ↓kO_7, ↓vD_8, ↓vO_8, ↓rD_8, ↓rO_8, ↓kD_8, ↓kO_8, ↓vD_9, ↓vO_9, ↓rD_9, ↓rO_9, ↓kD_9, ↓kO_9, ↓vD_10, ↓vO_10, ↓rD_10, ↓rO_10, ↓kD_10, ↓kO_10, ↓vD_11, ↓vO_11, ↓rD_11, ↓rO_11, ↓kD_11, ↓kO_11, ↓vD_12, ↓vO_12, ↓rD_12, ↓rO_12, ↓kD_12, ↓kO_12, ↓vD_13, ↓vO_13, ↓rD_13, ↓rO_13, ↓kD_13, ↓kO_13, ↓vD_14, ↓vO_14, ↓rD_14, ↓rO_14, ↓kD_14, ↓kO_14, ↓vD_15, ↓vO_15, ↓rD_15, ↓rO_15, ↓kD_15, ↓kO_15, ↓den_behind, ↓b_behind, ↓r_Rounds__day, ↓r_Rounds__times, ↓r_mark_at hs, ↓r_next_of hd hl h0]
theorem r_free_stay {a : Int} (hs : 0 < s) (T : Times day ts) (h0 : ts.head? = some t0) (h1 : 0 ≤ a) (h2 : a ≤ 1000000000000000000000000000000) : Ok den_free_stay [.dat (rV s l p t), .dat (dV day ts), .dat (.int a)] Q ↔ Q (.dat (.int (nextOf day ts t0 (markV t s a + l + 1) - 1 - a))) [.un, .un, .un] := by
  have hd : 0 < day := by have := T.day1; omega
  have hl : ts.length ≤ 1000 := by have := T.few; omega
  simp (disch := first | omega | rfl) only [↓ok_d1, ↓ok_d2, ↓ok_d3, ↓ok_d4, ↓ok_d5, ↓ok_d6, ↓ok_d7, ↓ok_bind, ↓ok_ret, ↓ok_bad, ↓ok_mV, ↓ok_rdD, ↓ok_rdT, ↓ok_dtD, ↓ok_dtT, ↓ok_rds0, ↓ok_rdsC, ↓ok_dts0, ↓ok_dtsC, ↓ok_nil, ↓ok_cons, ↓ok_bin, ↓ok_cb, ↓ok_tup, ↓ok_lst, ↓ok_tru, ↓ok_truB, ↓ok_truI, ↓ok_truN, ↓ok_truL, ↓ok_truT, ↓ok_and, ↓ok_or, ↓ok_not, ↓ok_ifE, ↓ok_andV, ↓ok_orV, ↓ok_notV, ↓ok_neg, ↓ok_chain, ↓ok_seq, ↓ok_skip, ↓ok_retS, ↓ok_retN, ↓ok_bk, ↓ok_ct, ↓ok_ex1, ↓ok_if, ↓ok_set, ↓ok_setP, ↓ok_asg, ↓ok_gN, ↓ok_gsN, ↓ok_gsC, ↓ok_gT, ↓ok_gSb, ↓ok_par, ↓ok_put, ↓ok_get, ↓ok_run, ↓ok_call, ↓ok_callK, ↓ok_make, ↓ok_prop, ↓ok_for, ↓ok_items, ↓ok_rng1, ↓ok_rng2, ↓ok_comp, ↓ok_yes, ↓ok_compS0, ↓ok_compSC, wipeE, ↓ok_sl, ↓ok_noP, ↓ok_pt, ↓ok_slL, ↓ok_slT, ↓ok_rep, ↓ok_app, ↓ok_oSub, ↓ok_oMul, ↓ok_oDiv, ↓ok_oMod, ↓ok_oPow, ↓ok_oLt, ↓ok_oLe, ↓ok_oGt, ↓ok_oGe, ↓ok_oAdd, ↓ok_oAddL, ↓ok_oAddI, ↓ok_oEqI, ↓ok_oEqL, ↓ok_oEqT, ↓ok_oEqB, ↓ok_oEqN, ↓ok_oEqS, ↓ok_oNeI, ↓ok_oNeL, ↓ok_oNeT, ↓ok_oNeB, ↓ok_oNeN, ↓ok_oNeS, ↓ok_oIs, ↓ok_oIsN, ↓ix_0, ↓ix_1, ↓ix_2, ↓ix_3, ↓ix_4, ↓it_0, ↓it_1, ↓it_2, ↓it_3, ixn_0, ixn_1, ixn_2, ↓ok_len, ↓ok_lenT, ↓ok_absI, ↓ok_intI, ↓ok_max2, ↓ok_min2, ↓ok_max3, ↓ok_min3, ↓ok_dm, ↓ok_repr, argsE, backE, outE, Pu.M.dt, List.getElem?_cons_zero, List.getElem?_cons_succ, List.set_cons_zero, List.set_cons_succ, List.take_succ_cons, List.take_zero, List.replicate_zero, List.replicate_succ, List.append_nil, List.nil_append, List.cons_append, List.length_cons, List.length_nil, Nat.sub_self, Nat.reduceSub, Nat.reduceAdd, Nat.reduceLeDiff, decide_true, decide_false, reduceCtorEq, noBor, setsE, slotOf, setsS, putFs, putVs, lookV, sel, isNon, Bool.not_true, Bool.not_false, Bool.not_eq_true, decide_eq_true_eq, decide_eq_false_iff_not, Bool.true_eq_false, Bool.false_eq_true, false_implies, true_implies, and_true, true_and, not_true_eq_false, not_false_eq_true, and_self, implies_true, or_false, false_or, List.flatten_cons, List.flatten_nil, true_or, or_true, Int.sub_zero, eq_self, veq_int, veq_str, cMod, cDiv, cPow, cMul_r, cMul_l, strq, String.reduceEq, sz, szl, dOk_int, dOk_bl, dOk_non, if_true, if_false, Int.reducePow, Int.reduceToNat, Int.reduceMul, Int.reduceAdd, Int.reduceSub, Int.reduceNeg, Int.reduceLT, Int.reduceLE, Int.reduceGT, Int.reduceEq, gt_iff_lt, ge_iff_le, Nat.reducePow, Nat.reduceMul, Nat.reduceLT, Int.cast_ofNat_Int, false_and, and_false, Bool.and_true, Bool.true_and, Bool.and_false, Bool.false_and, Bool.or_true, Bool.true_or, Bool.or_false, Bool.false_or, ↓vD_0, ↓vO_0, ↓rD_0, ↓rO_0, ↓kD_0, ↓kO_0, ↓vD_1, ↓vO_1, ↓rD_1, ↓rO_1, ↓kD_1, ↓kO_1, ↓vD_2, ↓vO_2, ↓rD_2, ↓rO_2, ↓kD_2, ↓kO_2, ↓vD_3, ↓vO_3, ↓rD_3, ↓rO_3, ↓kD_3, ↓kO_3, ↓vD_4, ↓vO_4, ↓rD_4, ↓rO_4, ↓kD_4, ↓kO_4, ↓vD_5, ↓vO_5, ↓rD_5, ↓rO_5, ↓kD_5, ↓kO_5, ↓vD_6, ↓vO_6, ↓rD_6, ↓rO_6, ↓kD_6, ↓kO_6, ↓vD_7, ↓vO_7, ↓rD_7, ↓rO_7, ↓kD_7, ↓kO_7, ↓vD_8, ↓vO_8, ↓rD_8, ↓rO_8, ↓kD_8, ↓kO_8, ↓vD_9, ↓vO_9, ↓rD_9, ↓rO_9, ↓kD_9, ↓kO_9, ↓vD_10, ↓vO_10, ↓rD_10, ↓rO_10, ↓kD_10, ↓kO_10, ↓vD_11, ↓vO_11, ↓rD_11, ↓rO_11, ↓kD_11, ↓kO_11, ↓vD_12, ↓vO_12, ↓rD_12, ↓rO_12, ↓kD_12, ↓kO_12, ↓vD_13, ↓vO_13, ↓rD_13, ↓rO_13, ↓kD_13, ↓kO_13, ↓vD_14, ↓vO_14, ↓rD_14, ↓rO_14, ↓kD_14, ↓kO_14, ↓vD_15, ↓vO_15, ↓rD_15, ↓rO_15, ↓kD_15, ↓kO_15, ↓den_free_stay, ↓b_free_stay, ↓r_check_ways, ↓r_check_minute h1 h2, ↓r_behind hs hd hl h0]
theorem r_caught {a d : Int} (hs : 0 < s) (T : Times day ts) (h0 : ts.head? = some t0) (h1 : 0 ≤ a) (h2 : a ≤ d) (h3 : d ≤ 1000000000000000000000000000000) : Ok den_caught [.dat (rV s l p t), .dat (dV day ts), .dat (.int a), .dat (.int d)] Q ↔ Q (.dat (.bl (decide (nextOf day ts t0 (markV t s a + l + 1) ≤ d)))) [.un, .un, .un, .un] := by
  have hd : 0 < day := by have := T.day1; omega
  have hl : ts.length ≤ 1000 := by have := T.few; omega
  simp (disch := first | omega | rfl) only [↓ok_d1, ↓ok_d2, ↓ok_d3, ↓ok_d4, ↓ok_d5, ↓ok_d6, ↓ok_d7, ↓ok_bind, ↓ok_ret, ↓ok_bad, ↓ok_mV, ↓ok_rdD, ↓ok_rdT, ↓ok_dtD, ↓ok_dtT, ↓ok_rds0, ↓ok_rdsC, ↓ok_dts0, ↓ok_dtsC, ↓ok_nil, ↓ok_cons, ↓ok_bin, ↓ok_cb, ↓ok_tup, ↓ok_lst, ↓ok_tru, ↓ok_truB, ↓ok_truI, ↓ok_truN, ↓ok_truL, ↓ok_truT, ↓ok_and, ↓ok_or, ↓ok_not, ↓ok_ifE, ↓ok_andV, ↓ok_orV, ↓ok_notV, ↓ok_neg, ↓ok_chain, ↓ok_seq, ↓ok_skip, ↓ok_retS, ↓ok_retN, ↓ok_bk, ↓ok_ct, ↓ok_ex1, ↓ok_if, ↓ok_set, ↓ok_setP, ↓ok_asg, ↓ok_gN, ↓ok_gsN, ↓ok_gsC, ↓ok_gT, ↓ok_gSb, ↓ok_par, ↓ok_put, ↓ok_get, ↓ok_run, ↓ok_call, ↓ok_callK, ↓ok_make, ↓ok_prop, ↓ok_for, ↓ok_items, ↓ok_rng1, ↓ok_rng2, ↓ok_comp, ↓ok_yes, ↓ok_compS0, ↓ok_compSC, wipeE, ↓ok_sl, ↓ok_noP, ↓ok_pt, ↓ok_slL, ↓ok_slT, ↓ok_rep, ↓ok_app, ↓ok_oSub, ↓ok_oMul, ↓ok_oDiv, ↓ok_oMod, ↓ok_oPow, ↓ok_oLt, ↓ok_oLe, ↓ok_oGt, ↓ok_oGe, ↓ok_oAdd, ↓ok_oAddL, ↓ok_oAddI, ↓ok_oEqI, ↓ok_oEqL, ↓ok_oEqT, ↓ok_oEqB, ↓ok_oEqN, ↓ok_oEqS, ↓ok_oNeI, ↓ok_oNeL, ↓ok_oNeT, ↓ok_oNeB, ↓ok_oNeN, ↓ok_oNeS, ↓ok_oIs, ↓ok_oIsN, ↓ix_0, ↓ix_1, ↓ix_2, ↓ix_3, ↓ix_4, ↓it_0, ↓it_1, ↓it_2, ↓it_3, ixn_0, ixn_1, ixn_2, ↓ok_len, ↓ok_lenT, ↓ok_absI, ↓ok_intI, ↓ok_max2, ↓ok_min2, ↓ok_max3, ↓ok_min3, ↓ok_dm, ↓ok_repr, argsE, backE, outE, Pu.M.dt, List.getElem?_cons_zero, List.getElem?_cons_succ, List.set_cons_zero, List.set_cons_succ, List.take_succ_cons, List.take_zero, List.replicate_zero, List.replicate_succ, List.append_nil, List.nil_append, List.cons_append, List.length_cons, List.length_nil, Nat.sub_self, Nat.reduceSub, Nat.reduceAdd, Nat.reduceLeDiff, decide_true, decide_false, reduceCtorEq, noBor, setsE, slotOf, setsS, putFs, putVs, lookV, sel, isNon, Bool.not_true, Bool.not_false, Bool.not_eq_true, decide_eq_true_eq, decide_eq_false_iff_not, Bool.true_eq_false, Bool.false_eq_true, false_implies, true_implies, and_true, true_and, not_true_eq_false, not_false_eq_true, and_self, implies_true, or_false, false_or, List.flatten_cons, List.flatten_nil, true_or, or_true, Int.sub_zero, eq_self, veq_int, veq_str, cMod, cDiv, cPow, cMul_r, cMul_l, strq, String.reduceEq, sz, szl, dOk_int, dOk_bl, dOk_non, if_true, if_false, Int.reducePow, Int.reduceToNat, Int.reduceMul, Int.reduceAdd, Int.reduceSub, Int.reduceNeg, Int.reduceLT, Int.reduceLE, Int.reduceGT, Int.reduceEq, gt_iff_lt, ge_iff_le, Nat.reducePow, Nat.reduceMul, Nat.reduceLT, Int.cast_ofNat_Int, false_and, and_false, Bool.and_true, Bool.true_and, Bool.and_false, Bool.false_and, Bool.or_true, Bool.true_or, Bool.or_false, Bool.false_or, ↓vD_0, ↓vO_0, ↓rD_0, ↓rO_0, ↓kD_0, ↓kO_0, ↓vD_1, ↓vO_1, ↓rD_1, ↓rO_1, ↓kD_1, ↓kO_1, ↓vD_2, ↓vO_2, ↓rD_2, ↓rO_2, ↓kD_2, ↓kO_2, ↓vD_3, ↓vO_3, ↓rD_3, ↓rO_3, ↓kD_3, ↓kO_3, ↓vD_4, ↓vO_4, ↓rD_4, ↓rO_4, ↓kD_4, ↓kO_4, ↓vD_5, ↓vO_5, ↓rD_5, ↓rO_5, ↓kD_5, ↓kO_5, ↓vD_6, ↓vO_6, ↓rD_6, ↓rO_6, ↓kD_6, ↓kO_6, ↓vD_7, ↓vO_7, ↓rD_7, ↓rO_7, ↓kD_7, ↓kO_7, ↓vD_8, ↓vO_8, ↓rD_8, ↓rO_8, ↓kD_8, ↓kO_8, ↓vD_9, ↓vO_9, ↓rD_9, ↓rO_9, ↓kD_9, ↓kO_9, ↓vD_10, ↓vO_10, ↓rD_10, ↓rO_10, ↓kD_10, ↓kO_10, ↓vD_11, ↓vO_11, ↓rD_11, ↓rO_11, ↓kD_11, ↓kO_11, ↓vD_12, ↓vO_12, ↓rD_12, ↓rO_12, ↓kD_12, ↓kO_12, ↓vD_13, ↓vO_13, ↓rD_13, ↓rO_13, ↓kD_13, ↓kO_13, ↓vD_14, ↓vO_14, ↓rD_14, ↓rO_14, ↓kD_14, ↓kO_14, ↓vD_15, ↓vO_15, ↓rD_15, ↓rO_15, ↓kD_15, ↓kO_15, ↓den_caught, ↓b_caught, ↓r_check_ways, ↓r_check_departure h1 h2 h3, ↓r_behind hs hd hl h0]
theorem came_loop {low high : Int} (hd : 0 < day) : ∀ (r : List Int) (s4 s5 : Slot) (x1 : Slot), Ok ((loopS (gN 4) (mSeq (mSet 5 (mBin oAdd (mVar 2) (mBin oMod (mCB fInt (mCons (mBin oSub (mVar 4) (mVar 2)) mNil)) (mVar 0)))) (mIf (mTru (mBin oLe (mVar 5) (mVar 3))) (mRet (mV (.bl true))) mSkip))) (r.map .int)) [.dat (.int day), x1, .dat (.int low), .dat (.int high), s4, s5] fun o e' => (if cameB day r low high = true then o = .rt (.dat (.bl true)) else o = .nx) ∧ ∃ y4 y5, e' = [.dat (.int day), x1, .dat (.int low), .dat (.int high), y4, y5]
  | [], s4, s5, x1 => by
    show Ok (loopS _ _ []) _ _
    rw [ok_loop0]
    exact ⟨rfl, _, _, rfl⟩
  | x :: r, s4, s5, x1 => by
    have ih := fun s4 s5 => came_loop (low := low) (high := high) hd r s4 s5 x1
    refine Ok.via fun Q' k => ?_
    rw [List.map_cons, ok_loopC]
    have e1 : cameB day (x :: r) low high = (decide (low + (x - low) % day ≤ high) || cameB day r low high) := rfl
    by_cases h : low + (x - low) % day ≤ high
    · simp (disch := first | omega | rfl) only [↓ok_d1, ↓ok_d2, ↓ok_d3, ↓ok_d4, ↓ok_d5, ↓ok_d6, ↓ok_d7, ↓ok_bind, ↓ok_ret, ↓ok_bad, ↓ok_mV, ↓ok_rdD, ↓ok_rdT, ↓ok_dtD, ↓ok_dtT, ↓ok_rds0, ↓ok_rdsC, ↓ok_dts0, ↓ok_dtsC, ↓ok_nil, ↓ok_cons, ↓ok_bin, ↓ok_cb, ↓ok_tup, ↓ok_lst, ↓ok_tru, ↓ok_truB, ↓ok_truI, ↓ok_truN, ↓ok_truL, ↓ok_truT, ↓ok_and, ↓ok_or, ↓ok_not, ↓ok_ifE, ↓ok_andV, ↓ok_orV, ↓ok_notV, ↓ok_neg, ↓ok_chain, ↓ok_seq, ↓ok_skip, ↓ok_retS, ↓ok_retN, ↓ok_bk, ↓ok_ct, ↓ok_ex1, ↓ok_if, ↓ok_set, ↓ok_setP, ↓ok_asg, ↓ok_gN, ↓ok_gsN, ↓ok_gsC, ↓ok_gT, ↓ok_gSb, ↓ok_par, ↓ok_put, ↓ok_get, ↓ok_run, ↓ok_call, ↓ok_callK, ↓ok_make, ↓ok_prop, ↓ok_for, ↓ok_items, ↓ok_rng1, ↓ok_rng2, ↓ok_comp, ↓ok_yes, ↓ok_compS0, ↓ok_compSC, wipeE, ↓ok_sl, ↓ok_noP, ↓ok_pt, ↓ok_slL, ↓ok_slT, ↓ok_rep, ↓ok_app, ↓ok_oSub, ↓ok_oMul, ↓ok_oDiv, ↓ok_oMod, ↓ok_oPow, ↓ok_oLt, ↓ok_oLe, ↓ok_oGt, ↓ok_oGe, ↓ok_oAdd, ↓ok_oAddL, ↓ok_oAddI, ↓ok_oEqI, ↓ok_oEqL, ↓ok_oEqT, ↓ok_oEqB, ↓ok_oEqN, ↓ok_oEqS, ↓ok_oNeI, ↓ok_oNeL, ↓ok_oNeT, ↓ok_oNeB, ↓ok_oNeN, ↓ok_oNeS, ↓ok_oIs, ↓ok_oIsN, ↓ix_0, ↓ix_1, ↓ix_2, ↓ix_3, ↓ix_4, ↓it_0, ↓it_1, ↓it_2, ↓it_3, ixn_0, ixn_1, ixn_2, ↓ok_len, ↓ok_lenT, ↓ok_absI, ↓ok_intI, ↓ok_max2, ↓ok_min2, ↓ok_max3, ↓ok_min3, ↓ok_dm, ↓ok_repr, argsE, backE, outE, Pu.M.dt, List.getElem?_cons_zero, List.getElem?_cons_succ, List.set_cons_zero, List.set_cons_succ, List.take_succ_cons, List.take_zero, List.replicate_zero, List.replicate_succ, List.append_nil, List.nil_append, List.cons_append, List.length_cons, List.length_nil, Nat.sub_self, Nat.reduceSub, Nat.reduceAdd, Nat.reduceLeDiff, decide_true, decide_false, reduceCtorEq, noBor, setsE, slotOf, setsS, putFs, putVs, lookV, sel, isNon, Bool.not_true, Bool.not_false, Bool.not_eq_true, decide_eq_true_eq, decide_eq_false_iff_not, Bool.true_eq_false, Bool.false_eq_true, false_implies, true_implies, and_true, true_and, not_true_eq_false, not_false_eq_true, and_self, implies_true, or_false, false_or, List.flatten_cons, List.flatten_nil, true_or, or_true, Int.sub_zero, eq_self, veq_int, veq_str, cMod, cDiv, cPow, cMul_r, cMul_l, strq, String.reduceEq, sz, szl, dOk_int, dOk_bl, dOk_non, if_true, if_false, Int.reducePow, Int.reduceToNat, Int.reduceMul, Int.reduceAdd, Int.reduceSub, Int.reduceNeg, Int.reduceLT, Int.reduceLE, Int.reduceGT, Int.reduceEq, gt_iff_lt, ge_iff_le, Nat.reducePow, Nat.reduceMul, Nat.reduceLT, Int.cast_ofNat_Int, false_and, and_false, Bool.and_true, Bool.true_and, Bool.and_false, Bool.false_and, Bool.or_true, Bool.true_or, Bool.or_false, Bool.false_or, ↓vD_0, ↓vO_0, ↓rD_0, ↓rO_0, ↓kD_0, ↓kO_0, ↓vD_1, ↓vO_1, ↓rD_1, ↓rO_1, ↓kD_1, ↓kO_1, ↓vD_2, ↓vO_2, ↓rD_2, ↓rO_2, ↓kD_2, ↓kO_2, ↓vD_3, ↓vO_3, ↓rD_3, ↓rO_3, ↓kD_3, ↓kO_3, ↓vD_4, ↓vO_4, ↓rD_4, ↓rO_4, ↓kD_4, ↓kO_4, ↓vD_5, ↓vO_5, ↓rD_5, ↓rO_5, ↓kD_5, ↓kO_5, ↓vD_6, ↓vO_6, ↓rD_6, ↓rO_6, ↓kD_6, ↓kO_6, ↓vD_7, ↓vO_7, ↓rD_7, ↓rO_7, ↓kD_7, ↓kO_7, ↓vD_8, ↓vO_8, ↓rD_8, ↓rO_8, ↓kD_8, ↓kO_8, ↓vD_9, ↓vO_9, ↓rD_9, ↓rO_9, ↓kD_9, ↓kO_9, ↓vD_10, ↓vO_10, ↓rD_10, ↓rO_10, ↓kD_10, ↓kO_10, ↓vD_11, ↓vO_11, ↓rD_11, ↓rO_11, ↓kD_11, ↓kO_11, ↓vD_12, ↓vO_12, ↓rD_12, ↓rO_12, ↓kD_12, ↓kO_12, ↓vD_13, ↓vO_13, ↓rD_13, ↓rO_13, ↓kD_13, ↓kO_13, ↓vD_14, ↓vO_14, ↓rD_14, ↓rO_14, ↓kD_14, ↓kO_14, ↓vD_15, ↓vO_15, ↓rD_15, ↓rO_15, ↓kD_15, ↓kO_15, ↓hd, ↓h]
      exact k _ _ ⟨by rw [e1]; simp [h], _, _, rfl⟩
    · simp (disch := first | omega | rfl) only [↓ok_d1, ↓ok_d2, ↓ok_d3, ↓ok_d4, ↓ok_d5, ↓ok_d6, ↓ok_d7, ↓ok_bind, ↓ok_ret, ↓ok_bad, ↓ok_mV, ↓ok_rdD, ↓ok_rdT, ↓ok_dtD, ↓ok_dtT, ↓ok_rds0, ↓ok_rdsC, ↓ok_dts0, ↓ok_dtsC, ↓ok_nil, ↓ok_cons, ↓ok_bin, ↓ok_cb, ↓ok_tup, ↓ok_lst, ↓ok_tru, ↓ok_truB, ↓ok_truI, ↓ok_truN, ↓ok_truL, ↓ok_truT, ↓ok_and, ↓ok_or, ↓ok_not, ↓ok_ifE, ↓ok_andV, ↓ok_orV, ↓ok_notV, ↓ok_neg, ↓ok_chain, ↓ok_seq, ↓ok_skip, ↓ok_retS, ↓ok_retN, ↓ok_bk, ↓ok_ct, ↓ok_ex1, ↓ok_if, ↓ok_set, ↓ok_setP, ↓ok_asg, ↓ok_gN, ↓ok_gsN, ↓ok_gsC, ↓ok_gT, ↓ok_gSb, ↓ok_par, ↓ok_put, ↓ok_get, ↓ok_run, ↓ok_call, ↓ok_callK, ↓ok_make, ↓ok_prop, ↓ok_for, ↓ok_items, ↓ok_rng1, ↓ok_rng2, ↓ok_comp, ↓ok_yes, ↓ok_compS0, ↓ok_compSC, wipeE, ↓ok_sl, ↓ok_noP, ↓ok_pt, ↓ok_slL, ↓ok_slT, ↓ok_rep, ↓ok_app, ↓ok_oSub, ↓ok_oMul, ↓ok_oDiv, ↓ok_oMod, ↓ok_oPow, ↓ok_oLt, ↓ok_oLe, ↓ok_oGt, ↓ok_oGe, ↓ok_oAdd, ↓ok_oAddL, ↓ok_oAddI, ↓ok_oEqI, ↓ok_oEqL, ↓ok_oEqT, ↓ok_oEqB, ↓ok_oEqN, ↓ok_oEqS, ↓ok_oNeI, ↓ok_oNeL, ↓ok_oNeT, ↓ok_oNeB, ↓ok_oNeN, ↓ok_oNeS, ↓ok_oIs, ↓ok_oIsN, ↓ix_0, ↓ix_1, ↓ix_2, ↓ix_3, ↓ix_4, ↓it_0, ↓it_1, ↓it_2, ↓it_3, ixn_0, ixn_1, ixn_2, ↓ok_len, ↓ok_lenT, ↓ok_absI, ↓ok_intI, ↓ok_max2, ↓ok_min2, ↓ok_max3, ↓ok_min3, ↓ok_dm, ↓ok_repr, argsE, backE, outE, Pu.M.dt, List.getElem?_cons_zero, List.getElem?_cons_succ, List.set_cons_zero, List.set_cons_succ, List.take_succ_cons, List.take_zero, List.replicate_zero, List.replicate_succ, List.append_nil, List.nil_append, List.cons_append, List.length_cons, List.length_nil, Nat.sub_self, Nat.reduceSub, Nat.reduceAdd, Nat.reduceLeDiff, decide_true, decide_false, reduceCtorEq, noBor, setsE, slotOf, setsS, putFs, putVs, lookV, sel, isNon, Bool.not_true, Bool.not_false, Bool.not_eq_true, decide_eq_true_eq, decide_eq_false_iff_not, Bool.true_eq_false, Bool.false_eq_true, false_implies, true_implies, and_true, true_and, not_true_eq_false, not_false_eq_true, and_self, implies_true, or_false, false_or, List.flatten_cons, List.flatten_nil, true_or, or_true, Int.sub_zero, eq_self, veq_int, veq_str, cMod, cDiv, cPow, cMul_r, cMul_l, strq, String.reduceEq, sz, szl, dOk_int, dOk_bl, dOk_non, if_true, if_false, Int.reducePow, Int.reduceToNat, Int.reduceMul, Int.reduceAdd, Int.reduceSub, Int.reduceNeg, Int.reduceLT, Int.reduceLE, Int.reduceGT, Int.reduceEq, gt_iff_lt, ge_iff_le, Nat.reducePow, Nat.reduceMul, Nat.reduceLT, Int.cast_ofNat_Int, false_and, and_false, Bool.and_true, Bool.true_and, Bool.and_false, Bool.false_and, Bool.or_true, Bool.true_or, Bool.or_false, Bool.false_or, ↓vD_0, ↓vO_0, ↓rD_0, ↓rO_0, ↓kD_0, ↓kO_0, ↓vD_1, ↓vO_1, ↓rD_1, ↓rO_1, ↓kD_1, ↓kO_1, ↓vD_2, ↓vO_2, ↓rD_2, ↓rO_2, ↓kD_2, ↓kO_2, ↓vD_3, ↓vO_3, ↓rD_3, ↓rO_3, ↓kD_3, ↓kO_3, ↓vD_4, ↓vO_4, ↓rD_4, ↓rO_4, ↓kD_4, ↓kO_4, ↓vD_5, ↓vO_5, ↓rD_5, ↓rO_5, ↓kD_5, ↓kO_5, ↓vD_6, ↓vO_6, ↓rD_6, ↓rO_6, ↓kD_6, ↓kO_6, ↓vD_7, ↓vO_7, ↓rD_7, ↓rO_7, ↓kD_7, ↓kO_7, ↓vD_8, ↓vO_8, ↓rD_8, ↓rO_8, ↓kD_8, ↓kO_8, ↓vD_9, ↓vO_9, ↓rD_9, ↓rO_9, ↓kD_9, ↓kO_9, ↓vD_10, ↓vO_10, ↓rD_10, ↓rO_10, ↓kD_10, ↓kO_10, ↓vD_11, ↓vO_11, ↓rD_11, ↓rO_11, ↓kD_11, ↓kO_11, ↓vD_12, ↓vO_12, ↓rD_12, ↓rO_12, ↓kD_12, ↓kO_12, ↓vD_13, ↓vO_13, ↓rD_13, ↓rO_13, ↓kD_13, ↓kO_13, ↓vD_14, ↓vO_14, ↓rD_14, ↓rO_14, ↓kD_14, ↓kO_14, ↓vD_15, ↓vO_15, ↓rD_15, ↓rO_15, ↓kD_15, ↓kO_15, ↓hd, ↓h]
      refine Ok.mono (ih _ _) fun o e' h2 => k _ _ ?_
      rw [e1]
      simpa [h] using h2
theorem r_came {low high : Int} (hd : 0 < day) : Ok den__law_came [.dat (.int day), .dat (.tup (ts.map .int)), .dat (.int low), .dat (.int high)] Q ↔ Q (.dat (.bl (cameB day ts low high))) [.un, .un, .un, .un] := by
  refine ok_det ?_
  simp (disch := first | omega | rfl) only [↓ok_d1, ↓ok_d2, ↓ok_d3, ↓ok_d4, ↓ok_d5, ↓ok_d6, ↓ok_d7, ↓ok_bind, ↓ok_ret, ↓ok_bad, ↓ok_mV, ↓ok_rdD, ↓ok_rdT, ↓ok_dtD, ↓ok_dtT, ↓ok_rds0, ↓ok_rdsC, ↓ok_dts0, ↓ok_dtsC, ↓ok_nil, ↓ok_cons, ↓ok_bin, ↓ok_cb, ↓ok_tup, ↓ok_lst, ↓ok_tru, ↓ok_truB, ↓ok_truI, ↓ok_truN, ↓ok_truL, ↓ok_truT, ↓ok_and, ↓ok_or, ↓ok_not, ↓ok_ifE, ↓ok_andV, ↓ok_orV, ↓ok_notV, ↓ok_neg, ↓ok_chain, ↓ok_seq, ↓ok_skip, ↓ok_retS, ↓ok_retN, ↓ok_bk, ↓ok_ct, ↓ok_ex1, ↓ok_if, ↓ok_set, ↓ok_setP, ↓ok_asg, ↓ok_gN, ↓ok_gsN, ↓ok_gsC, ↓ok_gT, ↓ok_gSb, ↓ok_par, ↓ok_put, ↓ok_get, ↓ok_run, ↓ok_call, ↓ok_callK, ↓ok_make, ↓ok_prop, ↓ok_for, ↓ok_items, ↓ok_rng1, ↓ok_rng2, ↓ok_comp, ↓ok_yes, ↓ok_compS0, ↓ok_compSC, wipeE, ↓ok_sl, ↓ok_noP, ↓ok_pt, ↓ok_slL, ↓ok_slT, ↓ok_rep, ↓ok_app, ↓ok_oSub, ↓ok_oMul, ↓ok_oDiv, ↓ok_oMod, ↓ok_oPow, ↓ok_oLt, ↓ok_oLe, ↓ok_oGt, ↓ok_oGe, ↓ok_oAdd, ↓ok_oAddL, ↓ok_oAddI, ↓ok_oEqI, ↓ok_oEqL, ↓ok_oEqT, ↓ok_oEqB, ↓ok_oEqN, ↓ok_oEqS, ↓ok_oNeI, ↓ok_oNeL, ↓ok_oNeT, ↓ok_oNeB, ↓ok_oNeN, ↓ok_oNeS, ↓ok_oIs, ↓ok_oIsN, ↓ix_0, ↓ix_1, ↓ix_2, ↓ix_3, ↓ix_4, ↓it_0, ↓it_1, ↓it_2, ↓it_3, ixn_0, ixn_1, ixn_2, ↓ok_len, ↓ok_lenT, ↓ok_absI, ↓ok_intI, ↓ok_max2, ↓ok_min2, ↓ok_max3, ↓ok_min3, ↓ok_dm, ↓ok_repr, argsE, backE, outE, Pu.M.dt, List.getElem?_cons_zero, List.getElem?_cons_succ, List.set_cons_zero, List.set_cons_succ, List.take_succ_cons, List.take_zero, List.replicate_zero, List.replicate_succ, List.append_nil, List.nil_append, List.cons_append, List.length_cons, List.length_nil, Nat.sub_self, Nat.reduceSub, Nat.reduceAdd, Nat.reduceLeDiff, decide_true, decide_false, reduceCtorEq, noBor, setsE, slotOf, setsS, putFs, putVs, lookV, sel, isNon, Bool.not_true, Bool.not_false, Bool.not_eq_true, decide_eq_true_eq, decide_eq_false_iff_not, Bool.true_eq_false, Bool.false_eq_true, false_implies, true_implies, and_true, true_and, not_true_eq_false, not_false_eq_true, and_self, implies_true, or_false, false_or, List.flatten_cons, List.flatten_nil, true_or, or_true, Int.sub_zero, eq_self, veq_int, veq_str, cMod, cDiv, cPow, cMul_r, cMul_l, strq, String.reduceEq, sz, szl, dOk_int, dOk_bl, dOk_non, if_true, if_false, Int.reducePow, Int.reduceToNat, Int.reduceMul, Int.reduceAdd, Int.reduceSub, Int.reduceNeg, Int.reduceLT, Int.reduceLE, Int.reduceGT, Int.reduceEq, gt_iff_lt, ge_iff_le, Nat.reducePow, Nat.reduceMul, Nat.reduceLT, Int.cast_ofNat_Int, false_and, and_false, Bool.and_true, Bool.true_and, Bool.and_false, Bool.false_and, Bool.or_true, Bool.true_or, Bool.or_false, Bool.false_or, ↓vD_0, ↓vO_0, ↓rD_0, ↓rO_0, ↓kD_0, ↓kO_0, ↓vD_1, ↓vO_1, ↓rD_1, ↓rO_1, ↓kD_1, ↓kO_1, ↓vD_2, ↓vO_2, ↓rD_2, ↓rO_2, ↓kD_2, ↓kO_2, ↓vD_3, ↓vO_3, ↓rD_3, ↓rO_3, ↓kD_3, ↓kO_3, ↓vD_4, ↓vO_4, ↓rD_4, ↓rO_4, ↓kD_4, ↓kO_4, ↓vD_5, ↓vO_5, ↓rD_5, ↓rO_5, ↓kD_5, ↓kO_5, ↓vD_6, ↓vO_6, ↓rD_6, ↓rO_6, ↓kD_6, ↓kO_6, ↓vD_7, ↓vO_7, ↓rD_7, ↓rO_7, ↓kD_7, ↓kO_7, ↓vD_8, ↓vO_8, ↓rD_8, ↓rO_8, ↓kD_8, ↓kO_8, ↓vD_9, ↓vO_9, ↓rD_9, ↓rO_9, ↓kD_9, ↓kO_9, ↓vD_10, ↓vO_10, ↓rD_10, ↓rO_10, ↓kD_10, ↓kO_10, ↓vD_11, ↓vO_11, ↓rD_11, ↓rO_11, ↓kD_11, ↓kO_11, ↓vD_12, ↓vO_12, ↓rD_12, ↓rO_12, ↓kD_12, ↓kO_12, ↓vD_13, ↓vO_13, ↓rD_13, ↓rO_13, ↓kD_13, ↓kO_13, ↓vD_14, ↓vO_14, ↓rD_14, ↓rO_14, ↓kD_14, ↓kO_14, ↓vD_15, ↓vO_15, ↓rD_15, ↓rO_15, ↓kD_15, ↓kO_15, ↓den__law_came, ↓b__law_came]
  refine Ok.mono (came_loop hd ts _ _ _) ?_
  rintro o _ ⟨h, y4, y5, rfl⟩
  split at h
  · rename_i q
    subst h
    simp (disch := first | omega | rfl) only [↓ok_d1, ↓ok_d2, ↓ok_d3, ↓ok_d4, ↓ok_d5, ↓ok_d6, ↓ok_d7, ↓ok_bind, ↓ok_ret, ↓ok_bad, ↓ok_mV, ↓ok_rdD, ↓ok_rdT, ↓ok_dtD, ↓ok_dtT, ↓ok_rds0, ↓ok_rdsC, ↓ok_dts0, ↓ok_dtsC, ↓ok_nil, ↓ok_cons, ↓ok_bin, ↓ok_cb, ↓ok_tup, ↓ok_lst, ↓ok_tru, ↓ok_truB, ↓ok_truI, ↓ok_truN, ↓ok_truL, ↓ok_truT, ↓ok_and, ↓ok_or, ↓ok_not, ↓ok_ifE, ↓ok_andV, ↓ok_orV, ↓ok_notV, ↓ok_neg, ↓ok_chain, ↓ok_seq, ↓ok_skip, ↓ok_retS, ↓ok_retN, ↓ok_bk, ↓ok_ct, ↓ok_ex1, ↓ok_if, ↓ok_set, ↓ok_setP, ↓ok_asg, ↓ok_gN, ↓ok_gsN, ↓ok_gsC, ↓ok_gT, ↓ok_gSb, ↓ok_par, ↓ok_put, ↓ok_get, ↓ok_run, ↓ok_call, ↓ok_callK, ↓ok_make, ↓ok_prop, ↓ok_for, ↓ok_items, ↓ok_rng1, ↓ok_rng2, ↓ok_comp, ↓ok_yes, ↓ok_compS0, ↓ok_compSC, wipeE, ↓ok_sl, ↓ok_noP, ↓ok_pt, ↓ok_slL, ↓ok_slT, ↓ok_rep, ↓ok_app, ↓ok_oSub, ↓ok_oMul, ↓ok_oDiv, ↓ok_oMod, ↓ok_oPow, ↓ok_oLt, ↓ok_oLe, ↓ok_oGt, ↓ok_oGe, ↓ok_oAdd, ↓ok_oAddL, ↓ok_oAddI, ↓ok_oEqI, ↓ok_oEqL, ↓ok_oEqT, ↓ok_oEqB, ↓ok_oEqN, ↓ok_oEqS, ↓ok_oNeI, ↓ok_oNeL, ↓ok_oNeT, ↓ok_oNeB, ↓ok_oNeN, ↓ok_oNeS, ↓ok_oIs, ↓ok_oIsN, ↓ix_0, ↓ix_1, ↓ix_2, ↓ix_3, ↓ix_4, ↓it_0, ↓it_1, ↓it_2, ↓it_3, ixn_0, ixn_1, ixn_2, ↓ok_len, ↓ok_lenT, ↓ok_absI, ↓ok_intI, ↓ok_max2, ↓ok_min2, ↓ok_max3, ↓ok_min3, ↓ok_dm, ↓ok_repr, argsE, backE, outE, Pu.M.dt, List.getElem?_cons_zero, List.getElem?_cons_succ, List.set_cons_zero, List.set_cons_succ, List.take_succ_cons, List.take_zero, List.replicate_zero, List.replicate_succ, List.append_nil, List.nil_append, List.cons_append, List.length_cons, List.length_nil, Nat.sub_self, Nat.reduceSub, Nat.reduceAdd, Nat.reduceLeDiff, decide_true, decide_false, reduceCtorEq, noBor, setsE, slotOf, setsS, putFs, putVs, lookV, sel, isNon, Bool.not_true, Bool.not_false, Bool.not_eq_true, decide_eq_true_eq, decide_eq_false_iff_not, Bool.true_eq_false, Bool.false_eq_true, false_implies, true_implies, and_true, true_and, not_true_eq_false, not_false_eq_true, and_self, implies_true, or_false, false_or, List.flatten_cons, List.flatten_nil, true_or, or_true, Int.sub_zero, eq_self, veq_int, veq_str, cMod, cDiv, cPow, cMul_r, cMul_l, strq, String.reduceEq, sz, szl, dOk_int, dOk_bl, dOk_non, if_true, if_false, Int.reducePow, Int.reduceToNat, Int.reduceMul, Int.reduceAdd, Int.reduceSub, Int.reduceNeg, Int.reduceLT, Int.reduceLE, Int.reduceGT, Int.reduceEq, gt_iff_lt, ge_iff_le, Nat.reducePow, Nat.reduceMul, Nat.reduceLT, Int.cast_ofNat_Int, false_and, and_false, Bool.and_true, Bool.true_and, Bool.and_false, Bool.false_and, Bool.or_true, Bool.true_or, Bool.or_false, Bool.false_or, ↓vD_0, ↓vO_0, ↓rD_0, ↓rO_0, ↓kD_0, ↓kO_0, ↓vD_1, ↓vO_1, ↓rD_1, ↓rO_1, ↓kD_1, ↓kO_1, ↓vD_2, ↓vO_2, ↓rD_2, ↓rO_2, ↓kD_2, ↓kO_2, ↓vD_3, ↓vO_3, ↓rD_3, ↓rO_3, ↓kD_3, ↓kO_3, ↓vD_4, ↓vO_4, ↓rD_4, ↓rO_4, ↓kD_4, ↓kO_4, ↓vD_5, ↓vO_5, ↓rD_5, ↓rO_5, ↓kD_5, ↓kO_5, ↓vD_6, ↓vO_6, ↓rD_6, ↓rO_6, ↓kD_6, ↓kO_6, ↓vD_7, ↓vO_7, ↓rD_7, ↓rO_7, ↓kD_7, ↓kO_7, ↓vD_8, ↓vO_8, ↓rD_8, ↓rO_8, ↓kD_8, ↓kO_8, ↓vD_9, ↓vO_9, ↓rD_9, ↓rO_9, ↓kD_9, ↓kO_9, ↓vD_10, ↓vO_10, ↓rD_10, ↓rO_10, ↓kD_10, ↓kO_10, ↓vD_11, ↓vO_11, ↓rD_11, ↓rO_11, ↓kD_11, ↓kO_11, ↓vD_12, ↓vO_12, ↓rD_12, ↓rO_12, ↓kD_12, ↓kO_12, ↓vD_13, ↓vO_13, ↓rD_13, ↓rO_13, ↓kD_13, ↓kO_13, ↓vD_14, ↓vO_14, ↓rD_14, ↓rO_14, ↓kD_14, ↓kO_14, ↓vD_15, ↓vO_15, ↓rD_15, ↓rO_15, ↓kD_15, ↓kO_15, ↓q]
  · rename_i q
    have q' : cameB day ts low high = false := by simpa using q
    subst h
    simp (disch := first | omega | rfl) only [↓ok_d1, ↓ok_d2, ↓ok_d3, ↓ok_d4, ↓ok_d5, ↓ok_d6, ↓ok_d7, ↓ok_bind, ↓ok_ret, ↓ok_bad, ↓ok_mV, ↓ok_rdD, ↓ok_rdT, ↓ok_dtD, ↓ok_dtT, ↓ok_rds0, ↓ok_rdsC, ↓ok_dts0, ↓ok_dtsC, ↓ok_nil, ↓ok_cons, ↓ok_bin, ↓ok_cb, ↓ok_tup, ↓ok_lst, ↓ok_tru, ↓ok_truB, ↓ok_truI, ↓ok_truN, ↓ok_truL, ↓ok_truT, ↓ok_and, ↓ok_or, ↓ok_not, ↓ok_ifE, ↓ok_andV, ↓ok_orV, ↓ok_notV, ↓ok_neg, ↓ok_chain, ↓ok_seq, ↓ok_skip, ↓ok_retS, ↓ok_retN, ↓ok_bk, ↓ok_ct, ↓ok_ex1, ↓ok_if, ↓ok_set, ↓ok_setP, ↓ok_asg, ↓ok_gN, ↓ok_gsN, ↓ok_gsC, ↓ok_gT, ↓ok_gSb, ↓ok_par, ↓ok_put, ↓ok_get, ↓ok_run, ↓ok_call, ↓ok_callK, ↓ok_make, ↓ok_prop, ↓ok_for, ↓ok_items, ↓ok_rng1, ↓ok_rng2, ↓ok_comp, ↓ok_yes, ↓ok_compS0, ↓ok_compSC, wipeE, ↓ok_sl, ↓ok_noP, ↓ok_pt, ↓ok_slL, ↓ok_slT, ↓ok_rep, ↓ok_app, ↓ok_oSub, ↓ok_oMul, ↓ok_oDiv, ↓ok_oMod, ↓ok_oPow, ↓ok_oLt, ↓ok_oLe, ↓ok_oGt, ↓ok_oGe, ↓ok_oAdd, ↓ok_oAddL, ↓ok_oAddI, ↓ok_oEqI, ↓ok_oEqL, ↓ok_oEqT, ↓ok_oEqB, ↓ok_oEqN, ↓ok_oEqS, ↓ok_oNeI, ↓ok_oNeL, ↓ok_oNeT, ↓ok_oNeB, ↓ok_oNeN, ↓ok_oNeS, ↓ok_oIs, ↓ok_oIsN, ↓ix_0, ↓ix_1, ↓ix_2, ↓ix_3, ↓ix_4, ↓it_0, ↓it_1, ↓it_2, ↓it_3, ixn_0, ixn_1, ixn_2, ↓ok_len, ↓ok_lenT, ↓ok_absI, ↓ok_intI, ↓ok_max2, ↓ok_min2, ↓ok_max3, ↓ok_min3, ↓ok_dm, ↓ok_repr, argsE, backE, outE, Pu.M.dt, List.getElem?_cons_zero, List.getElem?_cons_succ, List.set_cons_zero, List.set_cons_succ, List.take_succ_cons, List.take_zero, List.replicate_zero, List.replicate_succ, List.append_nil, List.nil_append, List.cons_append, List.length_cons, List.length_nil, Nat.sub_self, Nat.reduceSub, Nat.reduceAdd, Nat.reduceLeDiff, decide_true, decide_false, reduceCtorEq, noBor, setsE, slotOf, setsS, putFs, putVs, lookV, sel, isNon, Bool.not_true, Bool.not_false, Bool.not_eq_true, decide_eq_true_eq, decide_eq_false_iff_not, Bool.true_eq_false, Bool.false_eq_true, false_implies, true_implies, and_true, true_and, not_true_eq_false, not_false_eq_true, and_self, implies_true, or_false, false_or, List.flatten_cons, List.flatten_nil, true_or, or_true, Int.sub_zero, eq_self, veq_int, veq_str, cMod, cDiv, cPow, cMul_r, cMul_l, strq, String.reduceEq, sz, szl, dOk_int, dOk_bl, dOk_non, if_true, if_false, Int.reducePow, Int.reduceToNat, Int.reduceMul, Int.reduceAdd, Int.reduceSub, Int.reduceNeg, Int.reduceLT, Int.reduceLE, Int.reduceGT, Int.reduceEq, gt_iff_lt, ge_iff_le, Nat.reducePow, Nat.reduceMul, Nat.reduceLT, Int.cast_ofNat_Int, false_and, and_false, Bool.and_true, Bool.true_and, Bool.and_false, Bool.false_and, Bool.or_true, Bool.true_or, Bool.or_false, Bool.false_or, ↓vD_0, ↓vO_0, ↓rD_0, ↓rO_0, ↓kD_0, ↓kO_0, ↓vD_1, ↓vO_1, ↓rD_1, ↓rO_1, ↓kD_1, ↓kO_1, ↓vD_2, ↓vO_2, ↓rD_2, ↓rO_2, ↓kD_2, ↓kO_2, ↓vD_3, ↓vO_3, ↓rD_3, ↓rO_3, ↓kD_3, ↓kO_3, ↓vD_4, ↓vO_4, ↓rD_4, ↓rO_4, ↓kD_4, ↓kO_4, ↓vD_5, ↓vO_5, ↓rD_5, ↓rO_5, ↓kD_5, ↓kO_5, ↓vD_6, ↓vO_6, ↓rD_6, ↓rO_6, ↓kD_6, ↓kO_6, ↓vD_7, ↓vO_7, ↓rD_7, ↓rO_7, ↓kD_7, ↓kO_7, ↓vD_8, ↓vO_8, ↓rD_8, ↓rO_8, ↓kD_8, ↓kO_8, ↓vD_9, ↓vO_9, ↓rD_9, ↓rO_9, ↓kD_9, ↓kO_9, ↓vD_10, ↓vO_10, ↓rD_10, ↓rO_10, ↓kD_10, ↓kO_10, ↓vD_11, ↓vO_11, ↓rD_11, ↓rO_11, ↓kD_11, ↓kO_11, ↓vD_12, ↓vO_12, ↓rD_12, ↓rO_12, ↓kD_12, ↓kO_12, ↓vD_13, ↓vO_13, ↓rD_13, ↓rO_13, ↓kD_13, ↓kO_13, ↓vD_14, ↓vO_14, ↓rD_14, ↓rO_14, ↓kD_14, ↓kO_14, ↓vD_15, ↓vO_15, ↓rD_15, ↓rO_15, ↓kD_15, ↓kO_15, ↓q']
end
end Pu.Q
set_option Elab.async false
set_option linter.all false
set_option maxRecDepth 100000
set_option maxHeartbeats 4000000
namespace Pu.Q
open PySem PySem.Spec PyProof.Rows L2 Pu
theorem Ok.iffQ {α : Type} {m : M α} {e : Ev} {P R : α → Ev → Prop} (h : ∀ a e, P a e ↔ R a e) : Ok m e P ↔ Ok m e R := ⟨fun q => Ok.mono q fun a e' => (h a e').mp, fun q => Ok.mono q fun a e' => (h a e').mpr⟩
theorem ok_sortSet {m : M RV} {e : Ev} {Q : RV → Ev → Prop} : Ok (mSortSet m) e Q ↔ Ok m e fun r e1 => Ok (M.rd r) e1 fun v e2 => match v with
    | .lst xs => (match ints? xs with
      | some ns => ns.length < 60 ∧ Q (.tmp (.lst ((sortU ns).map .int))) e2
      | none => False)
    | _ => False := by
  unfold mSortSet
  rw [ok_bind]
  refine Ok.iffQ fun r e1 => ?_
  rw [ok_bind]
  refine Ok.iffQ fun v e2 => ?_
  cases v with
  | lst xs =>
    dsimp only
    cases ints? xs with
    | none => exact ok_bad
    | some ns =>
      dsimp only
      rw [ok_ite, ok_ret, ok_bad]
      constructor
      · rintro ⟨h1, h2⟩
        by_cases h : ns.length < 60
        · exact ⟨h, h1 h⟩
        · exact (h2 h).elim
      · rintro ⟨h1, h2⟩
        exact ⟨fun _ => h2, fun q => absurd h1 q⟩
  | _ => exact ok_bad
theorem ok_tupL {xs : List Val} {e : Ev} {Q : RV → Ev → Prop} : Ok (fTup [.lst xs]) e Q ↔ Q (.dat (.tup xs)) e := Iff.rfl
theorem ints_all {p : Int → Prop} : ∀ {r : List Val}, (∀ x ∈ r, ∃ i, x = .int i ∧ p i) → ∃ is : List Int, r = is.map .int ∧ ∀ i ∈ is, p i
  | [], _ => ⟨[], rfl, fun _ h => absurd h (by simp)⟩
  | x :: r, h => by
    obtain ⟨i, rfl, hi⟩ := h x List.mem_cons_self
    obtain ⟨is, rfl, his⟩ := ints_all (r := r) fun y hy => h y (List.mem_cons_of_mem _ hy)
    refine ⟨i :: is, rfl, fun j hj => ?_⟩
    rcases List.mem_cons.mp hj with rfl | hj
    · exact hi
    · exact his j hj
theorem insU_len {x : Int} : ∀ {l : List Int}, (insU x l).length ≤ l.length + 1
  | [] => by simp [insU]
  | y :: r => by
    have := insU_len (x := x) (l := r)
    unfold insU
    split
    · simp
    · split
      · simp
      · simp; omega
theorem sortU_len : ∀ {l : List Int}, (sortU l).length ≤ l.length
  | [] => by simp [sortU]
  | x :: r => by
    have := insU_len (x := x) (l := sortU r)
    have := sortU_len (l := r)
    simp only [sortU, List.length_cons]
    omega
theorem sortU_ne {l : List Int} (h : l ≠ []) : sortU l ≠ [] := by
  cases l with
  | nil => exact absurd rfl h
  | cons x r =>
    intro q
    have : x ∈ sortU (x :: r) := sortU_mem.mpr List.mem_cons_self
    rw [q] at this
    simp at this
theorem Ok.compD {ws : List Nat} {mt : Val → M Unit} {me : M RV} {vs : List Val} {e : Ev} (I : Ev → Prop) (p : Int → Prop) (h : I e) (hl : vs.length ≤ 1000)
    (st : ∀ v ∈ vs, ∀ e, I e → Ok (mt v) e fun _ e1 => Ok me e1 fun x e3 => Ok (M.dt x) e3 fun w e4 => (∃ i, w = .int i ∧ p i) ∧ I (wipeE e4 ws)) :
    Ok (compS ws mt mYes me vs []) e fun r e' => ∃ is : List Int, r = is.map .int ∧ is.length = vs.length ∧ (∀ i ∈ is, p i) ∧ I e' := by
  refine Ok.mono (Ok.compS I (fun _ w => ∃ i, w = .int i ∧ p i) h (by rw [sizeLine_eq]; simp; omega) fun v e hv he => st v hv e he) ?_
  rintro r e' ⟨h1, rs, h2, h3, h4⟩
  rw [List.nil_append] at h2
  subst h2
  obtain ⟨is, rfl, his⟩ := ints_all (p := p) (r := r) fun x hx => by
    obtain ⟨j, hj, e1⟩ := List.mem_iff_getElem.mp hx
    have h5 : r[j]? = some x := by rw [List.getElem?_eq_getElem hj, e1]
    exact h4 j _ _ (List.getElem?_eq_getElem (by omega)) h5
  exact ⟨is, rfl, by simpa using h3, his, h1⟩
end Pu.Q
set_option Elab.async false
set_option linter.all false
set_option maxRecDepth 100000
set_option maxHeartbeats 8000000
namespace Pu.Q
open PySem PySem.Spec PyProof.Rows L2 Pu
theorem mark_near {t : Str} {g a : Int} (hg : 0 < g) (ht : inMenu t) : a - g < markV t g a ∧ markV t g a < a + g := by
  obtain ⟨h1, h2⟩ := mark_rng (x := a) hg ht
  obtain ⟨l1, l2⟩ := low_le hg ht
  have := high_low (g := g) ht
  constructor <;> omega
theorem next_near {day t0 m : Int} {ts : List Int} (T : Times day ts) (h0 : ts.head? = some t0) : m ≤ nextOf day ts t0 m ∧ nextOf day ts t0 m < m + day := by
  obtain ⟨⟨x, hx, e⟩, h⟩ := next_least (m := m) T h0
  have hd : 0 < day := by have := T.day1; omega
  have r0 := Int.emod_nonneg (x - m) (show day ≠ 0 by omega)
  have r1 := Int.emod_lt_of_pos (x - m) hd
  constructor <;> omega
theorem dOk_bb {a b : Bool} : dOk (.lst [.bl a, .bl b]) = true := rfl
theorem veq_b1 {a : Bool} : veq (.bl a) (.bl a) = true := by cases a <;> rfl
theorem veq_bb : veq (.lst [.bl false, .bl true]) (.lst [.bl false, .bl true]) = true := rfl
theorem r_right_k10 {a b c : Int} : Ok den__law_right_k10 [.own (.lst [.int a, .int b, .int c])] fun r _ => r = .dat (.bl true) := by
  unfold den__law_right_k10
  rw [ok_d1]
  unfold b__law_right_k10
  refine Ok.seq (fun e => ∃ a b c s1 s2 s3 s4 s5 s6 s7 s8 s9 s10 s11, e = [.own (.lst [.int a, .int b, .int c]), s1, s2, s3, s4, s5, s6, s7, s8, s9, s10, s11]) ?_ ?_
  · simp (disch := first | omega | rfl) only [↓ok_d1, ↓ok_d2, ↓ok_d3, ↓ok_d4, ↓ok_d5, ↓ok_d6, ↓ok_d7, ↓ok_bind, ↓ok_ret, ↓ok_bad, ↓ok_mV, ↓ok_rdD, ↓ok_rdT, ↓ok_dtD, ↓ok_dtT, ↓ok_rds0, ↓ok_rdsC, ↓ok_dts0, ↓ok_dtsC, ↓ok_nil, ↓ok_cons, ↓ok_bin, ↓ok_cb, ↓ok_tup, ↓ok_lst, ↓ok_tru, ↓ok_truB, ↓ok_truI, ↓ok_truN, ↓ok_truL, ↓ok_truT, ↓ok_and, ↓ok_or, ↓ok_not, ↓ok_ifE, ↓ok_andV, ↓ok_orV, ↓ok_notV, ↓ok_neg, ↓ok_chain, ↓ok_seq, ↓ok_skip, ↓ok_retS, ↓ok_retN, ↓ok_bk, ↓ok_ct, ↓ok_ex1, ↓ok_if, ↓ok_set, ↓ok_setP, ↓ok_asg, ↓ok_gN, ↓ok_gsN, ↓ok_gsC, ↓ok_gT, ↓ok_gSb, ↓ok_par, ↓ok_put, ↓ok_get, ↓ok_run, ↓ok_call, ↓ok_callK, ↓ok_make, ↓ok_prop, ↓ok_for, ↓ok_items, ↓ok_rng1, ↓ok_rng2, ↓ok_comp, ↓ok_yes, ↓ok_compS0, ↓ok_compSC, wipeE, ↓ok_sl, ↓ok_noP, ↓ok_pt, ↓ok_slL, ↓ok_slT, ↓ok_rep, ↓ok_app, ↓ok_oSub, ↓ok_oMul, ↓ok_oDiv, ↓ok_oMod, ↓ok_oPow, ↓ok_oLt, ↓ok_oLe, ↓ok_oGt, ↓ok_oGe, ↓ok_oAdd, ↓ok_oAddL, ↓ok_oAddI, ↓ok_oEqI, ↓ok_oEqL, ↓ok_oEqT, ↓ok_oEqB, ↓ok_oEqN, ↓ok_oEqS, ↓ok_oNeI, ↓ok_oNeL, ↓ok_oNeT, ↓ok_oNeB, ↓ok_oNeN, ↓ok_oNeS, ↓ok_oIs, ↓ok_oIsN, ↓ix_0, ↓ix_1, ↓ix_2, ↓ix_3, ↓ix_4, ↓it_0, ↓it_1, ↓it_2, ↓it_3, ixn_0, ixn_1, ixn_2, ↓ok_len, ↓ok_lenT, ↓ok_absI, ↓ok_intI, ↓ok_max2, ↓ok_min2, ↓ok_max3, ↓ok_min3, ↓ok_dm, ↓ok_repr, argsE, backE, outE, Pu.M.dt, List.getElem?_cons_zero, List.getElem?_cons_succ, List.set_cons_zero, List.set_cons_succ, List.take_succ_cons, List.take_zero, List.replicate_zero, List.replicate_succ, List.append_nil, List.nil_append, List.cons_append, List.length_cons, List.length_nil, Nat.sub_self, Nat.reduceSub, Nat.reduceAdd, Nat.reduceLeDiff, decide_true, decide_false, reduceCtorEq, noBor, setsE, slotOf, setsS, putFs, putVs, lookV, sel, isNon, Bool.not_true, Bool.not_false, Bool.not_eq_true, decide_eq_true_eq, decide_eq_false_iff_not, Bool.true_eq_false, Bool.false_eq_true, false_implies, true_implies, and_true, true_and, not_true_eq_false, not_false_eq_true, and_self, implies_true, or_false, false_or, List.flatten_cons, List.flatten_nil, true_or, or_true, Int.sub_zero, eq_self, veq_int, veq_str, cMod, cDiv, cPow, cMul_r, cMul_l, strq, String.reduceEq, sz, szl, dOk_int, dOk_bl, dOk_non, if_true, if_false, Int.reducePow, Int.reduceToNat, Int.reduceMul, Int.reduceAdd, Int.reduceSub, Int.reduceNeg, Int.reduceLT, Int.reduceLE, Int.reduceGT, Int.reduceEq, gt_iff_lt, ge_iff_le, Nat.reducePow, Nat.reduceMul, Nat.reduceLT, Int.cast_ofNat_Int, false_and, and_false, Bool.and_true, Bool.true_and, Bool.and_false, Bool.false_and, Bool.or_true, Bool.true_or, Bool.or_false, Bool.false_or, ↓vD_0, ↓vO_0, ↓rD_0, ↓rO_0, ↓kD_0, ↓kO_0, ↓vD_1, ↓vO_1, ↓rD_1, ↓rO_1, ↓kD_1, ↓kO_1, ↓vD_2, ↓vO_2, ↓rD_2, ↓rO_2, ↓kD_2, ↓kO_2, ↓vD_3, ↓vO_3, ↓rD_3, ↓rO_3, ↓kD_3, ↓kO_3, ↓vD_4, ↓vO_4, ↓rD_4, ↓rO_4, ↓kD_4, ↓kO_4, ↓vD_5, ↓vO_5, ↓rD_5, ↓rO_5, ↓kD_5, ↓kO_5, ↓vD_6, ↓vO_6, ↓rD_6, ↓rO_6, ↓kD_6, ↓kO_6, ↓vD_7, ↓vO_7, ↓rD_7, ↓rO_7, ↓kD_7, ↓kO_7, ↓vD_8, ↓vO_8, ↓rD_8, ↓rO_8, ↓kD_8, ↓kO_8, ↓vD_9, ↓vO_9, ↓rD_9, ↓rO_9, ↓kD_9, ↓kO_9, ↓vD_10, ↓vO_10, ↓rD_10, ↓rO_10, ↓kD_10, ↓kO_10, ↓vD_11, ↓vO_11, ↓rD_11, ↓rO_11, ↓kD_11, ↓kO_11, ↓vD_12, ↓vO_12, ↓rD_12, ↓rO_12, ↓kD_12, ↓kO_12, ↓vD_13, ↓vO_13, ↓rD_13, ↓rO_13, ↓kD_13, ↓kO_13, ↓vD_14, ↓vO_14, ↓rD_14, ↓rO_14, ↓kD_14, ↓kO_14, ↓vD_15, ↓vO_15, ↓rD_15, ↓rO_15, ↓kD_15, ↓kO_15]
    refine Ok.loopI _ ⟨_, _, _, _, _, _, _, _, _, _, _, _, _, _, rfl⟩ ?_
    rintro v _ hv ⟨a, b, c, s1, s2, s3, s4, s5, s6, s7, s8, s9, s10, s11, rfl⟩
    simp (disch := first | omega | rfl) only [↓ok_d1, ↓ok_d2, ↓ok_d3, ↓ok_d4, ↓ok_d5, ↓ok_d6, ↓ok_d7, ↓ok_bind, ↓ok_ret, ↓ok_bad, ↓ok_mV, ↓ok_rdD, ↓ok_rdT, ↓ok_dtD, ↓ok_dtT, ↓ok_rds0, ↓ok_rdsC, ↓ok_dts0, ↓ok_dtsC, ↓ok_nil, ↓ok_cons, ↓ok_bin, ↓ok_cb, ↓ok_tup, ↓ok_lst, ↓ok_tru, ↓ok_truB, ↓ok_truI, ↓ok_truN, ↓ok_truL, ↓ok_truT, ↓ok_and, ↓ok_or, ↓ok_not, ↓ok_ifE, ↓ok_andV, ↓ok_orV, ↓ok_notV, ↓ok_neg, ↓ok_chain, ↓ok_seq, ↓ok_skip, ↓ok_retS, ↓ok_retN, ↓ok_bk, ↓ok_ct, ↓ok_ex1, ↓ok_if, ↓ok_set, ↓ok_setP, ↓ok_asg, ↓ok_gN, ↓ok_gsN, ↓ok_gsC, ↓ok_gT, ↓ok_gSb, ↓ok_par, ↓ok_put, ↓ok_get, ↓ok_run, ↓ok_call, ↓ok_callK, ↓ok_make, ↓ok_prop, ↓ok_for, ↓ok_items, ↓ok_rng1, ↓ok_rng2, ↓ok_comp, ↓ok_yes, ↓ok_compS0, ↓ok_compSC, wipeE, ↓ok_sl, ↓ok_noP, ↓ok_pt, ↓ok_slL, ↓ok_slT, ↓ok_rep, ↓ok_app, ↓ok_oSub, ↓ok_oMul, ↓ok_oDiv, ↓ok_oMod, ↓ok_oPow, ↓ok_oLt, ↓ok_oLe, ↓ok_oGt, ↓ok_oGe, ↓ok_oAdd, ↓ok_oAddL, ↓ok_oAddI, ↓ok_oEqI, ↓ok_oEqL, ↓ok_oEqT, ↓ok_oEqB, ↓ok_oEqN, ↓ok_oEqS, ↓ok_oNeI, ↓ok_oNeL, ↓ok_oNeT, ↓ok_oNeB, ↓ok_oNeN, ↓ok_oNeS, ↓ok_oIs, ↓ok_oIsN, ↓ix_0, ↓ix_1, ↓ix_2, ↓ix_3, ↓ix_4, ↓it_0, ↓it_1, ↓it_2, ↓it_3, ixn_0, ixn_1, ixn_2, ↓ok_len, ↓ok_lenT, ↓ok_absI, ↓ok_intI, ↓ok_max2, ↓ok_min2, ↓ok_max3, ↓ok_min3, ↓ok_dm, ↓ok_repr, argsE, backE, outE, Pu.M.dt, List.getElem?_cons_zero, List.getElem?_cons_succ, List.set_cons_zero, List.set_cons_succ, List.take_succ_cons, List.take_zero, List.replicate_zero, List.replicate_succ, List.append_nil, List.nil_append, List.cons_append, List.length_cons, List.length_nil, Nat.sub_self, Nat.reduceSub, Nat.reduceAdd, Nat.reduceLeDiff, decide_true, decide_false, reduceCtorEq, noBor, setsE, slotOf, setsS, putFs, putVs, lookV, sel, isNon, Bool.not_true, Bool.not_false, Bool.not_eq_true, decide_eq_true_eq, decide_eq_false_iff_not, Bool.true_eq_false, Bool.false_eq_true, false_implies, true_implies, and_true, true_and, not_true_eq_false, not_false_eq_true, and_self, implies_true, or_false, false_or, List.flatten_cons, List.flatten_nil, true_or, or_true, Int.sub_zero, eq_self, veq_int, veq_str, cMod, cDiv, cPow, cMul_r, cMul_l, strq, String.reduceEq, sz, szl, dOk_int, dOk_bl, dOk_non, if_true, if_false, Int.reducePow, Int.reduceToNat, Int.reduceMul, Int.reduceAdd, Int.reduceSub, Int.reduceNeg, Int.reduceLT, Int.reduceLE, Int.reduceGT, Int.reduceEq, gt_iff_lt, ge_iff_le, Nat.reducePow, Nat.reduceMul, Nat.reduceLT, Int.cast_ofNat_Int, false_and, and_false, Bool.and_true, Bool.true_and, Bool.and_false, Bool.false_and, Bool.or_true, Bool.true_or, Bool.or_false, Bool.false_or, ↓vD_0, ↓vO_0, ↓rD_0, ↓rO_0, ↓kD_0, ↓kO_0, ↓vD_1, ↓vO_1, ↓rD_1, ↓rO_1, ↓kD_1, ↓kO_1, ↓vD_2, ↓vO_2, ↓rD_2, ↓rO_2, ↓kD_2, ↓kO_2, ↓vD_3, ↓vO_3, ↓rD_3, ↓rO_3, ↓kD_3, ↓kO_3, ↓vD_4, ↓vO_4, ↓rD_4, ↓rO_4, ↓kD_4, ↓kO_4, ↓vD_5, ↓vO_5, ↓rD_5, ↓rO_5, ↓kD_5, ↓kO_5, ↓vD_6, ↓vO_6, ↓rD_6, ↓rO_6, ↓kD_6, ↓kO_6, ↓vD_7, ↓vO_7, ↓rD_7, ↓rO_7, ↓kD_7, ↓kO_7, ↓vD_8, ↓vO_8, ↓rD_8, ↓rO_8, ↓kD_8, ↓kO_8, ↓vD_9, ↓vO_9, ↓rD_9, ↓rO_9, ↓kD_9, ↓kO_9, ↓vD_10, ↓vO_10, ↓rD_10, ↓rO_10, ↓kD_10, ↓kO_10, ↓vD_11, ↓vO_11, ↓rD_11, ↓rO_11, ↓kD_11, ↓kO_11, ↓vD_12, ↓vO_12, ↓rD_12, ↓rO_12, ↓kD_12, ↓kO_12, ↓vD_13, ↓vO_13, ↓rD_13, ↓rO_13, ↓kD_13, ↓kO_13, ↓vD_14, ↓vO_14, ↓rD_14, ↓rO_14, ↓kD_14, ↓kO_14, ↓vD_15, ↓vO_15, ↓rD_15, ↓rO_15, ↓kD_15, ↓kO_15]
    refine Ok.mono (r_pick (by simp) (by simp)) ?_
    rintro _ _ ⟨v, a, b, c, hv, rfl, rfl⟩
    obtain ⟨mm, rfl, m1, m2⟩ : ∃ k : Int, v = .int k ∧ 5 ≤ k ∧ k ≤ 1000000000000 := by
      simp only [List.mem_cons, List.not_mem_nil, or_false] at hv
      rcases hv with rfl | rfl <;> exact ⟨_, rfl, by omega, by omega⟩
    simp (disch := first | omega | rfl) only [↓ok_d1, ↓ok_d2, ↓ok_d3, ↓ok_d4, ↓ok_d5, ↓ok_d6, ↓ok_d7, ↓ok_bind, ↓ok_ret, ↓ok_bad, ↓ok_mV, ↓ok_rdD, ↓ok_rdT, ↓ok_dtD, ↓ok_dtT, ↓ok_rds0, ↓ok_rdsC, ↓ok_dts0, ↓ok_dtsC, ↓ok_nil, ↓ok_cons, ↓ok_bin, ↓ok_cb, ↓ok_tup, ↓ok_lst, ↓ok_tru, ↓ok_truB, ↓ok_truI, ↓ok_truN, ↓ok_truL, ↓ok_truT, ↓ok_and, ↓ok_or, ↓ok_not, ↓ok_ifE, ↓ok_andV, ↓ok_orV, ↓ok_notV, ↓ok_neg, ↓ok_chain, ↓ok_seq, ↓ok_skip, ↓ok_retS, ↓ok_retN, ↓ok_bk, ↓ok_ct, ↓ok_ex1, ↓ok_if, ↓ok_set, ↓ok_setP, ↓ok_asg, ↓ok_gN, ↓ok_gsN, ↓ok_gsC, ↓ok_gT, ↓ok_gSb, ↓ok_par, ↓ok_put, ↓ok_get, ↓ok_run, ↓ok_call, ↓ok_callK, ↓ok_make, ↓ok_prop, ↓ok_for, ↓ok_items, ↓ok_rng1, ↓ok_rng2, ↓ok_comp, ↓ok_yes, ↓ok_compS0, ↓ok_compSC, wipeE, ↓ok_sl, ↓ok_noP, ↓ok_pt, ↓ok_slL, ↓ok_slT, ↓ok_rep, ↓ok_app, ↓ok_oSub, ↓ok_oMul, ↓ok_oDiv, ↓ok_oMod, ↓ok_oPow, ↓ok_oLt, ↓ok_oLe, ↓ok_oGt, ↓ok_oGe, ↓ok_oAdd, ↓ok_oAddL, ↓ok_oAddI, ↓ok_oEqI, ↓ok_oEqL, ↓ok_oEqT, ↓ok_oEqB, ↓ok_oEqN, ↓ok_oEqS, ↓ok_oNeI, ↓ok_oNeL, ↓ok_oNeT, ↓ok_oNeB, ↓ok_oNeN, ↓ok_oNeS, ↓ok_oIs, ↓ok_oIsN, ↓ix_0, ↓ix_1, ↓ix_2, ↓ix_3, ↓ix_4, ↓it_0, ↓it_1, ↓it_2, ↓it_3, ixn_0, ixn_1, ixn_2, ↓ok_len, ↓ok_lenT, ↓ok_absI, ↓ok_intI, ↓ok_max2, ↓ok_min2, ↓ok_max3, ↓ok_min3, ↓ok_dm, ↓ok_repr, argsE, backE, outE, Pu.M.dt, List.getElem?_cons_zero, List.getElem?_cons_succ, List.set_cons_zero, List.set_cons_succ, List.take_succ_cons, List.take_zero, List.replicate_zero, List.replicate_succ, List.append_nil, List.nil_append, List.cons_append, List.length_cons, List.length_nil, Nat.sub_self, Nat.reduceSub, Nat.reduceAdd, Nat.reduceLeDiff, decide_true, decide_false, reduceCtorEq, noBor, setsE, slotOf, setsS, putFs, putVs, lookV, sel, isNon, Bool.not_true, Bool.not_false, Bool.not_eq_true, decide_eq_true_eq, decide_eq_false_iff_not, Bool.true_eq_false, Bool.false_eq_true, false_implies, true_implies, and_true, true_and, not_true_eq_false, not_false_eq_true, and_self, implies_true, or_false, false_or, List.flatten_cons, List.flatten_nil, true_or, or_true, Int.sub_zero, eq_self, veq_int, veq_str, cMod, cDiv, cPow, cMul_r, cMul_l, strq, String.reduceEq, sz, szl, dOk_int, dOk_bl, dOk_non, if_true, if_false, Int.reducePow, Int.reduceToNat, Int.reduceMul, Int.reduceAdd, Int.reduceSub, Int.reduceNeg, Int.reduceLT, Int.reduceLE, Int.reduceGT, Int.reduceEq, gt_iff_lt, ge_iff_le, Nat.reducePow, Nat.reduceMul, Nat.reduceLT, Int.cast_ofNat_Int, false_and, and_false, Bool.and_true, Bool.true_and, Bool.and_false, Bool.false_and, Bool.or_true, Bool.true_or, Bool.or_false, Bool.false_or, ↓vD_0, ↓vO_0, ↓rD_0, ↓rO_0, ↓kD_0, ↓kO_0, ↓vD_1, ↓vO_1, ↓rD_1, ↓rO_1, ↓kD_1, ↓kO_1, ↓vD_2, ↓vO_2, ↓rD_2, ↓rO_2, ↓kD_2, ↓kO_2, ↓vD_3, ↓vO_3, ↓rD_3, ↓rO_3, ↓kD_3, ↓kO_3, ↓vD_4, ↓vO_4, ↓rD_4, ↓rO_4, ↓kD_4, ↓kO_4, ↓vD_5, ↓vO_5, ↓rD_5, ↓rO_5, ↓kD_5, ↓kO_5, ↓vD_6, ↓vO_6, ↓rD_6, ↓rO_6, ↓kD_6, ↓kO_6, ↓vD_7, ↓vO_7, ↓rD_7, ↓rO_7, ↓kD_7, ↓kO_7, ↓vD_8, ↓vO_8, ↓rD_8, ↓rO_8, ↓kD_8, ↓kO_8, ↓vD_9, ↓vO_9, ↓rD_9, ↓rO_9, ↓kD_9, ↓kO_9, ↓vD_10, ↓vO_10, ↓rD_10, ↓rO_10, ↓kD_10, ↓kO_10, ↓vD_11, ↓vO_11, ↓rD_11, ↓rO_11, ↓kD_11, ↓kO_11, ↓vD_12, ↓vO_12, ↓rD_12, ↓rO_12, ↓kD_12, ↓kO_12, ↓vD_13, ↓vO_13, ↓rD_13, ↓rO_13, ↓kD_13, ↓kO_13, ↓vD_14, ↓vO_14, ↓rD_14, ↓rO_14, ↓kD_14, ↓kO_14, ↓vD_15, ↓vO_15, ↓rD_15, ↓rO_15, ↓kD_15, ↓kO_15]
    refine Ok.mono (r_plan (by omega) (by omega)) ?_
    rintro _ _ ⟨g, t, f, p, a, b, c, rfl, rfl, ⟨g1, g2⟩, ht, ⟨f1, f2⟩, p1, p2⟩
    have hg : 0 < g := by omega
    simp (disch := first | omega | rfl) only [↓ok_d1, ↓ok_d2, ↓ok_d3, ↓ok_d4, ↓ok_d5, ↓ok_d6, ↓ok_d7, ↓ok_bind, ↓ok_ret, ↓ok_bad, ↓ok_mV, ↓ok_rdD, ↓ok_rdT, ↓ok_dtD, ↓ok_dtT, ↓ok_rds0, ↓ok_rdsC, ↓ok_dts0, ↓ok_dtsC, ↓ok_nil, ↓ok_cons, ↓ok_bin, ↓ok_cb, ↓ok_tup, ↓ok_lst, ↓ok_tru, ↓ok_truB, ↓ok_truI, ↓ok_truN, ↓ok_truL, ↓ok_truT, ↓ok_and, ↓ok_or, ↓ok_not, ↓ok_ifE, ↓ok_andV, ↓ok_orV, ↓ok_notV, ↓ok_neg, ↓ok_chain, ↓ok_seq, ↓ok_skip, ↓ok_retS, ↓ok_retN, ↓ok_bk, ↓ok_ct, ↓ok_ex1, ↓ok_if, ↓ok_set, ↓ok_setP, ↓ok_asg, ↓ok_gN, ↓ok_gsN, ↓ok_gsC, ↓ok_gT, ↓ok_gSb, ↓ok_par, ↓ok_put, ↓ok_get, ↓ok_run, ↓ok_call, ↓ok_callK, ↓ok_make, ↓ok_prop, ↓ok_for, ↓ok_items, ↓ok_rng1, ↓ok_rng2, ↓ok_comp, ↓ok_yes, ↓ok_compS0, ↓ok_compSC, wipeE, ↓ok_sl, ↓ok_noP, ↓ok_pt, ↓ok_slL, ↓ok_slT, ↓ok_rep, ↓ok_app, ↓ok_oSub, ↓ok_oMul, ↓ok_oDiv, ↓ok_oMod, ↓ok_oPow, ↓ok_oLt, ↓ok_oLe, ↓ok_oGt, ↓ok_oGe, ↓ok_oAdd, ↓ok_oAddL, ↓ok_oAddI, ↓ok_oEqI, ↓ok_oEqL, ↓ok_oEqT, ↓ok_oEqB, ↓ok_oEqN, ↓ok_oEqS, ↓ok_oNeI, ↓ok_oNeL, ↓ok_oNeT, ↓ok_oNeB, ↓ok_oNeN, ↓ok_oNeS, ↓ok_oIs, ↓ok_oIsN, ↓ix_0, ↓ix_1, ↓ix_2, ↓ix_3, ↓ix_4, ↓it_0, ↓it_1, ↓it_2, ↓it_3, ixn_0, ixn_1, ixn_2, ↓ok_len, ↓ok_lenT, ↓ok_absI, ↓ok_intI, ↓ok_max2, ↓ok_min2, ↓ok_max3, ↓ok_min3, ↓ok_dm, ↓ok_repr, argsE, backE, outE, Pu.M.dt, List.getElem?_cons_zero, List.getElem?_cons_succ, List.set_cons_zero, List.set_cons_succ, List.take_succ_cons, List.take_zero, List.replicate_zero, List.replicate_succ, List.append_nil, List.nil_append, List.cons_append, List.length_cons, List.length_nil, Nat.sub_self, Nat.reduceSub, Nat.reduceAdd, Nat.reduceLeDiff, decide_true, decide_false, reduceCtorEq, noBor, setsE, slotOf, setsS, putFs, putVs, lookV, sel, isNon, Bool.not_true, Bool.not_false, Bool.not_eq_true, decide_eq_true_eq, decide_eq_false_iff_not, Bool.true_eq_false, Bool.false_eq_true, false_implies, true_implies, and_true, true_and, not_true_eq_false, not_false_eq_true, and_self, implies_true, or_false, false_or, List.flatten_cons, List.flatten_nil, true_or, or_true, Int.sub_zero, eq_self, veq_int, veq_str, cMod, cDiv, cPow, cMul_r, cMul_l, strq, String.reduceEq, sz, szl, dOk_int, dOk_bl, dOk_non, if_true, if_false, Int.reducePow, Int.reduceToNat, Int.reduceMul, Int.reduceAdd, Int.reduceSub, Int.reduceNeg, Int.reduceLT, Int.reduceLE, Int.reduceGT, Int.reduceEq, gt_iff_lt, ge_iff_le, Nat.reducePow, Nat.reduceMul, Nat.reduceLT, Int.cast_ofNat_Int, false_and, and_false, Bool.and_true, Bool.true_and, Bool.and_false, Bool.false_and, Bool.or_true, Bool.true_or, Bool.or_false, Bool.false_or, ↓vD_0, ↓vO_0, ↓rD_0, ↓rO_0, ↓kD_0, ↓kO_0, ↓vD_1, ↓vO_1, ↓rD_1, ↓rO_1, ↓kD_1, ↓kO_1, ↓vD_2, ↓vO_2, ↓rD_2, ↓rO_2, ↓kD_2, ↓kO_2, ↓vD_3, ↓vO_3, ↓rD_3, ↓rO_3, ↓kD_3, ↓kO_3, ↓vD_4, ↓vO_4, ↓rD_4, ↓rO_4, ↓kD_4, ↓kO_4, ↓vD_5, ↓vO_5, ↓rD_5, ↓rO_5, ↓kD_5, ↓kO_5, ↓vD_6, ↓vO_6, ↓rD_6, ↓rO_6, ↓kD_6, ↓kO_6, ↓vD_7, ↓vO_7, ↓rD_7, ↓rO_7, ↓kD_7, ↓kO_7, ↓vD_8, ↓vO_8, ↓rD_8, ↓rO_8, ↓kD_8, ↓kO_8, ↓vD_9, ↓vO_9, ↓rD_9, ↓rO_9, ↓kD_9, ↓kO_9, ↓vD_10, ↓vO_10, ↓rD_10, ↓rO_10, ↓kD_10, ↓kO_10, ↓vD_11, ↓vO_11, ↓rD_11, ↓rO_11, ↓kD_11, ↓kO_11, ↓vD_12, ↓vO_12, ↓rD_12, ↓rO_12, ↓kD_12, ↓kO_12, ↓vD_13, ↓vO_13, ↓rD_13, ↓rO_13, ↓kD_13, ↓kO_13, ↓vD_14, ↓vO_14, ↓rD_14, ↓rO_14, ↓kD_14, ↓kO_14, ↓vD_15, ↓vO_15, ↓rD_15, ↓rO_15, ↓kD_15, ↓kO_15]
    refine Ok.mono (r_far (by omega) (by omega)) ?_
    rintro _ _ ⟨d1, a, b, c, rfl, rfl, d11, d12⟩
    simp (disch := first | omega | rfl) only [↓ok_d1, ↓ok_d2, ↓ok_d3, ↓ok_d4, ↓ok_d5, ↓ok_d6, ↓ok_d7, ↓ok_bind, ↓ok_ret, ↓ok_bad, ↓ok_mV, ↓ok_rdD, ↓ok_rdT, ↓ok_dtD, ↓ok_dtT, ↓ok_rds0, ↓ok_rdsC, ↓ok_dts0, ↓ok_dtsC, ↓ok_nil, ↓ok_cons, ↓ok_bin, ↓ok_cb, ↓ok_tup, ↓ok_lst, ↓ok_tru, ↓ok_truB, ↓ok_truI, ↓ok_truN, ↓ok_truL, ↓ok_truT, ↓ok_and, ↓ok_or, ↓ok_not, ↓ok_ifE, ↓ok_andV, ↓ok_orV, ↓ok_notV, ↓ok_neg, ↓ok_chain, ↓ok_seq, ↓ok_skip, ↓ok_retS, ↓ok_retN, ↓ok_bk, ↓ok_ct, ↓ok_ex1, ↓ok_if, ↓ok_set, ↓ok_setP, ↓ok_asg, ↓ok_gN, ↓ok_gsN, ↓ok_gsC, ↓ok_gT, ↓ok_gSb, ↓ok_par, ↓ok_put, ↓ok_get, ↓ok_run, ↓ok_call, ↓ok_callK, ↓ok_make, ↓ok_prop, ↓ok_for, ↓ok_items, ↓ok_rng1, ↓ok_rng2, ↓ok_comp, ↓ok_yes, ↓ok_compS0, ↓ok_compSC, wipeE, ↓ok_sl, ↓ok_noP, ↓ok_pt, ↓ok_slL, ↓ok_slT, ↓ok_rep, ↓ok_app, ↓ok_oSub, ↓ok_oMul, ↓ok_oDiv, ↓ok_oMod, ↓ok_oPow, ↓ok_oLt, ↓ok_oLe, ↓ok_oGt, ↓ok_oGe, ↓ok_oAdd, ↓ok_oAddL, ↓ok_oAddI, ↓ok_oEqI, ↓ok_oEqL, ↓ok_oEqT, ↓ok_oEqB, ↓ok_oEqN, ↓ok_oEqS, ↓ok_oNeI, ↓ok_oNeL, ↓ok_oNeT, ↓ok_oNeB, ↓ok_oNeN, ↓ok_oNeS, ↓ok_oIs, ↓ok_oIsN, ↓ix_0, ↓ix_1, ↓ix_2, ↓ix_3, ↓ix_4, ↓it_0, ↓it_1, ↓it_2, ↓it_3, ixn_0, ixn_1, ixn_2, ↓ok_len, ↓ok_lenT, ↓ok_absI, ↓ok_intI, ↓ok_max2, ↓ok_min2, ↓ok_max3, ↓ok_min3, ↓ok_dm, ↓ok_repr, argsE, backE, outE, Pu.M.dt, List.getElem?_cons_zero, List.getElem?_cons_succ, List.set_cons_zero, List.set_cons_succ, List.take_succ_cons, List.take_zero, List.replicate_zero, List.replicate_succ, List.append_nil, List.nil_append, List.cons_append, List.length_cons, List.length_nil, Nat.sub_self, Nat.reduceSub, Nat.reduceAdd, Nat.reduceLeDiff, decide_true, decide_false, reduceCtorEq, noBor, setsE, slotOf, setsS, putFs, putVs, lookV, sel, isNon, Bool.not_true, Bool.not_false, Bool.not_eq_true, decide_eq_true_eq, decide_eq_false_iff_not, Bool.true_eq_false, Bool.false_eq_true, false_implies, true_implies, and_true, true_and, not_true_eq_false, not_false_eq_true, and_self, implies_true, or_false, false_or, List.flatten_cons, List.flatten_nil, true_or, or_true, Int.sub_zero, eq_self, veq_int, veq_str, cMod, cDiv, cPow, cMul_r, cMul_l, strq, String.reduceEq, sz, szl, dOk_int, dOk_bl, dOk_non, if_true, if_false, Int.reducePow, Int.reduceToNat, Int.reduceMul, Int.reduceAdd, Int.reduceSub, Int.reduceNeg, Int.reduceLT, Int.reduceLE, Int.reduceGT, Int.reduceEq, gt_iff_lt, ge_iff_le, Nat.reducePow, Nat.reduceMul, Nat.reduceLT, Int.cast_ofNat_Int, false_and, and_false, Bool.and_true, Bool.true_and, Bool.and_false, Bool.false_and, Bool.or_true, Bool.true_or, Bool.or_false, Bool.false_or, ↓vD_0, ↓vO_0, ↓rD_0, ↓rO_0, ↓kD_0, ↓kO_0, ↓vD_1, ↓vO_1, ↓rD_1, ↓rO_1, ↓kD_1, ↓kO_1, ↓vD_2, ↓vO_2, ↓rD_2, ↓rO_2, ↓kD_2, ↓kO_2, ↓vD_3, ↓vO_3, ↓rD_3, ↓rO_3, ↓kD_3, ↓kO_3, ↓vD_4, ↓vO_4, ↓rD_4, ↓rO_4, ↓kD_4, ↓kO_4, ↓vD_5, ↓vO_5, ↓rD_5, ↓rO_5, ↓kD_5, ↓kO_5, ↓vD_6, ↓vO_6, ↓rD_6, ↓rO_6, ↓kD_6, ↓kO_6, ↓vD_7, ↓vO_7, ↓rD_7, ↓rO_7, ↓kD_7, ↓kO_7, ↓vD_8, ↓vO_8, ↓rD_8, ↓rO_8, ↓kD_8, ↓kO_8, ↓vD_9, ↓vO_9, ↓rD_9, ↓rO_9, ↓kD_9, ↓kO_9, ↓vD_10, ↓vO_10, ↓rD_10, ↓rO_10, ↓kD_10, ↓kO_10, ↓vD_11, ↓vO_11, ↓rD_11, ↓rO_11, ↓kD_11, ↓kO_11, ↓vD_12, ↓vO_12, ↓rD_12, ↓rO_12, ↓kD_12, ↓kO_12, ↓vD_13, ↓vO_13, ↓rD_13, ↓rO_13, ↓kD_13, ↓kO_13, ↓vD_14, ↓vO_14, ↓rD_14, ↓rO_14, ↓kD_14, ↓kO_14, ↓vD_15, ↓vO_15, ↓rD_15, ↓rO_15, ↓kD_15, ↓kO_15]
    refine Ok.mono (r_pick (by simp) (by simp)) ?_
    rintro _ _ ⟨v, a, b, c, hv, rfl, rfl⟩
    obtain ⟨day, rfl, y1, y2⟩ : ∃ k : Int, v = .int k ∧ 1 ≤ k ∧ k ≤ 1000000000000000000 := by
      simp only [List.mem_cons, List.not_mem_nil, or_false] at hv
      rcases hv with rfl | rfl | rfl | rfl <;> exact ⟨_, rfl, by omega, by omega⟩
    simp (disch := first | omega | rfl) only [↓ok_d1, ↓ok_d2, ↓ok_d3, ↓ok_d4, ↓ok_d5, ↓ok_d6, ↓ok_d7, ↓ok_bind, ↓ok_ret, ↓ok_bad, ↓ok_mV, ↓ok_rdD, ↓ok_rdT, ↓ok_dtD, ↓ok_dtT, ↓ok_rds0, ↓ok_rdsC, ↓ok_dts0, ↓ok_dtsC, ↓ok_nil, ↓ok_cons, ↓ok_bin, ↓ok_cb, ↓ok_tup, ↓ok_lst, ↓ok_tru, ↓ok_truB, ↓ok_truI, ↓ok_truN, ↓ok_truL, ↓ok_truT, ↓ok_and, ↓ok_or, ↓ok_not, ↓ok_ifE, ↓ok_andV, ↓ok_orV, ↓ok_notV, ↓ok_neg, ↓ok_chain, ↓ok_seq, ↓ok_skip, ↓ok_retS, ↓ok_retN, ↓ok_bk, ↓ok_ct, ↓ok_ex1, ↓ok_if, ↓ok_set, ↓ok_setP, ↓ok_asg, ↓ok_gN, ↓ok_gsN, ↓ok_gsC, ↓ok_gT, ↓ok_gSb, ↓ok_par, ↓ok_put, ↓ok_get, ↓ok_run, ↓ok_call, ↓ok_callK, ↓ok_make, ↓ok_prop, ↓ok_for, ↓ok_items, ↓ok_rng1, ↓ok_rng2, ↓ok_comp, ↓ok_yes, ↓ok_compS0, ↓ok_compSC, wipeE, ↓ok_sl, ↓ok_noP, ↓ok_pt, ↓ok_slL, ↓ok_slT, ↓ok_rep, ↓ok_app, ↓ok_oSub, ↓ok_oMul, ↓ok_oDiv, ↓ok_oMod, ↓ok_oPow, ↓ok_oLt, ↓ok_oLe, ↓ok_oGt, ↓ok_oGe, ↓ok_oAdd, ↓ok_oAddL, ↓ok_oAddI, ↓ok_oEqI, ↓ok_oEqL, ↓ok_oEqT, ↓ok_oEqB, ↓ok_oEqN, ↓ok_oEqS, ↓ok_oNeI, ↓ok_oNeL, ↓ok_oNeT, ↓ok_oNeB, ↓ok_oNeN, ↓ok_oNeS, ↓ok_oIs, ↓ok_oIsN, ↓ix_0, ↓ix_1, ↓ix_2, ↓ix_3, ↓ix_4, ↓it_0, ↓it_1, ↓it_2, ↓it_3, ixn_0, ixn_1, ixn_2, ↓ok_len, ↓ok_lenT, ↓ok_absI, ↓ok_intI, ↓ok_max2, ↓ok_min2, ↓ok_max3, ↓ok_min3, ↓ok_dm, ↓ok_repr, argsE, backE, outE, Pu.M.dt, List.getElem?_cons_zero, List.getElem?_cons_succ, List.set_cons_zero, List.set_cons_succ, List.take_succ_cons, List.take_zero, List.replicate_zero, List.replicate_succ, List.append_nil, List.nil_append, List.cons_append, List.length_cons, List.length_nil, Nat.sub_self, Nat.reduceSub, Nat.reduceAdd, Nat.reduceLeDiff, decide_true, decide_false, reduceCtorEq, noBor, setsE, slotOf, setsS, putFs, putVs, lookV, sel, isNon, Bool.not_true, Bool.not_false, Bool.not_eq_true, decide_eq_true_eq, decide_eq_false_iff_not, Bool.true_eq_false, Bool.false_eq_true, false_implies, true_implies, and_true, true_and, not_true_eq_false, not_false_eq_true, and_self, implies_true, or_false, false_or, List.flatten_cons, List.flatten_nil, true_or, or_true, Int.sub_zero, eq_self, veq_int, veq_str, cMod, cDiv, cPow, cMul_r, cMul_l, strq, String.reduceEq, sz, szl, dOk_int, dOk_bl, dOk_non, if_true, if_false, Int.reducePow, Int.reduceToNat, Int.reduceMul, Int.reduceAdd, Int.reduceSub, Int.reduceNeg, Int.reduceLT, Int.reduceLE, Int.reduceGT, Int.reduceEq, gt_iff_lt, ge_iff_le, Nat.reducePow, Nat.reduceMul, Nat.reduceLT, Int.cast_ofNat_Int, false_and, and_false, Bool.and_true, Bool.true_and, Bool.and_false, Bool.false_and, Bool.or_true, Bool.true_or, Bool.or_false, Bool.false_or, ↓vD_0, ↓vO_0, ↓rD_0, ↓rO_0, ↓kD_0, ↓kO_0, ↓vD_1, ↓vO_1, ↓rD_1, ↓rO_1, ↓kD_1, ↓kO_1, ↓vD_2, ↓vO_2, ↓rD_2, ↓rO_2, ↓kD_2, ↓kO_2, ↓vD_3, ↓vO_3, ↓rD_3, ↓rO_3, ↓kD_3, ↓kO_3, ↓vD_4, ↓vO_4, ↓rD_4, ↓rO_4, ↓kD_4, ↓kO_4, ↓vD_5, ↓vO_5, ↓rD_5, ↓rO_5, ↓kD_5, ↓kO_5, ↓vD_6, ↓vO_6, ↓rD_6, ↓rO_6, ↓kD_6, ↓kO_6, ↓vD_7, ↓vO_7, ↓rD_7, ↓rO_7, ↓kD_7, ↓kO_7, ↓vD_8, ↓vO_8, ↓rD_8, ↓rO_8, ↓kD_8, ↓kO_8, ↓vD_9, ↓vO_9, ↓rD_9, ↓rO_9, ↓kD_9, ↓kO_9, ↓vD_10, ↓vO_10, ↓rD_10, ↓rO_10, ↓kD_10, ↓kO_10, ↓vD_11, ↓vO_11, ↓rD_11, ↓rO_11, ↓kD_11, ↓kO_11, ↓vD_12, ↓vO_12, ↓rD_12, ↓rO_12, ↓kD_12, ↓kO_12, ↓vD_13, ↓vO_13, ↓rD_13, ↓rO_13, ↓kD_13, ↓kO_13, ↓vD_14, ↓vO_14, ↓rD_14, ↓rO_14, ↓kD_14, ↓kO_14, ↓vD_15, ↓vO_15, ↓rD_15, ↓rO_15, ↓kD_15, ↓kO_15, ↓ok_sortSet]
    refine Ok.mono (r_sip (by omega) (by omega)) ?_
    rintro _ _ ⟨d2, a, b, c, rfl, rfl, d21, d22⟩
    simp (disch := first | omega | rfl) only [↓ok_d1, ↓ok_d2, ↓ok_d3, ↓ok_d4, ↓ok_d5, ↓ok_d6, ↓ok_d7, ↓ok_bind, ↓ok_ret, ↓ok_bad, ↓ok_mV, ↓ok_rdD, ↓ok_rdT, ↓ok_dtD, ↓ok_dtT, ↓ok_rds0, ↓ok_rdsC, ↓ok_dts0, ↓ok_dtsC, ↓ok_nil, ↓ok_cons, ↓ok_bin, ↓ok_cb, ↓ok_tup, ↓ok_lst, ↓ok_tru, ↓ok_truB, ↓ok_truI, ↓ok_truN, ↓ok_truL, ↓ok_truT, ↓ok_and, ↓ok_or, ↓ok_not, ↓ok_ifE, ↓ok_andV, ↓ok_orV, ↓ok_notV, ↓ok_neg, ↓ok_chain, ↓ok_seq, ↓ok_skip, ↓ok_retS, ↓ok_retN, ↓ok_bk, ↓ok_ct, ↓ok_ex1, ↓ok_if, ↓ok_set, ↓ok_setP, ↓ok_asg, ↓ok_gN, ↓ok_gsN, ↓ok_gsC, ↓ok_gT, ↓ok_gSb, ↓ok_par, ↓ok_put, ↓ok_get, ↓ok_run, ↓ok_call, ↓ok_callK, ↓ok_make, ↓ok_prop, ↓ok_for, ↓ok_items, ↓ok_rng1, ↓ok_rng2, ↓ok_comp, ↓ok_yes, ↓ok_compS0, ↓ok_compSC, wipeE, ↓ok_sl, ↓ok_noP, ↓ok_pt, ↓ok_slL, ↓ok_slT, ↓ok_rep, ↓ok_app, ↓ok_oSub, ↓ok_oMul, ↓ok_oDiv, ↓ok_oMod, ↓ok_oPow, ↓ok_oLt, ↓ok_oLe, ↓ok_oGt, ↓ok_oGe, ↓ok_oAdd, ↓ok_oAddL, ↓ok_oAddI, ↓ok_oEqI, ↓ok_oEqL, ↓ok_oEqT, ↓ok_oEqB, ↓ok_oEqN, ↓ok_oEqS, ↓ok_oNeI, ↓ok_oNeL, ↓ok_oNeT, ↓ok_oNeB, ↓ok_oNeN, ↓ok_oNeS, ↓ok_oIs, ↓ok_oIsN, ↓ix_0, ↓ix_1, ↓ix_2, ↓ix_3, ↓ix_4, ↓it_0, ↓it_1, ↓it_2, ↓it_3, ixn_0, ixn_1, ixn_2, ↓ok_len, ↓ok_lenT, ↓ok_absI, ↓ok_intI, ↓ok_max2, ↓ok_min2, ↓ok_max3, ↓ok_min3, ↓ok_dm, ↓ok_repr, argsE, backE, outE, Pu.M.dt, List.getElem?_cons_zero, List.getElem?_cons_succ, List.set_cons_zero, List.set_cons_succ, List.take_succ_cons, List.take_zero, List.replicate_zero, List.replicate_succ, List.append_nil, List.nil_append, List.cons_append, List.length_cons, List.length_nil, Nat.sub_self, Nat.reduceSub, Nat.reduceAdd, Nat.reduceLeDiff, decide_true, decide_false, reduceCtorEq, noBor, setsE, slotOf, setsS, putFs, putVs, lookV, sel, isNon, Bool.not_true, Bool.not_false, Bool.not_eq_true, decide_eq_true_eq, decide_eq_false_iff_not, Bool.true_eq_false, Bool.false_eq_true, false_implies, true_implies, and_true, true_and, not_true_eq_false, not_false_eq_true, and_self, implies_true, or_false, false_or, List.flatten_cons, List.flatten_nil, true_or, or_true, Int.sub_zero, eq_self, veq_int, veq_str, cMod, cDiv, cPow, cMul_r, cMul_l, strq, String.reduceEq, sz, szl, dOk_int, dOk_bl, dOk_non, if_true, if_false, Int.reducePow, Int.reduceToNat, Int.reduceMul, Int.reduceAdd, Int.reduceSub, Int.reduceNeg, Int.reduceLT, Int.reduceLE, Int.reduceGT, Int.reduceEq, gt_iff_lt, ge_iff_le, Nat.reducePow, Nat.reduceMul, Nat.reduceLT, Int.cast_ofNat_Int, false_and, and_false, Bool.and_true, Bool.true_and, Bool.and_false, Bool.false_and, Bool.or_true, Bool.true_or, Bool.or_false, Bool.false_or, ↓vD_0, ↓vO_0, ↓rD_0, ↓rO_0, ↓kD_0, ↓kO_0, ↓vD_1, ↓vO_1, ↓rD_1, ↓rO_1, ↓kD_1, ↓kO_1, ↓vD_2, ↓vO_2, ↓rD_2, ↓rO_2, ↓kD_2, ↓kO_2, ↓vD_3, ↓vO_3, ↓rD_3, ↓rO_3, ↓kD_3, ↓kO_3, ↓vD_4, ↓vO_4, ↓rD_4, ↓rO_4, ↓kD_4, ↓kO_4, ↓vD_5, ↓vO_5, ↓rD_5, ↓rO_5, ↓kD_5, ↓kO_5, ↓vD_6, ↓vO_6, ↓rD_6, ↓rO_6, ↓kD_6, ↓kO_6, ↓vD_7, ↓vO_7, ↓rD_7, ↓rO_7, ↓kD_7, ↓kO_7, ↓vD_8, ↓vO_8, ↓rD_8, ↓rO_8, ↓kD_8, ↓kO_8, ↓vD_9, ↓vO_9, ↓rD_9, ↓rO_9, ↓kD_9, ↓kO_9, ↓vD_10, ↓vO_10, ↓rD_10, ↓rO_10, ↓kD_10, ↓kO_10, ↓vD_11, ↓vO_11, ↓rD_11, ↓rO_11, ↓kD_11, ↓kO_11, ↓vD_12, ↓vO_12, ↓rD_12, ↓rO_12, ↓kD_12, ↓kO_12, ↓vD_13, ↓vO_13, ↓rD_13, ↓rO_13, ↓kD_13, ↓kO_13, ↓vD_14, ↓vO_14, ↓rD_14, ↓rO_14, ↓kD_14, ↓kO_14, ↓vD_15, ↓vO_15, ↓rD_15, ↓rO_15, ↓kD_15, ↓kO_15]
    refine ⟨⟨by omega, by omega⟩, ?_⟩
    refine Ok.mono (Ok.compD (fun e => ∃ a b c, e = [.own (.lst [.int a, .int b, .int c]), .dat v, .own (.lst [.int g, .str t, .int f, .int p]), .dat (.int day), s4, s5, s6, s7, s8, s9, s10, .un]) (fun i => 0 ≤ i ∧ i < day) ⟨a, b, c, rfl⟩ (by simp [rangeV]; omega) ?_) ?_
    · rintro w hw _ ⟨a, b, c, rfl⟩
      simp (disch := first | omega | rfl) only [↓ok_d1, ↓ok_d2, ↓ok_d3, ↓ok_d4, ↓ok_d5, ↓ok_d6, ↓ok_d7, ↓ok_bind, ↓ok_ret, ↓ok_bad, ↓ok_mV, ↓ok_rdD, ↓ok_rdT, ↓ok_dtD, ↓ok_dtT, ↓ok_rds0, ↓ok_rdsC, ↓ok_dts0, ↓ok_dtsC, ↓ok_nil, ↓ok_cons, ↓ok_bin, ↓ok_cb, ↓ok_tup, ↓ok_lst, ↓ok_tru, ↓ok_truB, ↓ok_truI, ↓ok_truN, ↓ok_truL, ↓ok_truT, ↓ok_and, ↓ok_or, ↓ok_not, ↓ok_ifE, ↓ok_andV, ↓ok_orV, ↓ok_notV, ↓ok_neg, ↓ok_chain, ↓ok_seq, ↓ok_skip, ↓ok_retS, ↓ok_retN, ↓ok_bk, ↓ok_ct, ↓ok_ex1, ↓ok_if, ↓ok_set, ↓ok_setP, ↓ok_asg, ↓ok_gN, ↓ok_gsN, ↓ok_gsC, ↓ok_gT, ↓ok_gSb, ↓ok_par, ↓ok_put, ↓ok_get, ↓ok_run, ↓ok_call, ↓ok_callK, ↓ok_make, ↓ok_prop, ↓ok_for, ↓ok_items, ↓ok_rng1, ↓ok_rng2, ↓ok_comp, ↓ok_yes, ↓ok_compS0, ↓ok_compSC, wipeE, ↓ok_sl, ↓ok_noP, ↓ok_pt, ↓ok_slL, ↓ok_slT, ↓ok_rep, ↓ok_app, ↓ok_oSub, ↓ok_oMul, ↓ok_oDiv, ↓ok_oMod, ↓ok_oPow, ↓ok_oLt, ↓ok_oLe, ↓ok_oGt, ↓ok_oGe, ↓ok_oAdd, ↓ok_oAddL, ↓ok_oAddI, ↓ok_oEqI, ↓ok_oEqL, ↓ok_oEqT, ↓ok_oEqB, ↓ok_oEqN, ↓ok_oEqS, ↓ok_oNeI, ↓ok_oNeL, ↓ok_oNeT, ↓ok_oNeB, ↓ok_oNeN, ↓ok_oNeS, ↓ok_oIs, ↓ok_oIsN, ↓ix_0, ↓ix_1, ↓ix_2, ↓ix_3, ↓ix_4, ↓it_0, ↓it_1, ↓it_2, ↓it_3, ixn_0, ixn_1, ixn_2, ↓ok_len, ↓ok_lenT, ↓ok_absI, ↓ok_intI, ↓ok_max2, ↓ok_min2, ↓ok_max3, ↓ok_min3, ↓ok_dm, ↓ok_repr, argsE, backE, outE, Pu.M.dt, List.getElem?_cons_zero, List.getElem?_cons_succ, List.set_cons_zero, List.set_cons_succ, List.take_succ_cons, List.take_zero, List.replicate_zero, List.replicate_succ, List.append_nil, List.nil_append, List.cons_append, List.length_cons, List.length_nil, Nat.sub_self, Nat.reduceSub, Nat.reduceAdd, Nat.reduceLeDiff, decide_true, decide_false, reduceCtorEq, noBor, setsE, slotOf, setsS, putFs, putVs, lookV, sel, isNon, Bool.not_true, Bool.not_false, Bool.not_eq_true, decide_eq_true_eq, decide_eq_false_iff_not, Bool.true_eq_false, Bool.false_eq_true, false_implies, true_implies, and_true, true_and, not_true_eq_false, not_false_eq_true, and_self, implies_true, or_false, false_or, List.flatten_cons, List.flatten_nil, true_or, or_true, Int.sub_zero, eq_self, veq_int, veq_str, cMod, cDiv, cPow, cMul_r, cMul_l, strq, String.reduceEq, sz, szl, dOk_int, dOk_bl, dOk_non, if_true, if_false, Int.reducePow, Int.reduceToNat, Int.reduceMul, Int.reduceAdd, Int.reduceSub, Int.reduceNeg, Int.reduceLT, Int.reduceLE, Int.reduceGT, Int.reduceEq, gt_iff_lt, ge_iff_le, Nat.reducePow, Nat.reduceMul, Nat.reduceLT, Int.cast_ofNat_Int, false_and, and_false, Bool.and_true, Bool.true_and, Bool.and_false, Bool.false_and, Bool.or_true, Bool.true_or, Bool.or_false, Bool.false_or, ↓vD_0, ↓vO_0, ↓rD_0, ↓rO_0, ↓kD_0, ↓kO_0, ↓vD_1, ↓vO_1, ↓rD_1, ↓rO_1, ↓kD_1, ↓kO_1, ↓vD_2, ↓vO_2, ↓rD_2, ↓rO_2, ↓kD_2, ↓kO_2, ↓vD_3, ↓vO_3, ↓rD_3, ↓rO_3, ↓kD_3, ↓kO_3, ↓vD_4, ↓vO_4, ↓rD_4, ↓rO_4, ↓kD_4, ↓kO_4, ↓vD_5, ↓vO_5, ↓rD_5, ↓rO_5, ↓kD_5, ↓kO_5, ↓vD_6, ↓vO_6, ↓rD_6, ↓rO_6, ↓kD_6, ↓kO_6, ↓vD_7, ↓vO_7, ↓rD_7, ↓rO_7, ↓kD_7, ↓kO_7, ↓vD_8, ↓vO_8, ↓rD_8, ↓rO_8, ↓kD_8, ↓kO_8, ↓vD_9, ↓vO_9, ↓rD_9, ↓rO_9, ↓kD_9, ↓kO_9, ↓vD_10, ↓vO_10, ↓rD_10, ↓rO_10, ↓kD_10, ↓kO_10, ↓vD_11, ↓vO_11, ↓rD_11, ↓rO_11, ↓kD_11, ↓kO_11, ↓vD_12, ↓vO_12, ↓rD_12, ↓rO_12, ↓kD_12, ↓kO_12, ↓vD_13, ↓vO_13, ↓rD_13, ↓rO_13, ↓kD_13, ↓kO_13, ↓vD_14, ↓vO_14, ↓rD_14, ↓rO_14, ↓kD_14, ↓kO_14, ↓vD_15, ↓vO_15, ↓rD_15, ↓rO_15, ↓kD_15, ↓kO_15]
      refine Ok.mono (r_far (by omega) (by omega)) ?_
      rintro _ _ ⟨d, a, b, c, rfl, rfl, d1, d2⟩
      simp (disch := first | omega | rfl) only [↓ok_d1, ↓ok_d2, ↓ok_d3, ↓ok_d4, ↓ok_d5, ↓ok_d6, ↓ok_d7, ↓ok_bind, ↓ok_ret, ↓ok_bad, ↓ok_mV, ↓ok_rdD, ↓ok_rdT, ↓ok_dtD, ↓ok_dtT, ↓ok_rds0, ↓ok_rdsC, ↓ok_dts0, ↓ok_dtsC, ↓ok_nil, ↓ok_cons, ↓ok_bin, ↓ok_cb, ↓ok_tup, ↓ok_lst, ↓ok_tru, ↓ok_truB, ↓ok_truI, ↓ok_truN, ↓ok_truL, ↓ok_truT, ↓ok_and, ↓ok_or, ↓ok_not, ↓ok_ifE, ↓ok_andV, ↓ok_orV, ↓ok_notV, ↓ok_neg, ↓ok_chain, ↓ok_seq, ↓ok_skip, ↓ok_retS, ↓ok_retN, ↓ok_bk, ↓ok_ct, ↓ok_ex1, ↓ok_if, ↓ok_set, ↓ok_setP, ↓ok_asg, ↓ok_gN, ↓ok_gsN, ↓ok_gsC, ↓ok_gT, ↓ok_gSb, ↓ok_par, ↓ok_put, ↓ok_get, ↓ok_run, ↓ok_call, ↓ok_callK, ↓ok_make, ↓ok_prop, ↓ok_for, ↓ok_items, ↓ok_rng1, ↓ok_rng2, ↓ok_comp, ↓ok_yes, ↓ok_compS0, ↓ok_compSC, wipeE, ↓ok_sl, ↓ok_noP, ↓ok_pt, ↓ok_slL, ↓ok_slT, ↓ok_rep, ↓ok_app, ↓ok_oSub, ↓ok_oMul, ↓ok_oDiv, ↓ok_oMod, ↓ok_oPow, ↓ok_oLt, ↓ok_oLe, ↓ok_oGt, ↓ok_oGe, ↓ok_oAdd, ↓ok_oAddL, ↓ok_oAddI, ↓ok_oEqI, ↓ok_oEqL, ↓ok_oEqT, ↓ok_oEqB, ↓ok_oEqN, ↓ok_oEqS, ↓ok_oNeI, ↓ok_oNeL, ↓ok_oNeT, ↓ok_oNeB, ↓ok_oNeN, ↓ok_oNeS, ↓ok_oIs, ↓ok_oIsN, ↓ix_0, ↓ix_1, ↓ix_2, ↓ix_3, ↓ix_4, ↓it_0, ↓it_1, ↓it_2, ↓it_3, ixn_0, ixn_1, ixn_2, ↓ok_len, ↓ok_lenT, ↓ok_absI, ↓ok_intI, ↓ok_max2, ↓ok_min2, ↓ok_max3, ↓ok_min3, ↓ok_dm, ↓ok_repr, argsE, backE, outE, Pu.M.dt, List.getElem?_cons_zero, List.getElem?_cons_succ, List.set_cons_zero, List.set_cons_succ, List.take_succ_cons, List.take_zero, List.replicate_zero, List.replicate_succ, List.append_nil, List.nil_append, List.cons_append, List.length_cons, List.length_nil, Nat.sub_self, Nat.reduceSub, Nat.reduceAdd, Nat.reduceLeDiff, decide_true, decide_false, reduceCtorEq, noBor, setsE, slotOf, setsS, putFs, putVs, lookV, sel, isNon, Bool.not_true, Bool.not_false, Bool.not_eq_true, decide_eq_true_eq, decide_eq_false_iff_not, Bool.true_eq_false, Bool.false_eq_true, false_implies, true_implies, and_true, true_and, not_true_eq_false, not_false_eq_true, and_self, implies_true, or_false, false_or, List.flatten_cons, List.flatten_nil, true_or, or_true, Int.sub_zero, eq_self, veq_int, veq_str, cMod, cDiv, cPow, cMul_r, cMul_l, strq, String.reduceEq, sz, szl, dOk_int, dOk_bl, dOk_non, if_true, if_false, Int.reducePow, Int.reduceToNat, Int.reduceMul, Int.reduceAdd, Int.reduceSub, Int.reduceNeg, Int.reduceLT, Int.reduceLE, Int.reduceGT, Int.reduceEq, gt_iff_lt, ge_iff_le, Nat.reducePow, Nat.reduceMul, Nat.reduceLT, Int.cast_ofNat_Int, false_and, and_false, Bool.and_true, Bool.true_and, Bool.and_false, Bool.false_and, Bool.or_true, Bool.true_or, Bool.or_false, Bool.false_or, ↓vD_0, ↓vO_0, ↓rD_0, ↓rO_0, ↓kD_0, ↓kO_0, ↓vD_1, ↓vO_1, ↓rD_1, ↓rO_1, ↓kD_1, ↓kO_1, ↓vD_2, ↓vO_2, ↓rD_2, ↓rO_2, ↓kD_2, ↓kO_2, ↓vD_3, ↓vO_3, ↓rD_3, ↓rO_3, ↓kD_3, ↓kO_3, ↓vD_4, ↓vO_4, ↓rD_4, ↓rO_4, ↓kD_4, ↓kO_4, ↓vD_5, ↓vO_5, ↓rD_5, ↓rO_5, ↓kD_5, ↓kO_5, ↓vD_6, ↓vO_6, ↓rD_6, ↓rO_6, ↓kD_6, ↓kO_6, ↓vD_7, ↓vO_7, ↓rD_7, ↓rO_7, ↓kD_7, ↓kO_7, ↓vD_8, ↓vO_8, ↓rD_8, ↓rO_8, ↓kD_8, ↓kO_8, ↓vD_9, ↓vO_9, ↓rD_9, ↓rO_9, ↓kD_9, ↓kO_9, ↓vD_10, ↓vO_10, ↓rD_10, ↓rO_10, ↓kD_10, ↓kO_10, ↓vD_11, ↓vO_11, ↓rD_11, ↓rO_11, ↓kD_11, ↓kO_11, ↓vD_12, ↓vO_12, ↓rD_12, ↓rO_12, ↓kD_12, ↓kO_12, ↓vD_13, ↓vO_13, ↓rD_13, ↓rO_13, ↓kD_13, ↓kO_13, ↓vD_14, ↓vO_14, ↓rD_14, ↓rO_14, ↓kD_14, ↓kO_14, ↓vD_15, ↓vO_15, ↓rD_15, ↓rO_15, ↓kD_15, ↓kO_15]
      exact ⟨⟨_, rfl, by omega, by omega⟩, _, _, _, rfl⟩
    rintro _ _ ⟨is, rfl, il, ib, a, b, c, rfl⟩
    have il2 : is.length = (1 + d2).toNat := by rw [il]; simp [rangeV]
    simp (disch := first | omega | rfl) only [↓ok_d1, ↓ok_d2, ↓ok_d3, ↓ok_d4, ↓ok_d5, ↓ok_d6, ↓ok_d7, ↓ok_bind, ↓ok_ret, ↓ok_bad, ↓ok_mV, ↓ok_rdD, ↓ok_rdT, ↓ok_dtD, ↓ok_dtT, ↓ok_rds0, ↓ok_rdsC, ↓ok_dts0, ↓ok_dtsC, ↓ok_nil, ↓ok_cons, ↓ok_bin, ↓ok_cb, ↓ok_tup, ↓ok_lst, ↓ok_tru, ↓ok_truB, ↓ok_truI, ↓ok_truN, ↓ok_truL, ↓ok_truT, ↓ok_and, ↓ok_or, ↓ok_not, ↓ok_ifE, ↓ok_andV, ↓ok_orV, ↓ok_notV, ↓ok_neg, ↓ok_chain, ↓ok_seq, ↓ok_skip, ↓ok_retS, ↓ok_retN, ↓ok_bk, ↓ok_ct, ↓ok_ex1, ↓ok_if, ↓ok_set, ↓ok_setP, ↓ok_asg, ↓ok_gN, ↓ok_gsN, ↓ok_gsC, ↓ok_gT, ↓ok_gSb, ↓ok_par, ↓ok_put, ↓ok_get, ↓ok_run, ↓ok_call, ↓ok_callK, ↓ok_make, ↓ok_prop, ↓ok_for, ↓ok_items, ↓ok_rng1, ↓ok_rng2, ↓ok_comp, ↓ok_yes, ↓ok_compS0, ↓ok_compSC, wipeE, ↓ok_sl, ↓ok_noP, ↓ok_pt, ↓ok_slL, ↓ok_slT, ↓ok_rep, ↓ok_app, ↓ok_oSub, ↓ok_oMul, ↓ok_oDiv, ↓ok_oMod, ↓ok_oPow, ↓ok_oLt, ↓ok_oLe, ↓ok_oGt, ↓ok_oGe, ↓ok_oAdd, ↓ok_oAddL, ↓ok_oAddI, ↓ok_oEqI, ↓ok_oEqL, ↓ok_oEqT, ↓ok_oEqB, ↓ok_oEqN, ↓ok_oEqS, ↓ok_oNeI, ↓ok_oNeL, ↓ok_oNeT, ↓ok_oNeB, ↓ok_oNeN, ↓ok_oNeS, ↓ok_oIs, ↓ok_oIsN, ↓ix_0, ↓ix_1, ↓ix_2, ↓ix_3, ↓ix_4, ↓it_0, ↓it_1, ↓it_2, ↓it_3, ixn_0, ixn_1, ixn_2, ↓ok_len, ↓ok_lenT, ↓ok_absI, ↓ok_intI, ↓ok_max2, ↓ok_min2, ↓ok_max3, ↓ok_min3, ↓ok_dm, ↓ok_repr, argsE, backE, outE, Pu.M.dt, List.getElem?_cons_zero, List.getElem?_cons_succ, List.set_cons_zero, List.set_cons_succ, List.take_succ_cons, List.take_zero, List.replicate_zero, List.replicate_succ, List.append_nil, List.nil_append, List.cons_append, List.length_cons, List.length_nil, Nat.sub_self, Nat.reduceSub, Nat.reduceAdd, Nat.reduceLeDiff, decide_true, decide_false, reduceCtorEq, noBor, setsE, slotOf, setsS, putFs, putVs, lookV, sel, isNon, Bool.not_true, Bool.not_false, Bool.not_eq_true, decide_eq_true_eq, decide_eq_false_iff_not, Bool.true_eq_false, Bool.false_eq_true, false_implies, true_implies, and_true, true_and, not_true_eq_false, not_false_eq_true, and_self, implies_true, or_false, false_or, List.flatten_cons, List.flatten_nil, true_or, or_true, Int.sub_zero, eq_self, veq_int, veq_str, cMod, cDiv, cPow, cMul_r, cMul_l, strq, String.reduceEq, sz, szl, dOk_int, dOk_bl, dOk_non, if_true, if_false, Int.reducePow, Int.reduceToNat, Int.reduceMul, Int.reduceAdd, Int.reduceSub, Int.reduceNeg, Int.reduceLT, Int.reduceLE, Int.reduceGT, Int.reduceEq, gt_iff_lt, ge_iff_le, Nat.reducePow, Nat.reduceMul, Nat.reduceLT, Int.cast_ofNat_Int, false_and, and_false, Bool.and_true, Bool.true_and, Bool.and_false, Bool.false_and, Bool.or_true, Bool.true_or, Bool.or_false, Bool.false_or, ↓vD_0, ↓vO_0, ↓rD_0, ↓rO_0, ↓kD_0, ↓kO_0, ↓vD_1, ↓vO_1, ↓rD_1, ↓rO_1, ↓kD_1, ↓kO_1, ↓vD_2, ↓vO_2, ↓rD_2, ↓rO_2, ↓kD_2, ↓kO_2, ↓vD_3, ↓vO_3, ↓rD_3, ↓rO_3, ↓kD_3, ↓kO_3, ↓vD_4, ↓vO_4, ↓rD_4, ↓rO_4, ↓kD_4, ↓kO_4, ↓vD_5, ↓vO_5, ↓rD_5, ↓rO_5, ↓kD_5, ↓kO_5, ↓vD_6, ↓vO_6, ↓rD_6, ↓rO_6, ↓kD_6, ↓kO_6, ↓vD_7, ↓vO_7, ↓rD_7, ↓rO_7, ↓kD_7, ↓kO_7, ↓vD_8, ↓vO_8, ↓rD_8, ↓rO_8, ↓kD_8, ↓kO_8, ↓vD_9, ↓vO_9, ↓rD_9, ↓rO_9, ↓kD_9, ↓kO_9, ↓vD_10, ↓vO_10, ↓rD_10, ↓rO_10, ↓kD_10, ↓kO_10, ↓vD_11, ↓vO_11, ↓rD_11, ↓rO_11, ↓kD_11, ↓kO_11, ↓vD_12, ↓vO_12, ↓rD_12, ↓rO_12, ↓kD_12, ↓kO_12, ↓vD_13, ↓vO_13, ↓rD_13, ↓rO_13, ↓kD_13, ↓kO_13, ↓vD_14, ↓vO_14, ↓rD_14, ↓rO_14, ↓kD_14, ↓kO_14, ↓vD_15, ↓vO_15, ↓rD_15, ↓rO_15, ↓kD_15, ↓kO_15, ↓ints_is, ↓ok_tupL]
    refine ⟨by omega, ?_⟩
    have isne : is ≠ [] := fun q => by rw [q] at il2; simp at il2; omega
    have sl := sortU_len (l := is)
    have sne := sortU_ne isne
    have sm := fun k => sortU_mem (k := k) (l := is)
    have T : Times day (sortU is) := ⟨y1, y2, by omega, sortU_ris, fun x hx => (ib x ((sm x).mp hx)).1, fun x hx => (ib x ((sm x).mp hx)).2⟩
    obtain ⟨t0, h0⟩ : ∃ t0, (sortU is).head? = some t0 := by
      cases q : sortU is with
      | nil => exact absurd q sne
      | cons x r => exact ⟨x, rfl⟩
    obtain ⟨tr, htr⟩ : ∃ tr, sortU is = t0 :: tr := by
      cases q : sortU is with
      | nil => exact absurd q sne
      | cons x r => rw [q] at h0; cases h0; exact ⟨r, rfl⟩
    have t0b := ib t0 ((sm t0).mp (List.mem_of_mem_head? h0))
    generalize sortU is = ts at T h0 htr sl sne
    have tix : atI (ts.map Val.int) 0 = some (.int t0) := by rw [htr]; exact atI_lit 0 rfl
    simp (disch := first | omega | rfl) only [↓ok_d1, ↓ok_d2, ↓ok_d3, ↓ok_d4, ↓ok_d5, ↓ok_d6, ↓ok_d7, ↓ok_bind, ↓ok_ret, ↓ok_bad, ↓ok_mV, ↓ok_rdD, ↓ok_rdT, ↓ok_dtD, ↓ok_dtT, ↓ok_rds0, ↓ok_rdsC, ↓ok_dts0, ↓ok_dtsC, ↓ok_nil, ↓ok_cons, ↓ok_bin, ↓ok_cb, ↓ok_tup, ↓ok_lst, ↓ok_tru, ↓ok_truB, ↓ok_truI, ↓ok_truN, ↓ok_truL, ↓ok_truT, ↓ok_and, ↓ok_or, ↓ok_not, ↓ok_ifE, ↓ok_andV, ↓ok_orV, ↓ok_notV, ↓ok_neg, ↓ok_chain, ↓ok_seq, ↓ok_skip, ↓ok_retS, ↓ok_retN, ↓ok_bk, ↓ok_ct, ↓ok_ex1, ↓ok_if, ↓ok_set, ↓ok_setP, ↓ok_asg, ↓ok_gN, ↓ok_gsN, ↓ok_gsC, ↓ok_gT, ↓ok_gSb, ↓ok_par, ↓ok_put, ↓ok_get, ↓ok_run, ↓ok_call, ↓ok_callK, ↓ok_make, ↓ok_prop, ↓ok_for, ↓ok_items, ↓ok_rng1, ↓ok_rng2, ↓ok_comp, ↓ok_yes, ↓ok_compS0, ↓ok_compSC, wipeE, ↓ok_sl, ↓ok_noP, ↓ok_pt, ↓ok_slL, ↓ok_slT, ↓ok_rep, ↓ok_app, ↓ok_oSub, ↓ok_oMul, ↓ok_oDiv, ↓ok_oMod, ↓ok_oPow, ↓ok_oLt, ↓ok_oLe, ↓ok_oGt, ↓ok_oGe, ↓ok_oAdd, ↓ok_oAddL, ↓ok_oAddI, ↓ok_oEqI, ↓ok_oEqL, ↓ok_oEqT, ↓ok_oEqB, ↓ok_oEqN, ↓ok_oEqS, ↓ok_oNeI, ↓ok_oNeL, ↓ok_oNeT, ↓ok_oNeB, ↓ok_oNeN, ↓ok_oNeS, ↓ok_oIs, ↓ok_oIsN, ↓ix_0, ↓ix_1, ↓ix_2, ↓ix_3, ↓ix_4, ↓it_0, ↓it_1, ↓it_2, ↓it_3, ixn_0, ixn_1, ixn_2, ↓ok_len, ↓ok_lenT, ↓ok_absI, ↓ok_intI, ↓ok_max2, ↓ok_min2, ↓ok_max3, ↓ok_min3, ↓ok_dm, ↓ok_repr, argsE, backE, outE, Pu.M.dt, List.getElem?_cons_zero, List.getElem?_cons_succ, List.set_cons_zero, List.set_cons_succ, List.take_succ_cons, List.take_zero, List.replicate_zero, List.replicate_succ, List.append_nil, List.nil_append, List.cons_append, List.length_cons, List.length_nil, Nat.sub_self, Nat.reduceSub, Nat.reduceAdd, Nat.reduceLeDiff, decide_true, decide_false, reduceCtorEq, noBor, setsE, slotOf, setsS, putFs, putVs, lookV, sel, isNon, Bool.not_true, Bool.not_false, Bool.not_eq_true, decide_eq_true_eq, decide_eq_false_iff_not, Bool.true_eq_false, Bool.false_eq_true, false_implies, true_implies, and_true, true_and, not_true_eq_false, not_false_eq_true, and_self, implies_true, or_false, false_or, List.flatten_cons, List.flatten_nil, true_or, or_true, Int.sub_zero, eq_self, veq_int, veq_str, cMod, cDiv, cPow, cMul_r, cMul_l, strq, String.reduceEq, sz, szl, dOk_int, dOk_bl, dOk_non, if_true, if_false, Int.reducePow, Int.reduceToNat, Int.reduceMul, Int.reduceAdd, Int.reduceSub, Int.reduceNeg, Int.reduceLT, Int.reduceLE, Int.reduceGT, Int.reduceEq, gt_iff_lt, ge_iff_le, Nat.reducePow, Nat.reduceMul, Nat.reduceLT, Int.cast_ofNat_Int, false_and, and_false, Bool.and_true, Bool.true_and, Bool.and_false, Bool.false_and, Bool.or_true, Bool.true_or, Bool.or_false, Bool.false_or, ↓vD_0, ↓vO_0, ↓rD_0, ↓rO_0, ↓kD_0, ↓kO_0, ↓vD_1, ↓vO_1, ↓rD_1, ↓rO_1, ↓kD_1, ↓kO_1, ↓vD_2, ↓vO_2, ↓rD_2, ↓rO_2, ↓kD_2, ↓kO_2, ↓vD_3, ↓vO_3, ↓rD_3, ↓rO_3, ↓kD_3, ↓kO_3, ↓vD_4, ↓vO_4, ↓rD_4, ↓rO_4, ↓kD_4, ↓kO_4, ↓vD_5, ↓vO_5, ↓rD_5, ↓rO_5, ↓kD_5, ↓kO_5, ↓vD_6, ↓vO_6, ↓rD_6, ↓rO_6, ↓kD_6, ↓kO_6, ↓vD_7, ↓vO_7, ↓rD_7, ↓rO_7, ↓kD_7, ↓kO_7, ↓vD_8, ↓vO_8, ↓rD_8, ↓rO_8, ↓kD_8, ↓kO_8, ↓vD_9, ↓vO_9, ↓rD_9, ↓rO_9, ↓kD_9, ↓kO_9, ↓vD_10, ↓vO_10, ↓rD_10, ↓rO_10, ↓kD_10, ↓kO_10, ↓vD_11, ↓vO_11, ↓rD_11, ↓rO_11, ↓kD_11, ↓kO_11, ↓vD_12, ↓vO_12, ↓rD_12, ↓rO_12, ↓kD_12, ↓kO_12, ↓vD_13, ↓vO_13, ↓rD_13, ↓rO_13, ↓kD_13, ↓kO_13, ↓vD_14, ↓vO_14, ↓rD_14, ↓rO_14, ↓kD_14, ↓kO_14, ↓vD_15, ↓vO_15, ↓rD_15, ↓rO_15, ↓kD_15, ↓kO_15, ↓r_made g1 (by omega) f1 (by omega) p1 (by omega) ht, ↓r_rounds_init T sne]
    refine Ok.mono (r_sip (by omega) (by omega)) ?_
    rintro _ _ ⟨e1, a, b, c, rfl, rfl, e11, e12⟩
    simp (disch := first | omega | rfl) only [↓ok_d1, ↓ok_d2, ↓ok_d3, ↓ok_d4, ↓ok_d5, ↓ok_d6, ↓ok_d7, ↓ok_bind, ↓ok_ret, ↓ok_bad, ↓ok_mV, ↓ok_rdD, ↓ok_rdT, ↓ok_dtD, ↓ok_dtT, ↓ok_rds0, ↓ok_rdsC, ↓ok_dts0, ↓ok_dtsC, ↓ok_nil, ↓ok_cons, ↓ok_bin, ↓ok_cb, ↓ok_tup, ↓ok_lst, ↓ok_tru, ↓ok_truB, ↓ok_truI, ↓ok_truN, ↓ok_truL, ↓ok_truT, ↓ok_and, ↓ok_or, ↓ok_not, ↓ok_ifE, ↓ok_andV, ↓ok_orV, ↓ok_notV, ↓ok_neg, ↓ok_chain, ↓ok_seq, ↓ok_skip, ↓ok_retS, ↓ok_retN, ↓ok_bk, ↓ok_ct, ↓ok_ex1, ↓ok_if, ↓ok_set, ↓ok_setP, ↓ok_asg, ↓ok_gN, ↓ok_gsN, ↓ok_gsC, ↓ok_gT, ↓ok_gSb, ↓ok_par, ↓ok_put, ↓ok_get, ↓ok_run, ↓ok_call, ↓ok_callK, ↓ok_make, ↓ok_prop, ↓ok_for, ↓ok_items, ↓ok_rng1, ↓ok_rng2, ↓ok_comp, ↓ok_yes, ↓ok_compS0, ↓ok_compSC, wipeE, ↓ok_sl, ↓ok_noP, ↓ok_pt, ↓ok_slL, ↓ok_slT, ↓ok_rep, ↓ok_app, ↓ok_oSub, ↓ok_oMul, ↓ok_oDiv, ↓ok_oMod, ↓ok_oPow, ↓ok_oLt, ↓ok_oLe, ↓ok_oGt, ↓ok_oGe, ↓ok_oAdd, ↓ok_oAddL, ↓ok_oAddI, ↓ok_oEqI, ↓ok_oEqL, ↓ok_oEqT, ↓ok_oEqB, ↓ok_oEqN, ↓ok_oEqS, ↓ok_oNeI, ↓ok_oNeL, ↓ok_oNeT, ↓ok_oNeB, ↓ok_oNeN, ↓ok_oNeS, ↓ok_oIs, ↓ok_oIsN, ↓ix_0, ↓ix_1, ↓ix_2, ↓ix_3, ↓ix_4, ↓it_0, ↓it_1, ↓it_2, ↓it_3, ixn_0, ixn_1, ixn_2, ↓ok_len, ↓ok_lenT, ↓ok_absI, ↓ok_intI, ↓ok_max2, ↓ok_min2, ↓ok_max3, ↓ok_min3, ↓ok_dm, ↓ok_repr, argsE, backE, outE, Pu.M.dt, List.getElem?_cons_zero, List.getElem?_cons_succ, List.set_cons_zero, List.set_cons_succ, List.take_succ_cons, List.take_zero, List.replicate_zero, List.replicate_succ, List.append_nil, List.nil_append, List.cons_append, List.length_cons, List.length_nil, Nat.sub_self, Nat.reduceSub, Nat.reduceAdd, Nat.reduceLeDiff, decide_true, decide_false, reduceCtorEq, noBor, setsE, slotOf, setsS, putFs, putVs, lookV, sel, isNon, Bool.not_true, Bool.not_false, Bool.not_eq_true, decide_eq_true_eq, decide_eq_false_iff_not, Bool.true_eq_false, Bool.false_eq_true, false_implies, true_implies, and_true, true_and, not_true_eq_false, not_false_eq_true, and_self, implies_true, or_false, false_or, List.flatten_cons, List.flatten_nil, true_or, or_true, Int.sub_zero, eq_self, veq_int, veq_str, cMod, cDiv, cPow, cMul_r, cMul_l, strq, String.reduceEq, sz, szl, dOk_int, dOk_bl, dOk_non, if_true, if_false, Int.reducePow, Int.reduceToNat, Int.reduceMul, Int.reduceAdd, Int.reduceSub, Int.reduceNeg, Int.reduceLT, Int.reduceLE, Int.reduceGT, Int.reduceEq, gt_iff_lt, ge_iff_le, Nat.reducePow, Nat.reduceMul, Nat.reduceLT, Int.cast_ofNat_Int, false_and, and_false, Bool.and_true, Bool.true_and, Bool.and_false, Bool.false_and, Bool.or_true, Bool.true_or, Bool.or_false, Bool.false_or, ↓vD_0, ↓vO_0, ↓rD_0, ↓rO_0, ↓kD_0, ↓kO_0, ↓vD_1, ↓vO_1, ↓rD_1, ↓rO_1, ↓kD_1, ↓kO_1, ↓vD_2, ↓vO_2, ↓rD_2, ↓rO_2, ↓kD_2, ↓kO_2, ↓vD_3, ↓vO_3, ↓rD_3, ↓rO_3, ↓kD_3, ↓kO_3, ↓vD_4, ↓vO_4, ↓rD_4, ↓rO_4, ↓kD_4, ↓kO_4, ↓vD_5, ↓vO_5, ↓rD_5, ↓rO_5, ↓kD_5, ↓kO_5, ↓vD_6, ↓vO_6, ↓rD_6, ↓rO_6, ↓kD_6, ↓kO_6, ↓vD_7, ↓vO_7, ↓rD_7, ↓rO_7, ↓kD_7, ↓kO_7, ↓vD_8, ↓vO_8, ↓rD_8, ↓rO_8, ↓kD_8, ↓kO_8, ↓vD_9, ↓vO_9, ↓rD_9, ↓rO_9, ↓kD_9, ↓kO_9, ↓vD_10, ↓vO_10, ↓rD_10, ↓rO_10, ↓kD_10, ↓kO_10, ↓vD_11, ↓vO_11, ↓rD_11, ↓rO_11, ↓kD_11, ↓kO_11, ↓vD_12, ↓vO_12, ↓rD_12, ↓rO_12, ↓kD_12, ↓kO_12, ↓vD_13, ↓vO_13, ↓rD_13, ↓rO_13, ↓kD_13, ↓kO_13, ↓vD_14, ↓vO_14, ↓rD_14, ↓rO_14, ↓kD_14, ↓kO_14, ↓vD_15, ↓vO_15, ↓rD_15, ↓rO_15, ↓kD_15, ↓kO_15]
    refine Ok.mono (r_far (by omega) (by omega)) ?_
    rintro _ _ ⟨e2, a, b, c, rfl, rfl, e21, e22⟩
    simp (disch := first | omega | rfl) only [↓ok_d1, ↓ok_d2, ↓ok_d3, ↓ok_d4, ↓ok_d5, ↓ok_d6, ↓ok_d7, ↓ok_bind, ↓ok_ret, ↓ok_bad, ↓ok_mV, ↓ok_rdD, ↓ok_rdT, ↓ok_dtD, ↓ok_dtT, ↓ok_rds0, ↓ok_rdsC, ↓ok_dts0, ↓ok_dtsC, ↓ok_nil, ↓ok_cons, ↓ok_bin, ↓ok_cb, ↓ok_tup, ↓ok_lst, ↓ok_tru, ↓ok_truB, ↓ok_truI, ↓ok_truN, ↓ok_truL, ↓ok_truT, ↓ok_and, ↓ok_or, ↓ok_not, ↓ok_ifE, ↓ok_andV, ↓ok_orV, ↓ok_notV, ↓ok_neg, ↓ok_chain, ↓ok_seq, ↓ok_skip, ↓ok_retS, ↓ok_retN, ↓ok_bk, ↓ok_ct, ↓ok_ex1, ↓ok_if, ↓ok_set, ↓ok_setP, ↓ok_asg, ↓ok_gN, ↓ok_gsN, ↓ok_gsC, ↓ok_gT, ↓ok_gSb, ↓ok_par, ↓ok_put, ↓ok_get, ↓ok_run, ↓ok_call, ↓ok_callK, ↓ok_make, ↓ok_prop, ↓ok_for, ↓ok_items, ↓ok_rng1, ↓ok_rng2, ↓ok_comp, ↓ok_yes, ↓ok_compS0, ↓ok_compSC, wipeE, ↓ok_sl, ↓ok_noP, ↓ok_pt, ↓ok_slL, ↓ok_slT, ↓ok_rep, ↓ok_app, ↓ok_oSub, ↓ok_oMul, ↓ok_oDiv, ↓ok_oMod, ↓ok_oPow, ↓ok_oLt, ↓ok_oLe, ↓ok_oGt, ↓ok_oGe, ↓ok_oAdd, ↓ok_oAddL, ↓ok_oAddI, ↓ok_oEqI, ↓ok_oEqL, ↓ok_oEqT, ↓ok_oEqB, ↓ok_oEqN, ↓ok_oEqS, ↓ok_oNeI, ↓ok_oNeL, ↓ok_oNeT, ↓ok_oNeB, ↓ok_oNeN, ↓ok_oNeS, ↓ok_oIs, ↓ok_oIsN, ↓ix_0, ↓ix_1, ↓ix_2, ↓ix_3, ↓ix_4, ↓it_0, ↓it_1, ↓it_2, ↓it_3, ixn_0, ixn_1, ixn_2, ↓ok_len, ↓ok_lenT, ↓ok_absI, ↓ok_intI, ↓ok_max2, ↓ok_min2, ↓ok_max3, ↓ok_min3, ↓ok_dm, ↓ok_repr, argsE, backE, outE, Pu.M.dt, List.getElem?_cons_zero, List.getElem?_cons_succ, List.set_cons_zero, List.set_cons_succ, List.take_succ_cons, List.take_zero, List.replicate_zero, List.replicate_succ, List.append_nil, List.nil_append, List.cons_append, List.length_cons, List.length_nil, Nat.sub_self, Nat.reduceSub, Nat.reduceAdd, Nat.reduceLeDiff, decide_true, decide_false, reduceCtorEq, noBor, setsE, slotOf, setsS, putFs, putVs, lookV, sel, isNon, Bool.not_true, Bool.not_false, Bool.not_eq_true, decide_eq_true_eq, decide_eq_false_iff_not, Bool.true_eq_false, Bool.false_eq_true, false_implies, true_implies, and_true, true_and, not_true_eq_false, not_false_eq_true, and_self, implies_true, or_false, false_or, List.flatten_cons, List.flatten_nil, true_or, or_true, Int.sub_zero, eq_self, veq_int, veq_str, cMod, cDiv, cPow, cMul_r, cMul_l, strq, String.reduceEq, sz, szl, dOk_int, dOk_bl, dOk_non, if_true, if_false, Int.reducePow, Int.reduceToNat, Int.reduceMul, Int.reduceAdd, Int.reduceSub, Int.reduceNeg, Int.reduceLT, Int.reduceLE, Int.reduceGT, Int.reduceEq, gt_iff_lt, ge_iff_le, Nat.reducePow, Nat.reduceMul, Nat.reduceLT, Int.cast_ofNat_Int, false_and, and_false, Bool.and_true, Bool.true_and, Bool.and_false, Bool.false_and, Bool.or_true, Bool.true_or, Bool.or_false, Bool.false_or, ↓vD_0, ↓vO_0, ↓rD_0, ↓rO_0, ↓kD_0, ↓kO_0, ↓vD_1, ↓vO_1, ↓rD_1, ↓rO_1, ↓kD_1, ↓kO_1, ↓vD_2, ↓vO_2, ↓rD_2, ↓rO_2, ↓kD_2, ↓kO_2, ↓vD_3, ↓vO_3, ↓rD_3, ↓rO_3, ↓kD_3, ↓kO_3, ↓vD_4, ↓vO_4, ↓rD_4, ↓rO_4, ↓kD_4, ↓kO_4, ↓vD_5, ↓vO_5, ↓rD_5, ↓rO_5, ↓kD_5, ↓kO_5, ↓vD_6, ↓vO_6, ↓rD_6, ↓rO_6, ↓kD_6, ↓kO_6, ↓vD_7, ↓vO_7, ↓rD_7, ↓rO_7, ↓kD_7, ↓kO_7, ↓vD_8, ↓vO_8, ↓rD_8, ↓rO_8, ↓kD_8, ↓kO_8, ↓vD_9, ↓vO_9, ↓rD_9, ↓rO_9, ↓kD_9, ↓kO_9, ↓vD_10, ↓vO_10, ↓rD_10, ↓rO_10, ↓kD_10, ↓kO_10, ↓vD_11, ↓vO_11, ↓rD_11, ↓rO_11, ↓kD_11, ↓kO_11, ↓vD_12, ↓vO_12, ↓rD_12, ↓rO_12, ↓kD_12, ↓kO_12, ↓vD_13, ↓vO_13, ↓rD_13, ↓rO_13, ↓kD_13, ↓kO_13, ↓vD_14, ↓vO_14, ↓rD_14, ↓rO_14, ↓kD_14, ↓kO_14, ↓vD_15, ↓vO_15, ↓rD_15, ↓rO_15, ↓kD_15, ↓kO_15]
    refine Ok.mono (r_sip (by omega) (by omega)) ?_
    rintro _ _ ⟨e3, a, b, c, rfl, rfl, e31, e32⟩
    simp (disch := first | omega | rfl) only [↓ok_d1, ↓ok_d2, ↓ok_d3, ↓ok_d4, ↓ok_d5, ↓ok_d6, ↓ok_d7, ↓ok_bind, ↓ok_ret, ↓ok_bad, ↓ok_mV, ↓ok_rdD, ↓ok_rdT, ↓ok_dtD, ↓ok_dtT, ↓ok_rds0, ↓ok_rdsC, ↓ok_dts0, ↓ok_dtsC, ↓ok_nil, ↓ok_cons, ↓ok_bin, ↓ok_cb, ↓ok_tup, ↓ok_lst, ↓ok_tru, ↓ok_truB, ↓ok_truI, ↓ok_truN, ↓ok_truL, ↓ok_truT, ↓ok_and, ↓ok_or, ↓ok_not, ↓ok_ifE, ↓ok_andV, ↓ok_orV, ↓ok_notV, ↓ok_neg, ↓ok_chain, ↓ok_seq, ↓ok_skip, ↓ok_retS, ↓ok_retN, ↓ok_bk, ↓ok_ct, ↓ok_ex1, ↓ok_if, ↓ok_set, ↓ok_setP, ↓ok_asg, ↓ok_gN, ↓ok_gsN, ↓ok_gsC, ↓ok_gT, ↓ok_gSb, ↓ok_par, ↓ok_put, ↓ok_get, ↓ok_run, ↓ok_call, ↓ok_callK, ↓ok_make, ↓ok_prop, ↓ok_for, ↓ok_items, ↓ok_rng1, ↓ok_rng2, ↓ok_comp, ↓ok_yes, ↓ok_compS0, ↓ok_compSC, wipeE, ↓ok_sl, ↓ok_noP, ↓ok_pt, ↓ok_slL, ↓ok_slT, ↓ok_rep, ↓ok_app, ↓ok_oSub, ↓ok_oMul, ↓ok_oDiv, ↓ok_oMod, ↓ok_oPow, ↓ok_oLt, ↓ok_oLe, ↓ok_oGt, ↓ok_oGe, ↓ok_oAdd, ↓ok_oAddL, ↓ok_oAddI, ↓ok_oEqI, ↓ok_oEqL, ↓ok_oEqT, ↓ok_oEqB, ↓ok_oEqN, ↓ok_oEqS, ↓ok_oNeI, ↓ok_oNeL, ↓ok_oNeT, ↓ok_oNeB, ↓ok_oNeN, ↓ok_oNeS, ↓ok_oIs, ↓ok_oIsN, ↓ix_0, ↓ix_1, ↓ix_2, ↓ix_3, ↓ix_4, ↓it_0, ↓it_1, ↓it_2, ↓it_3, ixn_0, ixn_1, ixn_2, ↓ok_len, ↓ok_lenT, ↓ok_absI, ↓ok_intI, ↓ok_max2, ↓ok_min2, ↓ok_max3, ↓ok_min3, ↓ok_dm, ↓ok_repr, argsE, backE, outE, Pu.M.dt, List.getElem?_cons_zero, List.getElem?_cons_succ, List.set_cons_zero, List.set_cons_succ, List.take_succ_cons, List.take_zero, List.replicate_zero, List.replicate_succ, List.append_nil, List.nil_append, List.cons_append, List.length_cons, List.length_nil, Nat.sub_self, Nat.reduceSub, Nat.reduceAdd, Nat.reduceLeDiff, decide_true, decide_false, reduceCtorEq, noBor, setsE, slotOf, setsS, putFs, putVs, lookV, sel, isNon, Bool.not_true, Bool.not_false, Bool.not_eq_true, decide_eq_true_eq, decide_eq_false_iff_not, Bool.true_eq_false, Bool.false_eq_true, false_implies, true_implies, and_true, true_and, not_true_eq_false, not_false_eq_true, and_self, implies_true, or_false, false_or, List.flatten_cons, List.flatten_nil, true_or, or_true, Int.sub_zero, eq_self, veq_int, veq_str, cMod, cDiv, cPow, cMul_r, cMul_l, strq, String.reduceEq, sz, szl, dOk_int, dOk_bl, dOk_non, if_true, if_false, Int.reducePow, Int.reduceToNat, Int.reduceMul, Int.reduceAdd, Int.reduceSub, Int.reduceNeg, Int.reduceLT, Int.reduceLE, Int.reduceGT, Int.reduceEq, gt_iff_lt, ge_iff_le, Nat.reducePow, Nat.reduceMul, Nat.reduceLT, Int.cast_ofNat_Int, false_and, and_false, Bool.and_true, Bool.true_and, Bool.and_false, Bool.false_and, Bool.or_true, Bool.true_or, Bool.or_false, Bool.false_or, ↓vD_0, ↓vO_0, ↓rD_0, ↓rO_0, ↓kD_0, ↓kO_0, ↓vD_1, ↓vO_1, ↓rD_1, ↓rO_1, ↓kD_1, ↓kO_1, ↓vD_2, ↓vO_2, ↓rD_2, ↓rO_2, ↓kD_2, ↓kO_2, ↓vD_3, ↓vO_3, ↓rD_3, ↓rO_3, ↓kD_3, ↓kO_3, ↓vD_4, ↓vO_4, ↓rD_4, ↓rO_4, ↓kD_4, ↓kO_4, ↓vD_5, ↓vO_5, ↓rD_5, ↓rO_5, ↓kD_5, ↓kO_5, ↓vD_6, ↓vO_6, ↓rD_6, ↓rO_6, ↓kD_6, ↓kO_6, ↓vD_7, ↓vO_7, ↓rD_7, ↓rO_7, ↓kD_7, ↓kO_7, ↓vD_8, ↓vO_8, ↓rD_8, ↓rO_8, ↓kD_8, ↓kO_8, ↓vD_9, ↓vO_9, ↓rD_9, ↓rO_9, ↓kD_9, ↓kO_9, ↓vD_10, ↓vO_10, ↓rD_10, ↓rO_10, ↓kD_10, ↓kO_10, ↓vD_11, ↓vO_11, ↓rD_11, ↓rO_11, ↓kD_11, ↓kO_11, ↓vD_12, ↓vO_12, ↓rD_12, ↓rO_12, ↓kD_12, ↓kO_12, ↓vD_13, ↓vO_13, ↓rD_13, ↓rO_13, ↓kD_13, ↓kO_13, ↓vD_14, ↓vO_14, ↓rD_14, ↓rO_14, ↓kD_14, ↓kO_14, ↓vD_15, ↓vO_15, ↓rD_15, ↓rO_15, ↓kD_15, ↓kO_15]
    refine Ok.mono (r_sip (by omega) (by omega)) ?_
    rintro _ _ ⟨e4, a, b, c, rfl, rfl, e41, e42⟩
    simp (disch := first | omega | rfl) only [↓ok_d1, ↓ok_d2, ↓ok_d3, ↓ok_d4, ↓ok_d5, ↓ok_d6, ↓ok_d7, ↓ok_bind, ↓ok_ret, ↓ok_bad, ↓ok_mV, ↓ok_rdD, ↓ok_rdT, ↓ok_dtD, ↓ok_dtT, ↓ok_rds0, ↓ok_rdsC, ↓ok_dts0, ↓ok_dtsC, ↓ok_nil, ↓ok_cons, ↓ok_bin, ↓ok_cb, ↓ok_tup, ↓ok_lst, ↓ok_tru, ↓ok_truB, ↓ok_truI, ↓ok_truN, ↓ok_truL, ↓ok_truT, ↓ok_and, ↓ok_or, ↓ok_not, ↓ok_ifE, ↓ok_andV, ↓ok_orV, ↓ok_notV, ↓ok_neg, ↓ok_chain, ↓ok_seq, ↓ok_skip, ↓ok_retS, ↓ok_retN, ↓ok_bk, ↓ok_ct, ↓ok_ex1, ↓ok_if, ↓ok_set, ↓ok_setP, ↓ok_asg, ↓ok_gN, ↓ok_gsN, ↓ok_gsC, ↓ok_gT, ↓ok_gSb, ↓ok_par, ↓ok_put, ↓ok_get, ↓ok_run, ↓ok_call, ↓ok_callK, ↓ok_make, ↓ok_prop, ↓ok_for, ↓ok_items, ↓ok_rng1, ↓ok_rng2, ↓ok_comp, ↓ok_yes, ↓ok_compS0, ↓ok_compSC, wipeE, ↓ok_sl, ↓ok_noP, ↓ok_pt, ↓ok_slL, ↓ok_slT, ↓ok_rep, ↓ok_app, ↓ok_oSub, ↓ok_oMul, ↓ok_oDiv, ↓ok_oMod, ↓ok_oPow, ↓ok_oLt, ↓ok_oLe, ↓ok_oGt, ↓ok_oGe, ↓ok_oAdd, ↓ok_oAddL, ↓ok_oAddI, ↓ok_oEqI, ↓ok_oEqL, ↓ok_oEqT, ↓ok_oEqB, ↓ok_oEqN, ↓ok_oEqS, ↓ok_oNeI, ↓ok_oNeL, ↓ok_oNeT, ↓ok_oNeB, ↓ok_oNeN, ↓ok_oNeS, ↓ok_oIs, ↓ok_oIsN, ↓ix_0, ↓ix_1, ↓ix_2, ↓ix_3, ↓ix_4, ↓it_0, ↓it_1, ↓it_2, ↓it_3, ixn_0, ixn_1, ixn_2, ↓ok_len, ↓ok_lenT, ↓ok_absI, ↓ok_intI, ↓ok_max2, ↓ok_min2, ↓ok_max3, ↓ok_min3, ↓ok_dm, ↓ok_repr, argsE, backE, outE, Pu.M.dt, List.getElem?_cons_zero, List.getElem?_cons_succ, List.set_cons_zero, List.set_cons_succ, List.take_succ_cons, List.take_zero, List.replicate_zero, List.replicate_succ, List.append_nil, List.nil_append, List.cons_append, List.length_cons, List.length_nil, Nat.sub_self, Nat.reduceSub, Nat.reduceAdd, Nat.reduceLeDiff, decide_true, decide_false, reduceCtorEq, noBor, setsE, slotOf, setsS, putFs, putVs, lookV, sel, isNon, Bool.not_true, Bool.not_false, Bool.not_eq_true, decide_eq_true_eq, decide_eq_false_iff_not, Bool.true_eq_false, Bool.false_eq_true, false_implies, true_implies, and_true, true_and, not_true_eq_false, not_false_eq_true, and_self, implies_true, or_false, false_or, List.flatten_cons, List.flatten_nil, true_or, or_true, Int.sub_zero, eq_self, veq_int, veq_str, cMod, cDiv, cPow, cMul_r, cMul_l, strq, String.reduceEq, sz, szl, dOk_int, dOk_bl, dOk_non, if_true, if_false, Int.reducePow, Int.reduceToNat, Int.reduceMul, Int.reduceAdd, Int.reduceSub, Int.reduceNeg, Int.reduceLT, Int.reduceLE, Int.reduceGT, Int.reduceEq, gt_iff_lt, ge_iff_le, Nat.reducePow, Nat.reduceMul, Nat.reduceLT, Int.cast_ofNat_Int, false_and, and_false, Bool.and_true, Bool.true_and, Bool.and_false, Bool.false_and, Bool.or_true, Bool.true_or, Bool.or_false, Bool.false_or, ↓vD_0, ↓vO_0, ↓rD_0, ↓rO_0, ↓kD_0, ↓kO_0, ↓vD_1, ↓vO_1, ↓rD_1, ↓rO_1, ↓kD_1, ↓kO_1, ↓vD_2, ↓vO_2, ↓rD_2, ↓rO_2, ↓kD_2, ↓kO_2, ↓vD_3, ↓vO_3, ↓rD_3, ↓rO_3, ↓kD_3, ↓kO_3, ↓vD_4, ↓vO_4, ↓rD_4, ↓rO_4, ↓kD_4, ↓kO_4, ↓vD_5, ↓vO_5, ↓rD_5, ↓rO_5, ↓kD_5, ↓kO_5, ↓vD_6, ↓vO_6, ↓rD_6, ↓rO_6, ↓kD_6, ↓kO_6, ↓vD_7, ↓vO_7, ↓rD_7, ↓rO_7, ↓kD_7, ↓kO_7, ↓vD_8, ↓vO_8, ↓rD_8, ↓rO_8, ↓kD_8, ↓kO_8, ↓vD_9, ↓vO_9, ↓rD_9, ↓rO_9, ↓kD_9, ↓kO_9, ↓vD_10, ↓vO_10, ↓rD_10, ↓rO_10, ↓kD_10, ↓kO_10, ↓vD_11, ↓vO_11, ↓rD_11, ↓rO_11, ↓kD_11, ↓kO_11, ↓vD_12, ↓vO_12, ↓rD_12, ↓rO_12, ↓kD_12, ↓kO_12, ↓vD_13, ↓vO_13, ↓rD_13, ↓rO_13, ↓kD_13, ↓kO_13, ↓vD_14, ↓vO_14, ↓rD_14, ↓rO_14, ↓kD_14, ↓kO_14, ↓vD_15, ↓vO_15, ↓rD_15, ↓rO_15, ↓kD_15, ↓kO_15, ↓ixT_of tix]
    have q3 : 0 ≤ g * e3 := Int.mul_nonneg (by omega) e31
    have q4 : 0 ≤ day * e4 := Int.mul_nonneg (by omega) e41
    have q5 : g * e3 ≤ g * 59 := Int.mul_le_mul_of_nonneg_left (by omega) (by omega)
    have q6 : day * e4 ≤ day * 8 := Int.mul_le_mul_of_nonneg_left (by omega) (by omega)
    refine Ok.mono (Ok.loopI (fun e => ∃ a b c x5 x6 x7 x8 x9 x10, e = [.own (.lst [.int a, .int b, .int c]), .dat v, .dat (.lst [.int g, .str t, .int f, .int p]), .dat (.int day), .dat (.tup (ts.map .int)), x5, x6, x7, x8, x9, x10, .un] ∧ ((x6 = .own (rV g f p t) ∧ x7 = .own (dV day ts)) ∨ (x6 = .dat (rV g f p t) ∧ x7 = .dat (dV day ts)))) ⟨_, _, _, _, _, _, _, _, _, rfl, .inl ⟨rfl, rfl⟩⟩ ?_) ?_
    · rintro w _ hw ⟨a, b, c, x5, x6, x7, x8, x9, x10, rfl, cs⟩
      obtain ⟨ar, rfl, ar1, ar2⟩ : ∃ k : Int, w = .int k ∧ 0 ≤ k ∧ k ≤ 100000000000000000000000000000 := by
        simp only [List.mem_cons, List.not_mem_nil, or_false] at hw
        rcases hw with rfl | rfl | rfl | rfl <;> exact ⟨_, rfl, by omega, by omega⟩
      have mn := mark_near (a := ar) hg ht
      obtain ⟨fr, hfr⟩ : ∃ fr, markV t g ar + f + 1 = fr := ⟨_, rfl⟩
      obtain ⟨N, hN⟩ : ∃ N, nextOf day ts t0 fr = N := ⟨_, rfl⟩
      have nn := next_near (m := fr) T h0
      rw [hN] at nn
      have hN' : nextOf day ts t0 (markV t g ar + f + 1) = N := by rw [hfr]; exact hN
      have k1 : ar ≤ ar + (N - 1 - ar) := by omega
      have k2 : ar ≤ ar + (N - 1 - ar) + 1 := by omega
      have c1 : cameB day ts fr (ar + (N - 1 - ar)) = false := by
        rw [came_iff T h0, hN]
        exact decide_eq_false (by omega)
      have c2 : cameB day ts fr (ar + (N - 1 - ar) + 1) = true := by
        rw [came_iff T h0, hN]
        exact decide_eq_true (by omega)
      have hd : 0 < day := by omega
      have z1 : ¬ ar + (N - 1 - ar) < fr - 1 := by omega
      have z2 : ¬ N ≤ ar + (N - 1 - ar) := by omega
      have z3 : N ≤ ar + (N - 1 - ar) + 1 := by omega
      rcases cs with ⟨rfl, rfl⟩ | ⟨rfl, rfl⟩
      all_goals
        simp (disch := first | omega | rfl) only [↓ok_d1, ↓ok_d2, ↓ok_d3, ↓ok_d4, ↓ok_d5, ↓ok_d6, ↓ok_d7, ↓ok_bind, ↓ok_ret, ↓ok_bad, ↓ok_mV, ↓ok_rdD, ↓ok_rdT, ↓ok_dtD, ↓ok_dtT, ↓ok_rds0, ↓ok_rdsC, ↓ok_dts0, ↓ok_dtsC, ↓ok_nil, ↓ok_cons, ↓ok_bin, ↓ok_cb, ↓ok_tup, ↓ok_lst, ↓ok_tru, ↓ok_truB, ↓ok_truI, ↓ok_truN, ↓ok_truL, ↓ok_truT, ↓ok_and, ↓ok_or, ↓ok_not, ↓ok_ifE, ↓ok_andV, ↓ok_orV, ↓ok_notV, ↓ok_neg, ↓ok_chain, ↓ok_seq, ↓ok_skip, ↓ok_retS, ↓ok_retN, ↓ok_bk, ↓ok_ct, ↓ok_ex1, ↓ok_if, ↓ok_set, ↓ok_setP, ↓ok_asg, ↓ok_gN, ↓ok_gsN, ↓ok_gsC, ↓ok_gT, ↓ok_gSb, ↓ok_par, ↓ok_put, ↓ok_get, ↓ok_run, ↓ok_call, ↓ok_callK, ↓ok_make, ↓ok_prop, ↓ok_for, ↓ok_items, ↓ok_rng1, ↓ok_rng2, ↓ok_comp, ↓ok_yes, ↓ok_compS0, ↓ok_compSC, wipeE, ↓ok_sl, ↓ok_noP, ↓ok_pt, ↓ok_slL, ↓ok_slT, ↓ok_rep, ↓ok_app, ↓ok_oSub, ↓ok_oMul, ↓ok_oDiv, ↓ok_oMod, ↓ok_oPow, ↓ok_oLt, ↓ok_oLe, ↓ok_oGt, ↓ok_oGe, ↓ok_oAdd, ↓ok_oAddL, ↓ok_oAddI, ↓ok_oEqI, ↓ok_oEqL, ↓ok_oEqT, ↓ok_oEqB, ↓ok_oEqN, ↓ok_oEqS, ↓ok_oNeI, ↓ok_oNeL, ↓ok_oNeT, ↓ok_oNeB, ↓ok_oNeN, ↓ok_oNeS, ↓ok_oIs, ↓ok_oIsN, ↓ix_0, ↓ix_1, ↓ix_2, ↓ix_3, ↓ix_4, ↓it_0, ↓it_1, ↓it_2, ↓it_3, ixn_0, ixn_1, ixn_2, ↓ok_len, ↓ok_lenT, ↓ok_absI, ↓ok_intI, ↓ok_max2, ↓ok_min2, ↓ok_max3, ↓ok_min3, ↓ok_dm, ↓ok_repr, argsE, backE, outE, Pu.M.dt, List.getElem?_cons_zero, List.getElem?_cons_succ, List.set_cons_zero, List.set_cons_succ, List.take_succ_cons, List.take_zero, List.replicate_zero, List.replicate_succ, List.append_nil, List.nil_append, List.cons_append, List.length_cons, List.length_nil, Nat.sub_self, Nat.reduceSub, Nat.reduceAdd, Nat.reduceLeDiff, decide_true, decide_false, reduceCtorEq, noBor, setsE, slotOf, setsS, putFs, putVs, lookV, sel, isNon, Bool.not_true, Bool.not_false, Bool.not_eq_true, decide_eq_true_eq, decide_eq_false_iff_not, Bool.true_eq_false, Bool.false_eq_true, false_implies, true_implies, and_true, true_and, not_true_eq_false, not_false_eq_true, and_self, implies_true, or_false, false_or, List.flatten_cons, List.flatten_nil, true_or, or_true, Int.sub_zero, eq_self, veq_int, veq_str, cMod, cDiv, cPow, cMul_r, cMul_l, strq, String.reduceEq, sz, szl, dOk_int, dOk_bl, dOk_non, if_true, if_false, Int.reducePow, Int.reduceToNat, Int.reduceMul, Int.reduceAdd, Int.reduceSub, Int.reduceNeg, Int.reduceLT, Int.reduceLE, Int.reduceGT, Int.reduceEq, gt_iff_lt, ge_iff_le, Nat.reducePow, Nat.reduceMul, Nat.reduceLT, Int.cast_ofNat_Int, false_and, and_false, Bool.and_true, Bool.true_and, Bool.and_false, Bool.false_and, Bool.or_true, Bool.true_or, Bool.or_false, Bool.false_or, ↓vD_0, ↓vO_0, ↓rD_0, ↓rO_0, ↓kD_0, ↓kO_0, ↓vD_1, ↓vO_1, ↓rD_1, ↓rO_1, ↓kD_1, ↓kO_1, ↓vD_2, ↓vO_2, ↓rD_2, ↓rO_2, ↓kD_2, ↓kO_2, ↓vD_3, ↓vO_3, ↓rD_3, ↓rO_3, ↓kD_3, ↓kO_3, ↓vD_4, ↓vO_4, ↓rD_4, ↓rO_4, ↓kD_4, ↓kO_4, ↓vD_5, ↓vO_5, ↓rD_5, ↓rO_5, ↓kD_5, ↓kO_5, ↓vD_6, ↓vO_6, ↓rD_6, ↓rO_6, ↓kD_6, ↓kO_6, ↓vD_7, ↓vO_7, ↓rD_7, ↓rO_7, ↓kD_7, ↓kO_7, ↓vD_8, ↓vO_8, ↓rD_8, ↓rO_8, ↓kD_8, ↓kO_8, ↓vD_9, ↓vO_9, ↓rD_9, ↓rO_9, ↓kD_9, ↓kO_9, ↓vD_10, ↓vO_10, ↓rD_10, ↓rO_10, ↓kD_10, ↓kO_10, ↓vD_11, ↓vO_11, ↓rD_11, ↓rO_11, ↓kD_11, ↓kO_11, ↓vD_12, ↓vO_12, ↓rD_12, ↓rO_12, ↓kD_12, ↓kO_12, ↓vD_13, ↓vO_13, ↓rD_13, ↓rO_13, ↓kD_13, ↓kO_13, ↓vD_14, ↓vO_14, ↓rD_14, ↓rO_14, ↓kD_14, ↓kO_14, ↓vD_15, ↓vO_15, ↓rD_15, ↓rO_15, ↓kD_15, ↓kO_15, ↓r_mark' hg ht, ↓hfr, ↓r_free_stay (a := ar) hg T h0 ar1 (by omega), ↓hN, ↓i_int, ↓z1, ↓r_came hd, ↓c1, ↓c2, ↓r_caught (a := ar) (d := ar + (N - 1 - ar)) hg T h0 ar1 k1 (by omega), ↓r_caught (a := ar) (d := ar + (N - 1 - ar) + 1) hg T h0 ar1 k2 (by omega), ↓z2, ↓z3, ↓dOk_bb, ↓veq_bb]
        refine Ok.mono (r_far (by omega) (by omega)) ?_
        rintro _ _ ⟨u, a, b, c, rfl, rfl, u1, u2⟩
        simp (disch := first | omega | rfl) only [↓ok_d1, ↓ok_d2, ↓ok_d3, ↓ok_d4, ↓ok_d5, ↓ok_d6, ↓ok_d7, ↓ok_bind, ↓ok_ret, ↓ok_bad, ↓ok_mV, ↓ok_rdD, ↓ok_rdT, ↓ok_dtD, ↓ok_dtT, ↓ok_rds0, ↓ok_rdsC, ↓ok_dts0, ↓ok_dtsC, ↓ok_nil, ↓ok_cons, ↓ok_bin, ↓ok_cb, ↓ok_tup, ↓ok_lst, ↓ok_tru, ↓ok_truB, ↓ok_truI, ↓ok_truN, ↓ok_truL, ↓ok_truT, ↓ok_and, ↓ok_or, ↓ok_not, ↓ok_ifE, ↓ok_andV, ↓ok_orV, ↓ok_notV, ↓ok_neg, ↓ok_chain, ↓ok_seq, ↓ok_skip, ↓ok_retS, ↓ok_retN, ↓ok_bk, ↓ok_ct, ↓ok_ex1, ↓ok_if, ↓ok_set, ↓ok_setP, ↓ok_asg, ↓ok_gN, ↓ok_gsN, ↓ok_gsC, ↓ok_gT, ↓ok_gSb, ↓ok_par, ↓ok_put, ↓ok_get, ↓ok_run, ↓ok_call, ↓ok_callK, ↓ok_make, ↓ok_prop, ↓ok_for, ↓ok_items, ↓ok_rng1, ↓ok_rng2, ↓ok_comp, ↓ok_yes, ↓ok_compS0, ↓ok_compSC, wipeE, ↓ok_sl, ↓ok_noP, ↓ok_pt, ↓ok_slL, ↓ok_slT, ↓ok_rep, ↓ok_app, ↓ok_oSub, ↓ok_oMul, ↓ok_oDiv, ↓ok_oMod, ↓ok_oPow, ↓ok_oLt, ↓ok_oLe, ↓ok_oGt, ↓ok_oGe, ↓ok_oAdd, ↓ok_oAddL, ↓ok_oAddI, ↓ok_oEqI, ↓ok_oEqL, ↓ok_oEqT, ↓ok_oEqB, ↓ok_oEqN, ↓ok_oEqS, ↓ok_oNeI, ↓ok_oNeL, ↓ok_oNeT, ↓ok_oNeB, ↓ok_oNeN, ↓ok_oNeS, ↓ok_oIs, ↓ok_oIsN, ↓ix_0, ↓ix_1, ↓ix_2, ↓ix_3, ↓ix_4, ↓it_0, ↓it_1, ↓it_2, ↓it_3, ixn_0, ixn_1, ixn_2, ↓ok_len, ↓ok_lenT, ↓ok_absI, ↓ok_intI, ↓ok_max2, ↓ok_min2, ↓ok_max3, ↓ok_min3, ↓ok_dm, ↓ok_repr, argsE, backE, outE, Pu.M.dt, List.getElem?_cons_zero, List.getElem?_cons_succ, List.set_cons_zero, List.set_cons_succ, List.take_succ_cons, List.take_zero, List.replicate_zero, List.replicate_succ, List.append_nil, List.nil_append, List.cons_append, List.length_cons, List.length_nil, Nat.sub_self, Nat.reduceSub, Nat.reduceAdd, Nat.reduceLeDiff, decide_true, decide_false, reduceCtorEq, noBor, setsE, slotOf, setsS, putFs, putVs, lookV, sel, isNon, Bool.not_true, Bool.not_false, Bool.not_eq_true, decide_eq_true_eq, decide_eq_false_iff_not, Bool.true_eq_false, Bool.false_eq_true, false_implies, true_implies, and_true, true_and, not_true_eq_false, not_false_eq_true, and_self, implies_true, or_false, false_or, List.flatten_cons, List.flatten_nil, true_or, or_true, Int.sub_zero, eq_self, veq_int, veq_str, cMod, cDiv, cPow, cMul_r, cMul_l, strq, String.reduceEq, sz, szl, dOk_int, dOk_bl, dOk_non, if_true, if_false, Int.reducePow, Int.reduceToNat, Int.reduceMul, Int.reduceAdd, Int.reduceSub, Int.reduceNeg, Int.reduceLT, Int.reduceLE, Int.reduceGT, Int.reduceEq, gt_iff_lt, ge_iff_le, Nat.reducePow, Nat.reduceMul, Nat.reduceLT, Int.cast_ofNat_Int, false_and, and_false, Bool.and_true, Bool.true_and, Bool.and_false, Bool.false_and, Bool.or_true, Bool.true_or, Bool.or_false, Bool.false_or, ↓vD_0, ↓vO_0, ↓rD_0, ↓rO_0, ↓kD_0, ↓kO_0, ↓vD_1, ↓vO_1, ↓rD_1, ↓rO_1, ↓kD_1, ↓kO_1, ↓vD_2, ↓vO_2, ↓rD_2, ↓rO_2, ↓kD_2, ↓kO_2, ↓vD_3, ↓vO_3, ↓rD_3, ↓rO_3, ↓kD_3, ↓kO_3, ↓vD_4, ↓vO_4, ↓rD_4, ↓rO_4, ↓kD_4, ↓kO_4, ↓vD_5, ↓vO_5, ↓rD_5, ↓rO_5, ↓kD_5, ↓kO_5, ↓vD_6, ↓vO_6, ↓rD_6, ↓rO_6, ↓kD_6, ↓kO_6, ↓vD_7, ↓vO_7, ↓rD_7, ↓rO_7, ↓kD_7, ↓kO_7, ↓vD_8, ↓vO_8, ↓rD_8, ↓rO_8, ↓kD_8, ↓kO_8, ↓vD_9, ↓vO_9, ↓rD_9, ↓rO_9, ↓kD_9, ↓kO_9, ↓vD_10, ↓vO_10, ↓rD_10, ↓rO_10, ↓kD_10, ↓kO_10, ↓vD_11, ↓vO_11, ↓rD_11, ↓rO_11, ↓kD_11, ↓kO_11, ↓vD_12, ↓vO_12, ↓rD_12, ↓rO_12, ↓kD_12, ↓kO_12, ↓vD_13, ↓vO_13, ↓rD_13, ↓rO_13, ↓kD_13, ↓kO_13, ↓vD_14, ↓vO_14, ↓rD_14, ↓rO_14, ↓kD_14, ↓kO_14, ↓vD_15, ↓vO_15, ↓rD_15, ↓rO_15, ↓kD_15, ↓kO_15]
        refine Ok.mono (r_pick (by simp) (by simp)) ?_
        rintro _ _ ⟨v3, a, b, c, hv3, rfl, rfl⟩
        obtain ⟨z, rfl, w1, w2⟩ : ∃ k : Int, v3 = .int k ∧ 0 ≤ k ∧ k ≤ 10000000000000000000 := by
          simp only [List.mem_cons, List.not_mem_nil, or_false] at hv3
          rcases hv3 with rfl | rfl | rfl | rfl <;> exact ⟨_, rfl, by omega, by omega⟩
        have k3 : ar ≤ ar + z := by omega
        have c3 : cameB day ts fr (ar + z) = decide (N ≤ ar + z) := by rw [came_iff T h0, hN]
        simp (disch := first | omega | rfl) only [↓ok_d1, ↓ok_d2, ↓ok_d3, ↓ok_d4, ↓ok_d5, ↓ok_d6, ↓ok_d7, ↓ok_bind, ↓ok_ret, ↓ok_bad, ↓ok_mV, ↓ok_rdD, ↓ok_rdT, ↓ok_dtD, ↓ok_dtT, ↓ok_rds0, ↓ok_rdsC, ↓ok_dts0, ↓ok_dtsC, ↓ok_nil, ↓ok_cons, ↓ok_bin, ↓ok_cb, ↓ok_tup, ↓ok_lst, ↓ok_tru, ↓ok_truB, ↓ok_truI, ↓ok_truN, ↓ok_truL, ↓ok_truT, ↓ok_and, ↓ok_or, ↓ok_not, ↓ok_ifE, ↓ok_andV, ↓ok_orV, ↓ok_notV, ↓ok_neg, ↓ok_chain, ↓ok_seq, ↓ok_skip, ↓ok_retS, ↓ok_retN, ↓ok_bk, ↓ok_ct, ↓ok_ex1, ↓ok_if, ↓ok_set, ↓ok_setP, ↓ok_asg, ↓ok_gN, ↓ok_gsN, ↓ok_gsC, ↓ok_gT, ↓ok_gSb, ↓ok_par, ↓ok_put, ↓ok_get, ↓ok_run, ↓ok_call, ↓ok_callK, ↓ok_make, ↓ok_prop, ↓ok_for, ↓ok_items, ↓ok_rng1, ↓ok_rng2, ↓ok_comp, ↓ok_yes, ↓ok_compS0, ↓ok_compSC, wipeE, ↓ok_sl, ↓ok_noP, ↓ok_pt, ↓ok_slL, ↓ok_slT, ↓ok_rep, ↓ok_app, ↓ok_oSub, ↓ok_oMul, ↓ok_oDiv, ↓ok_oMod, ↓ok_oPow, ↓ok_oLt, ↓ok_oLe, ↓ok_oGt, ↓ok_oGe, ↓ok_oAdd, ↓ok_oAddL, ↓ok_oAddI, ↓ok_oEqI, ↓ok_oEqL, ↓ok_oEqT, ↓ok_oEqB, ↓ok_oEqN, ↓ok_oEqS, ↓ok_oNeI, ↓ok_oNeL, ↓ok_oNeT, ↓ok_oNeB, ↓ok_oNeN, ↓ok_oNeS, ↓ok_oIs, ↓ok_oIsN, ↓ix_0, ↓ix_1, ↓ix_2, ↓ix_3, ↓ix_4, ↓it_0, ↓it_1, ↓it_2, ↓it_3, ixn_0, ixn_1, ixn_2, ↓ok_len, ↓ok_lenT, ↓ok_absI, ↓ok_intI, ↓ok_max2, ↓ok_min2, ↓ok_max3, ↓ok_min3, ↓ok_dm, ↓ok_repr, argsE, backE, outE, Pu.M.dt, List.getElem?_cons_zero, List.getElem?_cons_succ, List.set_cons_zero, List.set_cons_succ, List.take_succ_cons, List.take_zero, List.replicate_zero, List.replicate_succ, List.append_nil, List.nil_append, List.cons_append, List.length_cons, List.length_nil, Nat.sub_self, Nat.reduceSub, Nat.reduceAdd, Nat.reduceLeDiff, decide_true, decide_false, reduceCtorEq, noBor, setsE, slotOf, setsS, putFs, putVs, lookV, sel, isNon, Bool.not_true, Bool.not_false, Bool.not_eq_true, decide_eq_true_eq, decide_eq_false_iff_not, Bool.true_eq_false, Bool.false_eq_true, false_implies, true_implies, and_true, true_and, not_true_eq_false, not_false_eq_true, and_self, implies_true, or_false, false_or, List.flatten_cons, List.flatten_nil, true_or, or_true, Int.sub_zero, eq_self, veq_int, veq_str, cMod, cDiv, cPow, cMul_r, cMul_l, strq, String.reduceEq, sz, szl, dOk_int, dOk_bl, dOk_non, if_true, if_false, Int.reducePow, Int.reduceToNat, Int.reduceMul, Int.reduceAdd, Int.reduceSub, Int.reduceNeg, Int.reduceLT, Int.reduceLE, Int.reduceGT, Int.reduceEq, gt_iff_lt, ge_iff_le, Nat.reducePow, Nat.reduceMul, Nat.reduceLT, Int.cast_ofNat_Int, false_and, and_false, Bool.and_true, Bool.true_and, Bool.and_false, Bool.false_and, Bool.or_true, Bool.true_or, Bool.or_false, Bool.false_or, ↓vD_0, ↓vO_0, ↓rD_0, ↓rO_0, ↓kD_0, ↓kO_0, ↓vD_1, ↓vO_1, ↓rD_1, ↓rO_1, ↓kD_1, ↓kO_1, ↓vD_2, ↓vO_2, ↓rD_2, ↓rO_2, ↓kD_2, ↓kO_2, ↓vD_3, ↓vO_3, ↓rD_3, ↓rO_3, ↓kD_3, ↓kO_3, ↓vD_4, ↓vO_4, ↓rD_4, ↓rO_4, ↓kD_4, ↓kO_4, ↓vD_5, ↓vO_5, ↓rD_5, ↓rO_5, ↓kD_5, ↓kO_5, ↓vD_6, ↓vO_6, ↓rD_6, ↓rO_6, ↓kD_6, ↓kO_6, ↓vD_7, ↓vO_7, ↓rD_7, ↓rO_7, ↓kD_7, ↓kO_7, ↓vD_8, ↓vO_8, ↓rD_8, ↓rO_8, ↓kD_8, ↓kO_8, ↓vD_9, ↓vO_9, ↓rD_9, ↓rO_9, ↓kD_9, ↓kO_9, ↓vD_10, ↓vO_10, ↓rD_10, ↓rO_10, ↓kD_10, ↓kO_10, ↓vD_11, ↓vO_11, ↓rD_11, ↓rO_11, ↓kD_11, ↓kO_11, ↓vD_12, ↓vO_12, ↓rD_12, ↓rO_12, ↓kD_12, ↓kO_12, ↓vD_13, ↓vO_13, ↓rD_13, ↓rO_13, ↓kD_13, ↓kO_13, ↓vD_14, ↓vO_14, ↓rD_14, ↓rO_14, ↓kD_14, ↓kO_14, ↓vD_15, ↓vO_15, ↓rD_15, ↓rO_15, ↓kD_15, ↓kO_15, ↓r_caught (a := ar) (d := ar + z) hg T h0 ar1 k3 (by omega), ↓hfr, ↓hN, ↓r_came hd, ↓c3, ↓veq_b1]
        exact ⟨_, _, _, _, _, _, _, _, _, rfl, .inr ⟨rfl, rfl⟩⟩
    · rintro o _ ⟨rfl, a, b, c, x5, x6, x7, x8, x9, x10, rfl, cs⟩
      simp (disch := first | omega | rfl) only [↓ok_d1, ↓ok_d2, ↓ok_d3, ↓ok_d4, ↓ok_d5, ↓ok_d6, ↓ok_d7, ↓ok_bind, ↓ok_ret, ↓ok_bad, ↓ok_mV, ↓ok_rdD, ↓ok_rdT, ↓ok_dtD, ↓ok_dtT, ↓ok_rds0, ↓ok_rdsC, ↓ok_dts0, ↓ok_dtsC, ↓ok_nil, ↓ok_cons, ↓ok_bin, ↓ok_cb, ↓ok_tup, ↓ok_lst, ↓ok_tru, ↓ok_truB, ↓ok_truI, ↓ok_truN, ↓ok_truL, ↓ok_truT, ↓ok_and, ↓ok_or, ↓ok_not, ↓ok_ifE, ↓ok_andV, ↓ok_orV, ↓ok_notV, ↓ok_neg, ↓ok_chain, ↓ok_seq, ↓ok_skip, ↓ok_retS, ↓ok_retN, ↓ok_bk, ↓ok_ct, ↓ok_ex1, ↓ok_if, ↓ok_set, ↓ok_setP, ↓ok_asg, ↓ok_gN, ↓ok_gsN, ↓ok_gsC, ↓ok_gT, ↓ok_gSb, ↓ok_par, ↓ok_put, ↓ok_get, ↓ok_run, ↓ok_call, ↓ok_callK, ↓ok_make, ↓ok_prop, ↓ok_for, ↓ok_items, ↓ok_rng1, ↓ok_rng2, ↓ok_comp, ↓ok_yes, ↓ok_compS0, ↓ok_compSC, wipeE, ↓ok_sl, ↓ok_noP, ↓ok_pt, ↓ok_slL, ↓ok_slT, ↓ok_rep, ↓ok_app, ↓ok_oSub, ↓ok_oMul, ↓ok_oDiv, ↓ok_oMod, ↓ok_oPow, ↓ok_oLt, ↓ok_oLe, ↓ok_oGt, ↓ok_oGe, ↓ok_oAdd, ↓ok_oAddL, ↓ok_oAddI, ↓ok_oEqI, ↓ok_oEqL, ↓ok_oEqT, ↓ok_oEqB, ↓ok_oEqN, ↓ok_oEqS, ↓ok_oNeI, ↓ok_oNeL, ↓ok_oNeT, ↓ok_oNeB, ↓ok_oNeN, ↓ok_oNeS, ↓ok_oIs, ↓ok_oIsN, ↓ix_0, ↓ix_1, ↓ix_2, ↓ix_3, ↓ix_4, ↓it_0, ↓it_1, ↓it_2, ↓it_3, ixn_0, ixn_1, ixn_2, ↓ok_len, ↓ok_lenT, ↓ok_absI, ↓ok_intI, ↓ok_max2, ↓ok_min2, ↓ok_max3, ↓ok_min3, ↓ok_dm, ↓ok_repr, argsE, backE, outE, Pu.M.dt, List.getElem?_cons_zero, List.getElem?_cons_succ, List.set_cons_zero, List.set_cons_succ, List.take_succ_cons, List.take_zero, List.replicate_zero, List.replicate_succ, List.append_nil, List.nil_append, List.cons_append, List.length_cons, List.length_nil, Nat.sub_self, Nat.reduceSub, Nat.reduceAdd, Nat.reduceLeDiff, decide_true, decide_false, reduceCtorEq, noBor, setsE, slotOf, setsS, putFs, putVs, lookV, sel, isNon, Bool.not_true, Bool.not_false, Bool.not_eq_true, decide_eq_true_eq, decide_eq_false_iff_not, Bool.true_eq_false, Bool.false_eq_true, false_implies, true_implies, and_true, true_and, not_true_eq_false, not_false_eq_true, and_self, implies_true, or_false, false_or, List.flatten_cons, List.flatten_nil, true_or, or_true, Int.sub_zero, eq_self, veq_int, veq_str, cMod, cDiv, cPow, cMul_r, cMul_l, strq, String.reduceEq, sz, szl, dOk_int, dOk_bl, dOk_non, if_true, if_false, Int.reducePow, Int.reduceToNat, Int.reduceMul, Int.reduceAdd, Int.reduceSub, Int.reduceNeg, Int.reduceLT, Int.reduceLE, Int.reduceGT, Int.reduceEq, gt_iff_lt, ge_iff_le, Nat.reducePow, Nat.reduceMul, Nat.reduceLT, Int.cast_ofNat_Int, false_and, and_false, Bool.and_true, Bool.true_and, Bool.and_false, Bool.false_and, Bool.or_true, Bool.true_or, Bool.or_false, Bool.false_or, ↓vD_0, ↓vO_0, ↓rD_0, ↓rO_0, ↓kD_0, ↓kO_0, ↓vD_1, ↓vO_1, ↓rD_1, ↓rO_1, ↓kD_1, ↓kO_1, ↓vD_2, ↓vO_2, ↓rD_2, ↓rO_2, ↓kD_2, ↓kO_2, ↓vD_3, ↓vO_3, ↓rD_3, ↓rO_3, ↓kD_3, ↓kO_3, ↓vD_4, ↓vO_4, ↓rD_4, ↓rO_4, ↓kD_4, ↓kO_4, ↓vD_5, ↓vO_5, ↓rD_5, ↓rO_5, ↓kD_5, ↓kO_5, ↓vD_6, ↓vO_6, ↓rD_6, ↓rO_6, ↓kD_6, ↓kO_6, ↓vD_7, ↓vO_7, ↓rD_7, ↓rO_7, ↓kD_7, ↓kO_7, ↓vD_8, ↓vO_8, ↓rD_8, ↓rO_8, ↓kD_8, ↓kO_8, ↓vD_9, ↓vO_9, ↓rD_9, ↓rO_9, ↓kD_9, ↓kO_9, ↓vD_10, ↓vO_10, ↓rD_10, ↓rO_10, ↓kD_10, ↓kO_10, ↓vD_11, ↓vO_11, ↓rD_11, ↓rO_11, ↓kD_11, ↓kO_11, ↓vD_12, ↓vO_12, ↓rD_12, ↓rO_12, ↓kD_12, ↓kO_12, ↓vD_13, ↓vO_13, ↓rD_13, ↓rO_13, ↓kD_13, ↓kO_13, ↓vD_14, ↓vO_14, ↓rD_14, ↓rO_14, ↓kD_14, ↓kO_14, ↓vD_15, ↓vO_15, ↓rD_15, ↓rO_15, ↓kD_15, ↓kO_15]
      exact ⟨_, _, _, _, _, _, _, _, _, _, _, _, _, _, rfl⟩
  · rintro _ ⟨a, b, c, s1, s2, s3, s4, s5, s6, s7, s8, s9, s10, s11, rfl⟩
    simp (disch := first | omega | rfl) only [↓ok_d1, ↓ok_d2, ↓ok_d3, ↓ok_d4, ↓ok_d5, ↓ok_d6, ↓ok_d7, ↓ok_bind, ↓ok_ret, ↓ok_bad, ↓ok_mV, ↓ok_rdD, ↓ok_rdT, ↓ok_dtD, ↓ok_dtT, ↓ok_rds0, ↓ok_rdsC, ↓ok_dts0, ↓ok_dtsC, ↓ok_nil, ↓ok_cons, ↓ok_bin, ↓ok_cb, ↓ok_tup, ↓ok_lst, ↓ok_tru, ↓ok_truB, ↓ok_truI, ↓ok_truN, ↓ok_truL, ↓ok_truT, ↓ok_and, ↓ok_or, ↓ok_not, ↓ok_ifE, ↓ok_andV, ↓ok_orV, ↓ok_notV, ↓ok_neg, ↓ok_chain, ↓ok_seq, ↓ok_skip, ↓ok_retS, ↓ok_retN, ↓ok_bk, ↓ok_ct, ↓ok_ex1, ↓ok_if, ↓ok_set, ↓ok_setP, ↓ok_asg, ↓ok_gN, ↓ok_gsN, ↓ok_gsC, ↓ok_gT, ↓ok_gSb, ↓ok_par, ↓ok_put, ↓ok_get, ↓ok_run, ↓ok_call, ↓ok_callK, ↓ok_make, ↓ok_prop, ↓ok_for, ↓ok_items, ↓ok_rng1, ↓ok_rng2, ↓ok_comp, ↓ok_yes, ↓ok_compS0, ↓ok_compSC, wipeE, ↓ok_sl, ↓ok_noP, ↓ok_pt, ↓ok_slL, ↓ok_slT, ↓ok_rep, ↓ok_app, ↓ok_oSub, ↓ok_oMul, ↓ok_oDiv, ↓ok_oMod, ↓ok_oPow, ↓ok_oLt, ↓ok_oLe, ↓ok_oGt, ↓ok_oGe, ↓ok_oAdd, ↓ok_oAddL, ↓ok_oAddI, ↓ok_oEqI, ↓ok_oEqL, ↓ok_oEqT, ↓ok_oEqB, ↓ok_oEqN, ↓ok_oEqS, ↓ok_oNeI, ↓ok_oNeL, ↓ok_oNeT, ↓ok_oNeB, ↓ok_oNeN, ↓ok_oNeS, ↓ok_oIs, ↓ok_oIsN, ↓ix_0, ↓ix_1, ↓ix_2, ↓ix_3, ↓ix_4, ↓it_0, ↓it_1, ↓it_2, ↓it_3, ixn_0, ixn_1, ixn_2, ↓ok_len, ↓ok_lenT, ↓ok_absI, ↓ok_intI, ↓ok_max2, ↓ok_min2, ↓ok_max3, ↓ok_min3, ↓ok_dm, ↓ok_repr, argsE, backE, outE, Pu.M.dt, List.getElem?_cons_zero, List.getElem?_cons_succ, List.set_cons_zero, List.set_cons_succ, List.take_succ_cons, List.take_zero, List.replicate_zero, List.replicate_succ, List.append_nil, List.nil_append, List.cons_append, List.length_cons, List.length_nil, Nat.sub_self, Nat.reduceSub, Nat.reduceAdd, Nat.reduceLeDiff, decide_true, decide_false, reduceCtorEq, noBor, setsE, slotOf, setsS, putFs, putVs, lookV, sel, isNon, Bool.not_true, Bool.not_false, Bool.not_eq_true, decide_eq_true_eq, decide_eq_false_iff_not, Bool.true_eq_false, Bool.false_eq_true, false_implies, true_implies, and_true, true_and, not_true_eq_false, not_false_eq_true, and_self, implies_true, or_false, false_or, List.flatten_cons, List.flatten_nil, true_or, or_true, Int.sub_zero, eq_self, veq_int, veq_str, cMod, cDiv, cPow, cMul_r, cMul_l, strq, String.reduceEq, sz, szl, dOk_int, dOk_bl, dOk_non, if_true, if_false, Int.reducePow, Int.reduceToNat, Int.reduceMul, Int.reduceAdd, Int.reduceSub, Int.reduceNeg, Int.reduceLT, Int.reduceLE, Int.reduceGT, Int.reduceEq, gt_iff_lt, ge_iff_le, Nat.reducePow, Nat.reduceMul, Nat.reduceLT, Int.cast_ofNat_Int, false_and, and_false, Bool.and_true, Bool.true_and, Bool.and_false, Bool.false_and, Bool.or_true, Bool.true_or, Bool.or_false, Bool.false_or, ↓vD_0, ↓vO_0, ↓rD_0, ↓rO_0, ↓kD_0, ↓kO_0, ↓vD_1, ↓vO_1, ↓rD_1, ↓rO_1, ↓kD_1, ↓kO_1, ↓vD_2, ↓vO_2, ↓rD_2, ↓rO_2, ↓kD_2, ↓kO_2, ↓vD_3, ↓vO_3, ↓rD_3, ↓rO_3, ↓kD_3, ↓kO_3, ↓vD_4, ↓vO_4, ↓rD_4, ↓rO_4, ↓kD_4, ↓kO_4, ↓vD_5, ↓vO_5, ↓rD_5, ↓rO_5, ↓kD_5, ↓kO_5, ↓vD_6, ↓vO_6, ↓rD_6, ↓rO_6, ↓kD_6, ↓kO_6, ↓vD_7, ↓vO_7, ↓rD_7, ↓rO_7, ↓kD_7, ↓kO_7, ↓vD_8, ↓vO_8, ↓rD_8, ↓rO_8, ↓kD_8, ↓kO_8, ↓vD_9, ↓vO_9, ↓rD_9, ↓rO_9, ↓kD_9, ↓kO_9, ↓vD_10, ↓vO_10, ↓rD_10, ↓rO_10, ↓kD_10, ↓kO_10, ↓vD_11, ↓vO_11, ↓rD_11, ↓rO_11, ↓kD_11, ↓kO_11, ↓vD_12, ↓vO_12, ↓rD_12, ↓rO_12, ↓kD_12, ↓kO_12, ↓vD_13, ↓vO_13, ↓rD_13, ↓rO_13, ↓kD_13, ↓kO_13, ↓vD_14, ↓vO_14, ↓rD_14, ↓rO_14, ↓kD_14, ↓kO_14, ↓vD_15, ↓vO_15, ↓rD_15, ↓rO_15, ↓kD_15, ↓kO_15]
theorem times_b : Times 1440 [600, 960] := ⟨by decide, by decide, by decide, by decide, by decide, by decide⟩
theorem k10_1 : nextOf 1440 [600, 960] 600 (markV "next" 30 470 + 120 + 1) = 960 := by decide +kernel
theorem k10_2 : nextOf 1440 [600, 960] 600 (markV "next" 30 450 + 120 + 1) = 600 := by decide +kernel
theorem k10_d : dOk (.lst [.bl false, .bl true, .int 489, .int 149]) = true := rfl
theorem k10_e : veq (.lst [.bl false, .bl true, .int 489, .int 149]) (.lst [.bl false, .bl true, .int 489, .int 149]) = true := rfl
theorem clamp {len m : Int} (hm : 2 ≤ m) : 2 ≤ (if 2 < (if m < len then m else len) then (if m < len then m else len) else 2) ∧ (if 2 < (if m < len then m else len) then (if m < len then m else len) else 2) ≤ m := by
  split
  · split <;> omega
  · omega
theorem all_right {ws : List Nat} {n : Int} {mt : Val → M Unit} {me : M RV} {e : Ev} {Q : RV → Ev → Prop} (h1 : 0 ≤ n) (h2 : n ≤ 100)
    (st : ∀ i : Int, 0 ≤ i → i < n → Ok (mt (.int i)) e fun _ e1 => Ok me e1 fun x e3 => Ok (M.dt x) e3 fun w e4 => w = .bl true ∧ wipeE e4 ws = e) (k : Q (.dat (.bl true)) e) :
    Ok (compS ws mt mYes me (rangeV 0 n) []) e fun r e1 => Ok (fAll [.lst r]) e1 Q := by
  refine Ok.mono (Ok.compS (fun e' => e' = e) (fun _ w => w = .bl true) rfl ?_ ?_) ?_
  · have : (rangeV 0 n).length = n.toNat := by simp [rangeV]
    rw [this, sizeLine_eq, List.length_nil]
    omega
  · rintro v e' hv rfl
    obtain ⟨i, hi, rfl⟩ := List.mem_map.mp hv
    have := List.mem_range.mp hi
    exact st _ (by omega) (by omega)
  · rintro r e' ⟨rfl, rs, hrs, hl, hp⟩
    rw [List.nil_append] at hrs
    subst hrs
    refine (ok_allT fun x hr => ?_).mpr k
    obtain ⟨j, hj, e1⟩ := List.mem_iff_getElem.mp hr
    have h1 : r[j]? = some x := by rw [List.getElem?_eq_getElem hj, e1]
    exact hp j _ _ (List.getElem?_eq_getElem (by omega)) h1
abbrev dB : Val := .obj "Rounds" ["parts"] [.tup [.int 1440, .tup [.int 600, .int 960]]]
section
variable {Q : RV → Ev → Prop}
theorem dB_init : Ok den_Rounds____init__ [.own (.obj "Rounds" [] []), .dat (.int 1440), .dat (.tup [.int 600, .int 960])] Q ↔ Q (.dat .non) [.own dB, .un, .un] := r_rounds_init (ts := [600, 960]) times_b (by decide)
theorem dB_c1 : Ok den_caught [.dat (rV 30 120 15 "next"), .dat dB, .dat (.int 470), .dat (.int 600)] Q ↔ Q (.dat (.bl false)) [.un, .un, .un, .un] := by
  have h := r_caught (s := 30) (l := 120) (p := 15) (t := "next") (a := 470) (d := 600) (Q := Q) (by decide) times_b (t0 := 600) rfl (by decide) (by decide) (by decide)
  rw [k10_1] at h
  exact h
theorem dB_c2 : Ok den_caught [.dat (rV 30 120 15 "next"), .dat dB, .dat (.int 450), .dat (.int 600)] Q ↔ Q (.dat (.bl true)) [.un, .un, .un, .un] := by
  have h := r_caught (s := 30) (l := 120) (p := 15) (t := "next") (a := 450) (d := 600) (Q := Q) (by decide) times_b (t0 := 600) rfl (by decide) (by decide) (by decide)
  rw [k10_2] at h
  exact h
theorem dB_f1 : Ok den_free_stay [.dat (rV 30 120 15 "next"), .dat dB, .dat (.int 470)] Q ↔ Q (.dat (.int 489)) [.un, .un, .un] := by
  have h := r_free_stay (s := 30) (l := 120) (p := 15) (t := "next") (a := 470) (Q := Q) (by decide) times_b (t0 := 600) rfl (by decide) (by decide)
  rw [k10_1] at h
  exact h
theorem dB_f2 : Ok den_free_stay [.dat (rV 30 120 15 "next"), .dat dB, .dat (.int 450)] Q ↔ Q (.dat (.int 149)) [.un, .un, .un] := by
  have h := r_free_stay (s := 30) (l := 120) (p := 15) (t := "next") (a := 450) (Q := Q) (by decide) times_b (t0 := 600) rfl (by decide) (by decide)
  rw [k10_2] at h
  exact h
end
theorem r_law_k10 {ns : List Int} : Ok den_law_k10 [.dat (.lst (ns.map .int))] fun r _ => r = .dat (.bl true) := by
  simp (disch := first | omega | rfl) only [↓ok_d1, ↓ok_d2, ↓ok_d3, ↓ok_d4, ↓ok_d5, ↓ok_d6, ↓ok_d7, ↓ok_bind, ↓ok_ret, ↓ok_bad, ↓ok_mV, ↓ok_rdD, ↓ok_rdT, ↓ok_dtD, ↓ok_dtT, ↓ok_rds0, ↓ok_rdsC, ↓ok_dts0, ↓ok_dtsC, ↓ok_nil, ↓ok_cons, ↓ok_bin, ↓ok_cb, ↓ok_tup, ↓ok_lst, ↓ok_tru, ↓ok_truB, ↓ok_truI, ↓ok_truN, ↓ok_truL, ↓ok_truT, ↓ok_and, ↓ok_or, ↓ok_not, ↓ok_ifE, ↓ok_andV, ↓ok_orV, ↓ok_notV, ↓ok_neg, ↓ok_chain, ↓ok_seq, ↓ok_skip, ↓ok_retS, ↓ok_retN, ↓ok_bk, ↓ok_ct, ↓ok_ex1, ↓ok_if, ↓ok_set, ↓ok_setP, ↓ok_asg, ↓ok_gN, ↓ok_gsN, ↓ok_gsC, ↓ok_gT, ↓ok_gSb, ↓ok_par, ↓ok_put, ↓ok_get, ↓ok_run, ↓ok_call, ↓ok_callK, ↓ok_make, ↓ok_prop, ↓ok_for, ↓ok_items, ↓ok_rng1, ↓ok_rng2, ↓ok_comp, ↓ok_yes, ↓ok_compS0, ↓ok_compSC, wipeE, ↓ok_sl, ↓ok_noP, ↓ok_pt, ↓ok_slL, ↓ok_slT, ↓ok_rep, ↓ok_app, ↓ok_oSub, ↓ok_oMul, ↓ok_oDiv, ↓ok_oMod, ↓ok_oPow, ↓ok_oLt, ↓ok_oLe, ↓ok_oGt, ↓ok_oGe, ↓ok_oAdd, ↓ok_oAddL, ↓ok_oAddI, ↓ok_oEqI, ↓ok_oEqL, ↓ok_oEqT, ↓ok_oEqB, ↓ok_oEqN, ↓ok_oEqS, ↓ok_oNeI, ↓ok_oNeL, ↓ok_oNeT, ↓ok_oNeB, ↓ok_oNeN, ↓ok_oNeS, ↓ok_oIs, ↓ok_oIsN, ↓ix_0, ↓ix_1, ↓ix_2, ↓ix_3, ↓ix_4, ↓it_0, ↓it_1, ↓it_2, ↓it_3, ixn_0, ixn_1, ixn_2, ↓ok_len, ↓ok_lenT, ↓ok_absI, ↓ok_intI, ↓ok_max2, ↓ok_min2, ↓ok_max3, ↓ok_min3, ↓ok_dm, ↓ok_repr, argsE, backE, outE, Pu.M.dt, List.getElem?_cons_zero, List.getElem?_cons_succ, List.set_cons_zero, List.set_cons_succ, List.take_succ_cons, List.take_zero, List.replicate_zero, List.replicate_succ, List.append_nil, List.nil_append, List.cons_append, List.length_cons, List.length_nil, Nat.sub_self, Nat.reduceSub, Nat.reduceAdd, Nat.reduceLeDiff, decide_true, decide_false, reduceCtorEq, noBor, setsE, slotOf, setsS, putFs, putVs, lookV, sel, isNon, Bool.not_true, Bool.not_false, Bool.not_eq_true, decide_eq_true_eq, decide_eq_false_iff_not, Bool.true_eq_false, Bool.false_eq_true, false_implies, true_implies, and_true, true_and, not_true_eq_false, not_false_eq_true, and_self, implies_true, or_false, false_or, List.flatten_cons, List.flatten_nil, true_or, or_true, Int.sub_zero, eq_self, veq_int, veq_str, cMod, cDiv, cPow, cMul_r, cMul_l, strq, String.reduceEq, sz, szl, dOk_int, dOk_bl, dOk_non, if_true, if_false, Int.reducePow, Int.reduceToNat, Int.reduceMul, Int.reduceAdd, Int.reduceSub, Int.reduceNeg, Int.reduceLT, Int.reduceLE, Int.reduceGT, Int.reduceEq, gt_iff_lt, ge_iff_le, Nat.reducePow, Nat.reduceMul, Nat.reduceLT, Int.cast_ofNat_Int, false_and, and_false, Bool.and_true, Bool.true_and, Bool.and_false, Bool.false_and, Bool.or_true, Bool.true_or, Bool.or_false, Bool.false_or, ↓vD_0, ↓vO_0, ↓rD_0, ↓rO_0, ↓kD_0, ↓kO_0, ↓vD_1, ↓vO_1, ↓rD_1, ↓rO_1, ↓kD_1, ↓kO_1, ↓vD_2, ↓vO_2, ↓rD_2, ↓rO_2, ↓kD_2, ↓kO_2, ↓vD_3, ↓vO_3, ↓rD_3, ↓rO_3, ↓kD_3, ↓kO_3, ↓vD_4, ↓vO_4, ↓rD_4, ↓rO_4, ↓kD_4, ↓kO_4, ↓vD_5, ↓vO_5, ↓rD_5, ↓rO_5, ↓kD_5, ↓kO_5, ↓vD_6, ↓vO_6, ↓rD_6, ↓rO_6, ↓kD_6, ↓kO_6, ↓vD_7, ↓vO_7, ↓rD_7, ↓rO_7, ↓kD_7, ↓kO_7, ↓vD_8, ↓vO_8, ↓rD_8, ↓rO_8, ↓kD_8, ↓kO_8, ↓vD_9, ↓vO_9, ↓rD_9, ↓rO_9, ↓kD_9, ↓kO_9, ↓vD_10, ↓vO_10, ↓rD_10, ↓rO_10, ↓kD_10, ↓kO_10, ↓vD_11, ↓vO_11, ↓rD_11, ↓rO_11, ↓kD_11, ↓kO_11, ↓vD_12, ↓vO_12, ↓rD_12, ↓rO_12, ↓kD_12, ↓kO_12, ↓vD_13, ↓vO_13, ↓rD_13, ↓rO_13, ↓kD_13, ↓kO_13, ↓vD_14, ↓vO_14, ↓rD_14, ↓rO_14, ↓kD_14, ↓kO_14, ↓vD_15, ↓vO_15, ↓rD_15, ↓rO_15, ↓kD_15, ↓kO_15, ↓den_law_k10, ↓b_law_k10, ↓r_init (s := 30) (l := 120) (p := 15) (by decide) (by decide) (by decide) (by decide) (by decide) (by decide) n1, ↓dB_init, ↓dB_c1, ↓dB_c2, ↓dB_f1, ↓dB_f2, ↓k10_d, ↓k10_e]
  obtain ⟨b1, b2⟩ := clamp (len := ((ns.map Val.int).length : Int)) (m := 5) (by decide)
  generalize (if (2 : Int) < (if 5 < ((ns.map Val.int).length : Int) then 5 else ((ns.map Val.int).length : Int)) then (if 5 < ((ns.map Val.int).length : Int) then 5 else ((ns.map Val.int).length : Int)) else 2) = n at b1 b2 ⊢
  refine ⟨⟨by omega, by omega⟩, ?_⟩
  refine all_right (by omega) (by omega) (fun i i1 i2 => ?_) ?_
  · simp (disch := first | omega | rfl) only [↓ok_d1, ↓ok_d2, ↓ok_d3, ↓ok_d4, ↓ok_d5, ↓ok_d6, ↓ok_d7, ↓ok_bind, ↓ok_ret, ↓ok_bad, ↓ok_mV, ↓ok_rdD, ↓ok_rdT, ↓ok_dtD, ↓ok_dtT, ↓ok_rds0, ↓ok_rdsC, ↓ok_dts0, ↓ok_dtsC, ↓ok_nil, ↓ok_cons, ↓ok_bin, ↓ok_cb, ↓ok_tup, ↓ok_lst, ↓ok_tru, ↓ok_truB, ↓ok_truI, ↓ok_truN, ↓ok_truL, ↓ok_truT, ↓ok_and, ↓ok_or, ↓ok_not, ↓ok_ifE, ↓ok_andV, ↓ok_orV, ↓ok_notV, ↓ok_neg, ↓ok_chain, ↓ok_seq, ↓ok_skip, ↓ok_retS, ↓ok_retN, ↓ok_bk, ↓ok_ct, ↓ok_ex1, ↓ok_if, ↓ok_set, ↓ok_setP, ↓ok_asg, ↓ok_gN, ↓ok_gsN, ↓ok_gsC, ↓ok_gT, ↓ok_gSb, ↓ok_par, ↓ok_put, ↓ok_get, ↓ok_run, ↓ok_call, ↓ok_callK, ↓ok_make, ↓ok_prop, ↓ok_for, ↓ok_items, ↓ok_rng1, ↓ok_rng2, ↓ok_comp, ↓ok_yes, ↓ok_compS0, ↓ok_compSC, wipeE, ↓ok_sl, ↓ok_noP, ↓ok_pt, ↓ok_slL, ↓ok_slT, ↓ok_rep, ↓ok_app, ↓ok_oSub, ↓ok_oMul, ↓ok_oDiv, ↓ok_oMod, ↓ok_oPow, ↓ok_oLt, ↓ok_oLe, ↓ok_oGt, ↓ok_oGe, ↓ok_oAdd, ↓ok_oAddL, ↓ok_oAddI, ↓ok_oEqI, ↓ok_oEqL, ↓ok_oEqT, ↓ok_oEqB, ↓ok_oEqN, ↓ok_oEqS, ↓ok_oNeI, ↓ok_oNeL, ↓ok_oNeT, ↓ok_oNeB, ↓ok_oNeN, ↓ok_oNeS, ↓ok_oIs, ↓ok_oIsN, ↓ix_0, ↓ix_1, ↓ix_2, ↓ix_3, ↓ix_4, ↓it_0, ↓it_1, ↓it_2, ↓it_3, ixn_0, ixn_1, ixn_2, ↓ok_len, ↓ok_lenT, ↓ok_absI, ↓ok_intI, ↓ok_max2, ↓ok_min2, ↓ok_max3, ↓ok_min3, ↓ok_dm, ↓ok_repr, argsE, backE, outE, Pu.M.dt, List.getElem?_cons_zero, List.getElem?_cons_succ, List.set_cons_zero, List.set_cons_succ, List.take_succ_cons, List.take_zero, List.replicate_zero, List.replicate_succ, List.append_nil, List.nil_append, List.cons_append, List.length_cons, List.length_nil, Nat.sub_self, Nat.reduceSub, Nat.reduceAdd, Nat.reduceLeDiff, decide_true, decide_false, reduceCtorEq, noBor, setsE, slotOf, setsS, putFs, putVs, lookV, sel, isNon, Bool.not_true, Bool.not_false, Bool.not_eq_true, decide_eq_true_eq, decide_eq_false_iff_not, Bool.true_eq_false, Bool.false_eq_true, false_implies, true_implies, and_true, true_and, not_true_eq_false, not_false_eq_true, and_self, implies_true, or_false, false_or, List.flatten_cons, List.flatten_nil, true_or, or_true, Int.sub_zero, eq_self, veq_int, veq_str, cMod, cDiv, cPow, cMul_r, cMul_l, strq, String.reduceEq, sz, szl, dOk_int, dOk_bl, dOk_non, if_true, if_false, Int.reducePow, Int.reduceToNat, Int.reduceMul, Int.reduceAdd, Int.reduceSub, Int.reduceNeg, Int.reduceLT, Int.reduceLE, Int.reduceGT, Int.reduceEq, gt_iff_lt, ge_iff_le, Nat.reducePow, Nat.reduceMul, Nat.reduceLT, Int.cast_ofNat_Int, false_and, and_false, Bool.and_true, Bool.true_and, Bool.and_false, Bool.false_and, Bool.or_true, Bool.true_or, Bool.or_false, Bool.false_or, ↓vD_0, ↓vO_0, ↓rD_0, ↓rO_0, ↓kD_0, ↓kO_0, ↓vD_1, ↓vO_1, ↓rD_1, ↓rO_1, ↓kD_1, ↓kO_1, ↓vD_2, ↓vO_2, ↓rD_2, ↓rO_2, ↓kD_2, ↓kO_2, ↓vD_3, ↓vO_3, ↓rD_3, ↓rO_3, ↓kD_3, ↓kO_3, ↓vD_4, ↓vO_4, ↓rD_4, ↓rO_4, ↓kD_4, ↓kO_4, ↓vD_5, ↓vO_5, ↓rD_5, ↓rO_5, ↓kD_5, ↓kO_5, ↓vD_6, ↓vO_6, ↓rD_6, ↓rO_6, ↓kD_6, ↓kO_6, ↓vD_7, ↓vO_7, ↓rD_7, ↓rO_7, ↓kD_7, ↓kO_7, ↓vD_8, ↓vO_8, ↓rD_8, ↓rO_8, ↓kD_8, ↓kO_8, ↓vD_9, ↓vO_9, ↓rD_9, ↓rO_9, ↓kD_9, ↓kO_9, ↓vD_10, ↓vO_10, ↓rD_10, ↓rO_10, ↓kD_10, ↓kO_10, ↓vD_11, ↓vO_11, ↓rD_11, ↓rO_11, ↓kD_11, ↓kO_11, ↓vD_12, ↓vO_12, ↓rD_12, ↓rO_12, ↓kD_12, ↓kO_12, ↓vD_13, ↓vO_13, ↓rD_13, ↓rO_13, ↓kD_13, ↓kO_13, ↓vD_14, ↓vO_14, ↓rD_14, ↓rO_14, ↓kD_14, ↓kO_14, ↓vD_15, ↓vO_15, ↓rD_15, ↓rO_15, ↓kD_15, ↓kO_15]
    refine Ok.mono (r_flask i1) ?_
    rintro _ _ ⟨a, b, c, rfl, rfl⟩
    simp (disch := first | omega | rfl) only [↓ok_d1, ↓ok_d2, ↓ok_d3, ↓ok_d4, ↓ok_d5, ↓ok_d6, ↓ok_d7, ↓ok_bind, ↓ok_ret, ↓ok_bad, ↓ok_mV, ↓ok_rdD, ↓ok_rdT, ↓ok_dtD, ↓ok_dtT, ↓ok_rds0, ↓ok_rdsC, ↓ok_dts0, ↓ok_dtsC, ↓ok_nil, ↓ok_cons, ↓ok_bin, ↓ok_cb, ↓ok_tup, ↓ok_lst, ↓ok_tru, ↓ok_truB, ↓ok_truI, ↓ok_truN, ↓ok_truL, ↓ok_truT, ↓ok_and, ↓ok_or, ↓ok_not, ↓ok_ifE, ↓ok_andV, ↓ok_orV, ↓ok_notV, ↓ok_neg, ↓ok_chain, ↓ok_seq, ↓ok_skip, ↓ok_retS, ↓ok_retN, ↓ok_bk, ↓ok_ct, ↓ok_ex1, ↓ok_if, ↓ok_set, ↓ok_setP, ↓ok_asg, ↓ok_gN, ↓ok_gsN, ↓ok_gsC, ↓ok_gT, ↓ok_gSb, ↓ok_par, ↓ok_put, ↓ok_get, ↓ok_run, ↓ok_call, ↓ok_callK, ↓ok_make, ↓ok_prop, ↓ok_for, ↓ok_items, ↓ok_rng1, ↓ok_rng2, ↓ok_comp, ↓ok_yes, ↓ok_compS0, ↓ok_compSC, wipeE, ↓ok_sl, ↓ok_noP, ↓ok_pt, ↓ok_slL, ↓ok_slT, ↓ok_rep, ↓ok_app, ↓ok_oSub, ↓ok_oMul, ↓ok_oDiv, ↓ok_oMod, ↓ok_oPow, ↓ok_oLt, ↓ok_oLe, ↓ok_oGt, ↓ok_oGe, ↓ok_oAdd, ↓ok_oAddL, ↓ok_oAddI, ↓ok_oEqI, ↓ok_oEqL, ↓ok_oEqT, ↓ok_oEqB, ↓ok_oEqN, ↓ok_oEqS, ↓ok_oNeI, ↓ok_oNeL, ↓ok_oNeT, ↓ok_oNeB, ↓ok_oNeN, ↓ok_oNeS, ↓ok_oIs, ↓ok_oIsN, ↓ix_0, ↓ix_1, ↓ix_2, ↓ix_3, ↓ix_4, ↓it_0, ↓it_1, ↓it_2, ↓it_3, ixn_0, ixn_1, ixn_2, ↓ok_len, ↓ok_lenT, ↓ok_absI, ↓ok_intI, ↓ok_max2, ↓ok_min2, ↓ok_max3, ↓ok_min3, ↓ok_dm, ↓ok_repr, argsE, backE, outE, Pu.M.dt, List.getElem?_cons_zero, List.getElem?_cons_succ, List.set_cons_zero, List.set_cons_succ, List.take_succ_cons, List.take_zero, List.replicate_zero, List.replicate_succ, List.append_nil, List.nil_append, List.cons_append, List.length_cons, List.length_nil, Nat.sub_self, Nat.reduceSub, Nat.reduceAdd, Nat.reduceLeDiff, decide_true, decide_false, reduceCtorEq, noBor, setsE, slotOf, setsS, putFs, putVs, lookV, sel, isNon, Bool.not_true, Bool.not_false, Bool.not_eq_true, decide_eq_true_eq, decide_eq_false_iff_not, Bool.true_eq_false, Bool.false_eq_true, false_implies, true_implies, and_true, true_and, not_true_eq_false, not_false_eq_true, and_self, implies_true, or_false, false_or, List.flatten_cons, List.flatten_nil, true_or, or_true, Int.sub_zero, eq_self, veq_int, veq_str, cMod, cDiv, cPow, cMul_r, cMul_l, strq, String.reduceEq, sz, szl, dOk_int, dOk_bl, dOk_non, if_true, if_false, Int.reducePow, Int.reduceToNat, Int.reduceMul, Int.reduceAdd, Int.reduceSub, Int.reduceNeg, Int.reduceLT, Int.reduceLE, Int.reduceGT, Int.reduceEq, gt_iff_lt, ge_iff_le, Nat.reducePow, Nat.reduceMul, Nat.reduceLT, Int.cast_ofNat_Int, false_and, and_false, Bool.and_true, Bool.true_and, Bool.and_false, Bool.false_and, Bool.or_true, Bool.true_or, Bool.or_false, Bool.false_or, ↓vD_0, ↓vO_0, ↓rD_0, ↓rO_0, ↓kD_0, ↓kO_0, ↓vD_1, ↓vO_1, ↓rD_1, ↓rO_1, ↓kD_1, ↓kO_1, ↓vD_2, ↓vO_2, ↓rD_2, ↓rO_2, ↓kD_2, ↓kO_2, ↓vD_3, ↓vO_3, ↓rD_3, ↓rO_3, ↓kD_3, ↓kO_3, ↓vD_4, ↓vO_4, ↓rD_4, ↓rO_4, ↓kD_4, ↓kO_4, ↓vD_5, ↓vO_5, ↓rD_5, ↓rO_5, ↓kD_5, ↓kO_5, ↓vD_6, ↓vO_6, ↓rD_6, ↓rO_6, ↓kD_6, ↓kO_6, ↓vD_7, ↓vO_7, ↓rD_7, ↓rO_7, ↓kD_7, ↓kO_7, ↓vD_8, ↓vO_8, ↓rD_8, ↓rO_8, ↓kD_8, ↓kO_8, ↓vD_9, ↓vO_9, ↓rD_9, ↓rO_9, ↓kD_9, ↓kO_9, ↓vD_10, ↓vO_10, ↓rD_10, ↓rO_10, ↓kD_10, ↓kO_10, ↓vD_11, ↓vO_11, ↓rD_11, ↓rO_11, ↓kD_11, ↓kO_11, ↓vD_12, ↓vO_12, ↓rD_12, ↓rO_12, ↓kD_12, ↓kO_12, ↓vD_13, ↓vO_13, ↓rD_13, ↓rO_13, ↓kD_13, ↓kO_13, ↓vD_14, ↓vO_14, ↓rD_14, ↓rO_14, ↓kD_14, ↓kO_14, ↓vD_15, ↓vO_15, ↓rD_15, ↓rO_15, ↓kD_15, ↓kO_15]
    refine Ok.mono r_right_k10 ?_
    rintro _ _ rfl
    simp (disch := first | omega | rfl) only [↓ok_d1, ↓ok_d2, ↓ok_d3, ↓ok_d4, ↓ok_d5, ↓ok_d6, ↓ok_d7, ↓ok_bind, ↓ok_ret, ↓ok_bad, ↓ok_mV, ↓ok_rdD, ↓ok_rdT, ↓ok_dtD, ↓ok_dtT, ↓ok_rds0, ↓ok_rdsC, ↓ok_dts0, ↓ok_dtsC, ↓ok_nil, ↓ok_cons, ↓ok_bin, ↓ok_cb, ↓ok_tup, ↓ok_lst, ↓ok_tru, ↓ok_truB, ↓ok_truI, ↓ok_truN, ↓ok_truL, ↓ok_truT, ↓ok_and, ↓ok_or, ↓ok_not, ↓ok_ifE, ↓ok_andV, ↓ok_orV, ↓ok_notV, ↓ok_neg, ↓ok_chain, ↓ok_seq, ↓ok_skip, ↓ok_retS, ↓ok_retN, ↓ok_bk, ↓ok_ct, ↓ok_ex1, ↓ok_if, ↓ok_set, ↓ok_setP, ↓ok_asg, ↓ok_gN, ↓ok_gsN, ↓ok_gsC, ↓ok_gT, ↓ok_gSb, ↓ok_par, ↓ok_put, ↓ok_get, ↓ok_run, ↓ok_call, ↓ok_callK, ↓ok_make, ↓ok_prop, ↓ok_for, ↓ok_items, ↓ok_rng1, ↓ok_rng2, ↓ok_comp, ↓ok_yes, ↓ok_compS0, ↓ok_compSC, wipeE, ↓ok_sl, ↓ok_noP, ↓ok_pt, ↓ok_slL, ↓ok_slT, ↓ok_rep, ↓ok_app, ↓ok_oSub, ↓ok_oMul, ↓ok_oDiv, ↓ok_oMod, ↓ok_oPow, ↓ok_oLt, ↓ok_oLe, ↓ok_oGt, ↓ok_oGe, ↓ok_oAdd, ↓ok_oAddL, ↓ok_oAddI, ↓ok_oEqI, ↓ok_oEqL, ↓ok_oEqT, ↓ok_oEqB, ↓ok_oEqN, ↓ok_oEqS, ↓ok_oNeI, ↓ok_oNeL, ↓ok_oNeT, ↓ok_oNeB, ↓ok_oNeN, ↓ok_oNeS, ↓ok_oIs, ↓ok_oIsN, ↓ix_0, ↓ix_1, ↓ix_2, ↓ix_3, ↓ix_4, ↓it_0, ↓it_1, ↓it_2, ↓it_3, ixn_0, ixn_1, ixn_2, ↓ok_len, ↓ok_lenT, ↓ok_absI, ↓ok_intI, ↓ok_max2, ↓ok_min2, ↓ok_max3, ↓ok_min3, ↓ok_dm, ↓ok_repr, argsE, backE, outE, Pu.M.dt, List.getElem?_cons_zero, List.getElem?_cons_succ, List.set_cons_zero, List.set_cons_succ, List.take_succ_cons, List.take_zero, List.replicate_zero, List.replicate_succ, List.append_nil, List.nil_append, List.cons_append, List.length_cons, List.length_nil, Nat.sub_self, Nat.reduceSub, Nat.reduceAdd, Nat.reduceLeDiff, decide_true, decide_false, reduceCtorEq, noBor, setsE, slotOf, setsS, putFs, putVs, lookV, sel, isNon, Bool.not_true, Bool.not_false, Bool.not_eq_true, decide_eq_true_eq, decide_eq_false_iff_not, Bool.true_eq_false, Bool.false_eq_true, false_implies, true_implies, and_true, true_and, not_true_eq_false, not_false_eq_true, and_self, implies_true, or_false, false_or, List.flatten_cons, List.flatten_nil, true_or, or_true, Int.sub_zero, eq_self, veq_int, veq_str, cMod, cDiv, cPow, cMul_r, cMul_l, strq, String.reduceEq, sz, szl, dOk_int, dOk_bl, dOk_non, if_true, if_false, Int.reducePow, Int.reduceToNat, Int.reduceMul, Int.reduceAdd, Int.reduceSub, Int.reduceNeg, Int.reduceLT, Int.reduceLE, Int.reduceGT, Int.reduceEq, gt_iff_lt, ge_iff_le, Nat.reducePow, Nat.reduceMul, Nat.reduceLT, Int.cast_ofNat_Int, false_and, and_false, Bool.and_true, Bool.true_and, Bool.and_false, Bool.false_and, Bool.or_true, Bool.true_or, Bool.or_false, Bool.false_or, ↓vD_0, ↓vO_0, ↓rD_0, ↓rO_0, ↓kD_0, ↓kO_0, ↓vD_1, ↓vO_1, ↓rD_1, ↓rO_1, ↓kD_1, ↓kO_1, ↓vD_2, ↓vO_2, ↓rD_2, ↓rO_2, ↓kD_2, ↓kO_2, ↓vD_3, ↓vO_3, ↓rD_3, ↓rO_3, ↓kD_3, ↓kO_3, ↓vD_4, ↓vO_4, ↓rD_4, ↓rO_4, ↓kD_4, ↓kO_4, ↓vD_5, ↓vO_5, ↓rD_5, ↓rO_5, ↓kD_5, ↓kO_5, ↓vD_6, ↓vO_6, ↓rD_6, ↓rO_6, ↓kD_6, ↓kO_6, ↓vD_7, ↓vO_7, ↓rD_7, ↓rO_7, ↓kD_7, ↓kO_7, ↓vD_8, ↓vO_8, ↓rD_8, ↓rO_8, ↓kD_8, ↓kO_8, ↓vD_9, ↓vO_9, ↓rD_9, ↓rO_9, ↓kD_9, ↓kO_9, ↓vD_10, ↓vO_10, ↓rD_10, ↓rO_10, ↓kD_10, ↓kO_10, ↓vD_11, ↓vO_11, ↓rD_11, ↓rO_11, ↓kD_11, ↓kO_11, ↓vD_12, ↓vO_12, ↓rD_12, ↓rO_12, ↓kD_12, ↓kO_12, ↓vD_13, ↓vO_13, ↓rD_13, ↓rO_13, ↓kD_13, ↓kO_13, ↓vD_14, ↓vO_14, ↓rD_14, ↓rO_14, ↓kD_14, ↓kO_14, ↓vD_15, ↓vO_15, ↓rD_15, ↓rO_15, ↓kD_15, ↓kO_15, ↓back_t]
  · simp (disch := first | omega | rfl) only [↓ok_d1, ↓ok_d2, ↓ok_d3, ↓ok_d4, ↓ok_d5, ↓ok_d6, ↓ok_d7, ↓ok_bind, ↓ok_ret, ↓ok_bad, ↓ok_mV, ↓ok_rdD, ↓ok_rdT, ↓ok_dtD, ↓ok_dtT, ↓ok_rds0, ↓ok_rdsC, ↓ok_dts0, ↓ok_dtsC, ↓ok_nil, ↓ok_cons, ↓ok_bin, ↓ok_cb, ↓ok_tup, ↓ok_lst, ↓ok_tru, ↓ok_truB, ↓ok_truI, ↓ok_truN, ↓ok_truL, ↓ok_truT, ↓ok_and, ↓ok_or, ↓ok_not, ↓ok_ifE, ↓ok_andV, ↓ok_orV, ↓ok_notV, ↓ok_neg, ↓ok_chain, ↓ok_seq, ↓ok_skip, ↓ok_retS, ↓ok_retN, ↓ok_bk, ↓ok_ct, ↓ok_ex1, ↓ok_if, ↓ok_set, ↓ok_setP, ↓ok_asg, ↓ok_gN, ↓ok_gsN, ↓ok_gsC, ↓ok_gT, ↓ok_gSb, ↓ok_par, ↓ok_put, ↓ok_get, ↓ok_run, ↓ok_call, ↓ok_callK, ↓ok_make, ↓ok_prop, ↓ok_for, ↓ok_items, ↓ok_rng1, ↓ok_rng2, ↓ok_comp, ↓ok_yes, ↓ok_compS0, ↓ok_compSC, wipeE, ↓ok_sl, ↓ok_noP, ↓ok_pt, ↓ok_slL, ↓ok_slT, ↓ok_rep, ↓ok_app, ↓ok_oSub, ↓ok_oMul, ↓ok_oDiv, ↓ok_oMod, ↓ok_oPow, ↓ok_oLt, ↓ok_oLe, ↓ok_oGt, ↓ok_oGe, ↓ok_oAdd, ↓ok_oAddL, ↓ok_oAddI, ↓ok_oEqI, ↓ok_oEqL, ↓ok_oEqT, ↓ok_oEqB, ↓ok_oEqN, ↓ok_oEqS, ↓ok_oNeI, ↓ok_oNeL, ↓ok_oNeT, ↓ok_oNeB, ↓ok_oNeN, ↓ok_oNeS, ↓ok_oIs, ↓ok_oIsN, ↓ix_0, ↓ix_1, ↓ix_2, ↓ix_3, ↓ix_4, ↓it_0, ↓it_1, ↓it_2, ↓it_3, ixn_0, ixn_1, ixn_2, ↓ok_len, ↓ok_lenT, ↓ok_absI, ↓ok_intI, ↓ok_max2, ↓ok_min2, ↓ok_max3, ↓ok_min3, ↓ok_dm, ↓ok_repr, argsE, backE, outE, Pu.M.dt, List.getElem?_cons_zero, List.getElem?_cons_succ, List.set_cons_zero, List.set_cons_succ, List.take_succ_cons, List.take_zero, List.replicate_zero, List.replicate_succ, List.append_nil, List.nil_append, List.cons_append, List.length_cons, List.length_nil, Nat.sub_self, Nat.reduceSub, Nat.reduceAdd, Nat.reduceLeDiff, decide_true, decide_false, reduceCtorEq, noBor, setsE, slotOf, setsS, putFs, putVs, lookV, sel, isNon, Bool.not_true, Bool.not_false, Bool.not_eq_true, decide_eq_true_eq, decide_eq_false_iff_not, Bool.true_eq_false, Bool.false_eq_true, false_implies, true_implies, and_true, true_and, not_true_eq_false, not_false_eq_true, and_self, implies_true, or_false, false_or, List.flatten_cons, List.flatten_nil, true_or, or_true, Int.sub_zero, eq_self, veq_int, veq_str, cMod, cDiv, cPow, cMul_r, cMul_l, strq, String.reduceEq, sz, szl, dOk_int, dOk_bl, dOk_non, if_true, if_false, Int.reducePow, Int.reduceToNat, Int.reduceMul, Int.reduceAdd, Int.reduceSub, Int.reduceNeg, Int.reduceLT, Int.reduceLE, Int.reduceGT, Int.reduceEq, gt_iff_lt, ge_iff_le, Nat.reducePow, Nat.reduceMul, Nat.reduceLT, Int.cast_ofNat_Int, false_and, and_false, Bool.and_true, Bool.true_and, Bool.and_false, Bool.false_and, Bool.or_true, Bool.true_or, Bool.or_false, Bool.false_or, ↓vD_0, ↓vO_0, ↓rD_0, ↓rO_0, ↓kD_0, ↓kO_0, ↓vD_1, ↓vO_1, ↓rD_1, ↓rO_1, ↓kD_1, ↓kO_1, ↓vD_2, ↓vO_2, ↓rD_2, ↓rO_2, ↓kD_2, ↓kO_2, ↓vD_3, ↓vO_3, ↓rD_3, ↓rO_3, ↓kD_3, ↓kO_3, ↓vD_4, ↓vO_4, ↓rD_4, ↓rO_4, ↓kD_4, ↓kO_4, ↓vD_5, ↓vO_5, ↓rD_5, ↓rO_5, ↓kD_5, ↓kO_5, ↓vD_6, ↓vO_6, ↓rD_6, ↓rO_6, ↓kD_6, ↓kO_6, ↓vD_7, ↓vO_7, ↓rD_7, ↓rO_7, ↓kD_7, ↓kO_7, ↓vD_8, ↓vO_8, ↓rD_8, ↓rO_8, ↓kD_8, ↓kO_8, ↓vD_9, ↓vO_9, ↓rD_9, ↓rO_9, ↓kD_9, ↓kO_9, ↓vD_10, ↓vO_10, ↓rD_10, ↓rO_10, ↓kD_10, ↓kO_10, ↓vD_11, ↓vO_11, ↓rD_11, ↓rO_11, ↓kD_11, ↓kO_11, ↓vD_12, ↓vO_12, ↓rD_12, ↓rO_12, ↓kD_12, ↓kO_12, ↓vD_13, ↓vO_13, ↓rD_13, ↓rO_13, ↓kD_13, ↓kO_13, ↓vD_14, ↓vO_14, ↓rD_14, ↓rO_14, ↓kD_14, ↓kO_14, ↓vD_15, ↓vO_15, ↓rD_15, ↓rO_15, ↓kD_15, ↓kO_15]
theorem good_k10 (ns : List Int) (_ : ns.length ≤ 63) : ∃ e', den_law_k10 [.dat (.lst (ns.map .int))] = .ok (.dat (.bl true)) e' := by
  obtain ⟨r, e', h, h2⟩ := ok_ex.mp (r_law_k10 (ns := ns))
  exact ⟨e', by rw [h, h2]⟩
end Pu.Q
set_option Elab.async false
set_option linter.all false
set_option maxRecDepth 100000
set_option maxHeartbeats 0
namespace Pu.Q
open PySem PySem.Spec PyProof.Rows L2 Pu
abbrev R : PySem.W.OpenRow := PySem.W.OpenLaw.row PySem.Challenge.rw_discwarden_k10_whole_free_stays
abbrev hk : PySem.W.Hook := hookP 6 fa fn fy
def ob (s : PySem.W.SharedT) : AlP := obsP 6 fa fn fy (HandSHeadRun.getT s)
theorem ob_eq (s : PySem.W.SharedT) : ob s = hk.obs s.abs := obsP_eq (HandSHeadRun.getT_eq s)
def loose : List Str := [("NotRight" : Str), ("InvalidText" : Str), ("InvalidNumber" : Str), ("InvalidSetting" : Str), ("NotARule" : Str), ("NotRounds" : Str), ("InvalidTimes" : Str), ("MOST_MINUTE" : Str), ("MOST_STEP" : Str), ("MOST_LIMIT" : Str), ("MOST_TIMES" : Str), ("FIGURES" : Str), ("MOST_FIGURES" : Str), ("is_integer" : Str), ("is_between" : Str), ("check_number" : Str), ("check_minute" : Str), ("number_in" : Str), ("SETTINGS" : Str), ("WORDS" : Str), ("Rule" : Str), ("check_rule" : Str), ("reach" : Str), ("mark_at" : Str), ("check_departure" : Str), ("Rounds" : Str), ("check_rounds" : Str), ("next_of" : Str), ("behind" : Str), ("check_ways" : Str), ("caught" : Str), ("free_stay" : Str), ("_law_flask" : Str), ("_law_sip" : Str), ("_law_pick" : Str), ("_law_far" : Str), ("_law_plan" : Str), ("_law_made" : Str), ("_law_mark" : Str), ("_law_came" : Str), ("_law_right" : Str)]
theorem run (w : World) : HandSHeadRun.RunEq R (PySem.W.view R.prog [46]) hk ob 20000 loose w := by
  intro os
  kernel_rfl
end Pu.Q
open PySem PySem.W PySem.Calls PyProof.Rows
theorem Pu.Q.holds_of (good : ∀ ns : List Int, ns.length ≤ 63 → ∃ e', Pu.Q.den_law_k10 [.dat (.lst (ns.map .int))] = .ok (.dat (.bl true)) e') : PySem.Challenge.rw_discwarden_k10_whole_free_stays.Holds := by
  w_on; o_law
  refine HandSHeadRun.head_any (r := OpenLaw.row PySem.Challenge.rw_discwarden_k10_whole_free_stays) (q := view (OpenLaw.row PySem.Challenge.rw_discwarden_k10_whole_free_stays).prog [46]) (H := Pu.Q.hk) (ob := Pu.Q.ob) (M := 20000) (loose := Pu.Q.loose) (d := HandSHeadRun.topDef (OpenLaw.row PySem.Challenge.rw_discwarden_k10_whole_free_stays).prog 46) (kwd := []) Pu.Q.ob_eq
    (by kernel_rfl) (fun s => by kernel_rfl) Pu.Q.run (by kernel_rfl) (by kernel_rfl) (by kernel_rfl) (by rfl) (by first | assumption | decide +kernel) (by decide +kernel) ⟨rfl, rfl, rfl, rfl, rfl, by decide +kernel⟩ ?hw ?hc
  case hw => w_witness2
  case hc =>
    refine Pu.walk_goes (l := PySem.Challenge.rw_discwarden_k10_whole_free_stays) (n := 63) (k := 8) (x := "_law_script") rfl (by decide) (by kernel_rfl) ⟨rfl, by decide, by decide⟩ ?F
    intro w mg fa h Y G hmg0
    obtain ⟨K, KX, c⟩ := Y
    have hmg : mg ("law" : PySem.Str) = some (.ref fa) := by
      have e : (HandSHeadRun.topDef (OpenLaw.row PySem.Challenge.rw_discwarden_k10_whole_free_stays).prog 46).name = ("law" : PySem.Str) := by kernel_rfl
      rw [← e]
      exact hmg0
    have here := Pu.Q.law_at KX G c
    have e := hmg.symm.trans here
    cases e
    obtain ⟨fd, F⟩ := c.a.def_ Pu.Q.fnLaw (d := Pu.Q.d_law_k10) rfl
    have b := L2.FunD.bindsA (ps := ["_law_script"]) F fun _ _ _ _ _ _ us hl => match us, hl with | [_], _ => rfl
    obtain ⟨fd', F', G'⟩ := (Pu.Q.all_ok (P := PySem.Challenge.rw_discwarden_k10_whole_free_stays.prog) (w := w) (base := h) KX G c).ex
    refine ⟨K, fd, Pu.Q.den_law_k10, KX, c.nl, fun s v => b s [v] rfl, good, fun base _ _ => ?_⟩
    obtain ⟨fd2, F2, G2⟩ := (Pu.Q.all_ok (P := PySem.Challenge.rw_discwarden_k10_whole_free_stays.prog) (w := w) (base := base) KX G c).ex
    have same := Pu.funD_fd F F2
    subst same
    exact G2
theorem PySem.Challenge.cw_discwarden_k10_whole_free_stays_holds : PySem.Challenge.rw_discwarden_k10_whole_free_stays.Holds := by
  exact Pu.Q.holds_of Pu.Q.good_k10
