import PyProof.Rows.All
import Wide.All
import OpenK.AllK
import Wide.FinOn
import HandS.ForMost
import HandS.ForExc
import HandS.HeadHook1
import HandS.HeadHook2
import HandS.Lambda
import HandS.HotCalls
import HandS.ExcCtx
import HandS.Wide
import HandS.IsInst
import HandS.TupAny
import HandS.RaiseMore
import HandS.Walk
import HandS.Style
import HandS.TryOnly
import HandS.Property
import KE.KStateDown
import HandS.Ends
import HandS.HeadEnd
import HandS.Head2
import HandS.HeadNt
import HandS.HeadHook4
import HandS.EndTab
import HandS.WideBits
import HandS.Flt
import KE.GoesEnum
import KE.GoesMore
import KE.GoesZip
import HandS.Star
import HandS.Defaults
import HandS.SetFor
import HandS.Strs
import HandS.SortInts
import HandS.Conv
import HandS.OwnEq
import HandS.ExcValue
import PySem.Challenge.RW_discwarden_k16_whole_stays_that_are_show
set_option Elab.async false
set_option linter.all false
set_option maxRecDepth 100000
namespace Pu
open PySem PySem.Spec PyProof.Rows L2
abbrev Sig := L2.St
inductive Val where
  | non | bl (b : Bool) | int (i : Int) | str (x : Str) | ty (n : String) | glo (x : Str)
  | tup (xs : List Val) | lst (xs : List Val) | obj (C : Str) (fs : List Str) (vs : List Val) | dct (ks : List Key) (vs : List Val)
mutual
inductive VR (K : PySem.W.Frag) (F : Hp) : Val → V → Prop
  | non : VR K F .non .non
  | bl (b : Bool) : VR K F (.bl b) (.bl b)
  | int (i : Int) : VR K F (.int i) (.int i)
  | str (x : Str) : VR K F (.str x) (.str x)
  | ty (n : String) : VR K F (.ty n) (.ty n)
  | glo (x : Str) : VR K F (.glo x) (.ref (He.ga K x))
  | tup {a : Addr} {us : List V} {xs : List Val} : SqT K F a us → VRs K F xs us → VR K F (.tup xs) (.ref a)
  | lst {a : Addr} {us : List V} {xs : List Val} : Rd F a (.lst us) → VRs K F xs us → VR K F (.lst xs) (.ref a)
  | obj {a dx : Addr} {C : Str} {fs : List Str} {us : List V} {vs : List Val} : F a = some (.ins (He.ga K C) dx (fs.zip us)) → fs.length = us.length → VRs K F vs us → VR K F (.obj C fs vs) (.ref a)
  | dct {a : Addr} {ks : List Key} {us : List V} {vs : List Val} : F a = some (.dK (ks.zip us)) → ks.length = us.length → VRs K F vs us → VR K F (.dct ks vs) (.ref a)
inductive VRs (K : PySem.W.Frag) (F : Hp) : List Val → List V → Prop
  | nil : VRs K F [] []
  | cons {v : Val} {u : V} {vs : List Val} {us : List V} : VR K F v u → VRs K F vs us → VRs K F (v :: vs) (u :: us)
end
section
variable {K : PySem.W.Frag} {F F' H H' : Hp}
theorem sqT_mono {a : Addr} {us : List V} (e : Same F F') (h : SqT K F a us) : SqT K F' a us := by
  rcases h with (h | ⟨o, h⟩) | h
  · exact .inl (.inl (e _ _ h))
  · exact .inl (.inr ⟨o, e _ _ h⟩)
  · exact .inr h
theorem rd_mono {a : Addr} {o : HO} (e : Same F F') (h : Rd F a o) : Rd F' a o := by
  rcases h with h | ⟨o, h⟩
  · exact .inl (e _ _ h)
  · exact .inr ⟨o, e _ _ h⟩
theorem VR.mono {v : Val} {u : V} (e : Same F F') (h : VR K F v u) : VR K F' v u :=
  VR.rec (motive_1 := fun v u _ => VR K F' v u) (motive_2 := fun vs us _ => VRs K F' vs us)
    .non (fun b => .bl b) (fun i => .int i) (fun x => .str x) (fun n => .ty n) (fun x => .glo x)
    (fun s _ ih => .tup (sqT_mono e s) ih) (fun s _ ih => .lst (rd_mono e s) ih) (fun s l _ ih => .obj (e _ _ s) l ih) (fun s l _ ih => .dct (e _ _ s) l ih) .nil (fun _ _ i1 i2 => .cons i1 i2) h
theorem VRs.mono {vs : List Val} {us : List V} (e : Same F F') (h : VRs K F vs us) : VRs K F' vs us :=
  VRs.rec (motive_1 := fun v u _ => VR K F' v u) (motive_2 := fun vs us _ => VRs K F' vs us)
    .non (fun b => .bl b) (fun i => .int i) (fun x => .str x) (fun n => .ty n) (fun x => .glo x)
    (fun s _ ih => .tup (sqT_mono e s) ih) (fun s _ ih => .lst (rd_mono e s) ih) (fun s l _ ih => .obj (e _ _ s) l ih) (fun s l _ ih => .dct (e _ _ s) l ih) .nil (fun _ _ i1 i2 => .cons i1 i2) h
theorem VRs.length {vs : List Val} {us : List V} : VRs K F vs us → vs.length = us.length
  | .nil => rfl
  | .cons _ t => congrArg Nat.succ t.length
theorem VRs.get {vs : List Val} {us : List V} : VRs K F vs us → ∀ {i : Nat} {v : Val}, vs[i]? = some v → ∃ u, us[i]? = some u ∧ VR K F v u
  | .nil, i, v, h => by simp at h
  | .cons r t, 0, v, h => by simp at h; subst h; exact ⟨_, rfl, r⟩
  | .cons r t, i + 1, v, h => by
    obtain ⟨u, h1, h2⟩ := t.get (i := i) (v := v) (by simpa using h)
    exact ⟨u, by simpa using h1, h2⟩
theorem VRs.set {vs : List Val} {us : List V} {v : Val} {u : V} (q : VR K F v u) : VRs K F vs us → ∀ (i : Nat), VRs K F (vs.set i v) (us.set i u)
  | .nil, _ => .nil
  | .cons r t, 0 => .cons q t
  | .cons r t, i + 1 => .cons r (VRs.set q t i)
theorem VRs.take {vs : List Val} {us : List V} (h : VRs K F vs us) : ∀ (n : Nat), VRs K F (vs.take n) (us.take n) := by
  intro n
  induction n generalizing vs us with
  | zero => exact .nil
  | succ n ih => cases h with
    | nil => exact .nil
    | cons r t => exact .cons r (ih t)
theorem VRs.drop {vs : List Val} {us : List V} (h : VRs K F vs us) : ∀ (n : Nat), VRs K F (vs.drop n) (us.drop n) := by
  intro n
  induction n generalizing vs us with
  | zero => exact h
  | succ n ih => cases h with
    | nil => exact .nil
    | cons r t => exact ih t
end
def tabOf (K : PySem.W.Frag) (p : Addr × Obj) : Option (Addr × Addr × Str) := match p.2.data with
  | .func fd => match fd.code with
    | .ref c => match K.lookup c with
      | some oc => match oc.data with
        | .fields vs => match (vs[11]? : Option Value) with
          | some (.ref P) => some (c, P, fd.qualname ++ ".<locals>." ++ "<lambda>")
          | _ => none
        | _ => none
      | none => none
    | _ => none
  | _ => none
def tabs3 (K : PySem.W.Frag) : List (Addr × Addr × Str) := K.filterMap (tabOf K)
def tabsOf (K : PySem.W.Frag) : List (Addr × Str) := (tabs3 K).map (·.2)
def plainO : HO → Bool
  | .tbl _ => false
  | .ext _ => false
  | _ => true
inductive Slot where
  | un | dat (v : Val) | own (v : Val)
abbrev Ev := List Slot
inductive RV where
  | dat (v : Val) | tmp (v : Val) | bor (i : Nat)
inductive Res (α : Type) where
  | ok (a : α) (e : Ev) | rs (x : Val) (e : Ev) | bad
abbrev M (α : Type) := Ev → Res α
def M.bind {α β : Type} (m : M α) (f : α → M β) : M β := fun e => match m e with
  | .ok a e' => f a e'
  | .rs x e' => .rs x e'
  | .bad => .bad
def M.ret {α : Type} (a : α) : M α := fun e => .ok a e
def M.bad {α : Type} : M α := fun _ => .bad
def CellR (K : PySem.W.Frag) (F H : Hp) : Val → Addr → Prop
  | .lst xs, a => ∃ us, H a = some (.lst us) ∧ VRs K F xs us
  | .obj C fs vs, a => ∃ dx us, H a = some (.ins (He.ga K C) dx (fs.zip us)) ∧ fs.length = us.length ∧ VRs K F vs us
  | .dct ks vs, a => ∃ us, H a = some (.dK (ks.zip us)) ∧ ks.length = us.length ∧ VRs K F vs us
  | _, _ => False
def SlotR (K : PySem.W.Frag) (F H : Hp) : Slot → Option V → Prop
  | .un, _ => True
  | .dat v, o => ∃ u, o = some u ∧ VR K F v u
  | .own v, o => ∃ a, o = some (.ref a) ∧ F a = none ∧ CellR K F H v a
def Own (e : Ev) (σ : Sig) (a : Addr) : Prop := ∃ (i : Nat) (v : Val), e[i]? = some (.own v) ∧ σ[i]? = some (some (.ref a))
structure Rel (K : PySem.W.Frag) (F H : Hp) (e : Ev) (σ : Sig) : Prop where
  sub : Same F H
  len : e.length = σ.length
  slot : ∀ (i : Nat) (s : Slot) (o : Option V), e[i]? = some s → σ[i]? = some o → SlotR K F H s o
  inj : ∀ (i j : Nat) (v w : Val) (a : Addr), e[i]? = some (.own v) → e[j]? = some (.own w) → σ[i]? = some (some (.ref a)) → σ[j]? = some (some (.ref a)) → i = j
  tb : LamX.Tabs (tabsOf K) H
  nt : ∀ a ps, F a ≠ some (.tbl ps)
structure Bg where
  O : Addr → Prop
  F : Hp
  H : Hp
  /-- so many of the first names are the parameters; what they were, and stood for -/
  np : Nat
  ev : Ev
  sg : Sig
def Bg.mine (B : Bg) (a : Addr) : Prop := B.O a ∨ B.H a = none
structure Post (B : Bg) (F H : Hp) : Prop where
  sub : Same B.F F
  fr : ∀ a o, B.H a = some o → ¬ B.O a → (∀ ps, o ≠ .tbl ps) → H a = some o
  nw : ∀ a, F a ≠ none → B.F a ≠ none ∨ B.mine a
  kp : ∀ a, H a = none → B.H a = none
structure Cur (K : PySem.W.Frag) (B : Bg) (F H : Hp) (e : Ev) (σ : Sig) : Prop where
  post : Post B F H
  rel : Rel K F H e σ
  own : ∀ a, Own e σ a → B.mine a
  ln : e.length = B.ev.length
  par : ∀ (i : Nat) (v : Val), i < B.np → e[i]? = some (.own v) → σ[i]? = B.sg[i]? ∧ ∃ w, B.ev[i]? = some (.own w)
def bg (np : Nat) (F H : Hp) (e : Ev) (σ : Sig) : Bg := ⟨Own e σ, F, H, np, e, σ⟩
section
variable {K : PySem.W.Frag} {B : Bg} {F F' H H' : Hp} {e e' : Ev} {σ σ' : Sig}
theorem Post.refl {np : Nat} : Post (bg np F H e σ) F H := ⟨Same.refl _, fun _ _ h _ _ => h, fun _ h => .inl h, fun _ h => h⟩
theorem Cur.refl {np : Nat} (R : Rel K F H e σ) : Cur K (bg np F H e σ) F H e σ := ⟨Post.refl, R, fun _ h => .inl h, rfl, fun _ v _ h => ⟨rfl, v, h⟩⟩
theorem Cur.post_trans (C : Cur K B F H e σ) (p : Post (bg B.np F H e σ) F' H') : Post B F' H' where
  sub := C.post.sub.trans p.sub
  fr := fun a o h n t => p.fr a o (C.post.fr a o h n t) (fun q => by
    rcases C.own a q with z | z
    · exact n z
    · rw [z] at h; cases h) t
  nw := fun a h => by
    rcases p.nw a h with z | z
    · exact C.post.nw a z
    · rcases z with z | z
      · exact .inr (C.own a z)
      · exact .inr (.inr (C.post.kp a z))
  kp := fun a h => C.post.kp a (p.kp a h)
theorem Cur.mine_of (C : Cur K B F H e σ) {a : Addr} {np : Nat} (h : (bg np F H e σ).mine a) : B.mine a := by
  rcases h with z | z
  · exact C.own a z
  · exact .inr (C.post.kp a z)
theorem Cur.trans (C : Cur K B F H e σ) (p : Cur K (bg B.np F H e σ) F' H' e' σ') : Cur K B F' H' e' σ' := ⟨C.post_trans p.post, p.rel, fun a h => C.mine_of (p.own a h), p.ln.trans C.ln, fun i v hi h => by
  obtain ⟨h1, w, h2⟩ := p.par i v hi h
  obtain ⟨h3, h4⟩ := C.par i w hi h2
  exact ⟨h1.trans h3, h4⟩⟩
end
def RR (K : PySem.W.Frag) (B : Bg) (F H : Hp) (e : Ev) (σ : Sig) : RV → V → Prop
  | .dat v, u => VR K F v u
  | .tmp v, u => ∃ t, u = .ref t ∧ F t = none ∧ CellR K F H v t ∧ ¬ Own e σ t ∧ B.mine t
  | .bor i, u => σ[i]? = some (some u)
inductive RRs (K : PySem.W.Frag) (B : Bg) (F H : Hp) (e : Ev) (σ : Sig) : List RV → List V → Prop
  | nil : RRs K B F H e σ [] []
  | cons {r : RV} {u : V} {rs : List RV} {us : List V} : RR K B F H e σ r u → (∀ v, r = .tmp v → ∀ (j : Nat) w, rs[j]? = some (.tmp w) → us[j]? ≠ some u) → RRs K B F H e σ rs us → RRs K B F H e σ (r :: rs) (u :: us)
def XR (K : PySem.W.Frag) (F H : Hp) : Val → Value → Option Addr → Prop
  | .obj C fs vs, cls, d => cls = .ref (He.ga K C) ∧ ((fs = [] ∧ vs = [] ∧ d = none) ∨ ∃ dx us, d = some dx ∧ H dx = some (.xd (fs.zip us)) ∧ fs.length = us.length ∧ VRs K F vs us)
  | _, _, _ => False
def At {α β : Type} (K : PySem.W.Frag) (W : WX) (R : Bg → Hp → Hp → Ev → Sig → α → β → Prop) (B : Bg) (m : M α) (F : Hp) (e : Ev) (σ : Sig) (H : Hp) (Q : β → Hp → Prop) : Prop :=
  match m e with
  | .ok r e' => ∀ F' H' u, Cur K B F' H' e' σ → R B F' H' e' σ r u → Q u H'
  | .rs x e' => ∀ F' H' cls d, Cur K B F' H' e' σ → XR K F' H' x cls d → W cls d σ H'
  | .bad => False
def tM {α β : Type} (K : PySem.W.Frag) (W : WX) (R : Bg → Hp → Hp → Ev → Sig → α → β → Prop) (m : M α) : Sig → Hp → (β → Hp → Prop) → Prop := fun σ H Q =>
  ∃ np F e, Rel K F H e σ ∧ At K W R (bg np F H e σ) m F e σ H Q
theorem RR.out {K : PySem.W.Frag} {B : Bg} {F0 H0 F H : Hp} {e0 e : Ev} {σ0 σ : Sig} {r : RV} {u : V} {np : Nat} (C : Cur K B F0 H0 e0 σ0) (h : RR K (bg np F0 H0 e0 σ0) F H e σ r u) : RR K B F H e σ r u := by
  cases r with
  | dat v => exact h
  | bor i => exact h
  | tmp v =>
    obtain ⟨t, h1, h2, h3, h4, h5⟩ := h
    exact ⟨t, h1, h2, h3, h4, C.mine_of h5⟩
end Pu
set_option Elab.async false
set_option linter.all false
set_option maxRecDepth 100000
namespace Pu
open PySem PySem.Spec PyProof.Rows L2
structure FnG (P : Program) (w : World) (K : PySem.W.Frag) (mg : Str → Option Value) (base : Heap) (k : Nat) (f : Addr) (fd : FuncData) (ps : List Str) (sp : Sp) : Prop where
  many : ∀ vs H Q E, sp vs H Q E → vs.length = ps.length
  goes : ∀ (A : Around) (outer : List Env) (s : Shared) (H : Hp) (args : Args) (us : List Value) (vs : List V) (Q : VK) (E : XK), Room k A → A.guards = some [] → Env0 P w K mg base A outer s H →
    BindsTo s fd args (ps.zip us) → Vals vs us → sp vs H Q E →
    codeAny (model P w) A (.call (.ref f) args) (CR (L2N.CX P w) outer P w H s Q E) s
end Pu
set_option Elab.async false
set_option linter.all false
set_option maxRecDepth 100000
namespace Pu
open PySem PySem.Spec PyProof.Rows L2
theorem Slot.dat_ne {v : Val} : ∀ w, Slot.dat v ≠ .own w := fun _ z => nomatch z
def RdR (K : PySem.W.Frag) (F H : Hp) (v : Val) (u : V) : Prop := VR K F v u ∨ ∃ t, u = .ref t ∧ CellR K F H v t
inductive RdRs (K : PySem.W.Frag) (F H : Hp) : List Val → List V → Prop
  | nil : RdRs K F H [] []
  | cons {v : Val} {u : V} {vs : List Val} {us : List V} : RdR K F H v u → RdRs K F H vs us → RdRs K F H (v :: vs) (u :: us)
def rd (r : RV) (e : Ev) : Option Val := match r with
  | .dat v => some v
  | .tmp v => some v
  | .bor i => match e[i]? with
    | some (.own v) => some v
    | some (.dat v) => some v
    | _ => none
def M.rd (r : RV) : M Val := fun e => match Pu.rd r e with
  | some v => .ok v e
  | none => .bad
def M.rds : List RV → M (List Val)
  | [] => M.ret []
  | r :: rs => (M.rd r).bind fun v => (M.rds rs).bind fun vs => M.ret (v :: vs)
def M.dt (r : RV) : M Val := fun e => match r with
  | .dat v => .ok v e
  | .tmp v => .ok v e
  | .bor i => match e[i]? with
    | some (.own v) => .ok v (e.set i (.dat v))
    | some (.dat v) => .ok v e
    | _ => .bad
def M.dts : List RV → M (List Val)
  | [] => M.ret []
  | r :: rs => (M.dt r).bind fun v => (M.dts rs).bind fun vs => M.ret (v :: vs)
theorem M.bind_assoc {α β γ : Type} (m : M α) (f : α → M β) (g : β → M γ) : (m.bind f).bind g = m.bind fun x => (f x).bind g := by
  funext e
  unfold M.bind
  cases m e <;> rfl
section
variable {K : PySem.W.Frag} {W : WX} {B : Bg} {F F' H H' : Hp} {e : Ev} {σ : Sig}
theorem CellR.vr {v : Val} {t : Addr} (h : CellR K F H v t) (s : Same F F') (a : F' t = H t) : VR K F' v (.ref t) := by
  cases v with
  | lst xs =>
    obtain ⟨us, h1, h2⟩ := h
    exact .lst (.inl (a.trans h1)) (h2.mono s)
  | obj C fs vs =>
    obtain ⟨dx, us, h1, h2, h3⟩ := h
    exact .obj (a.trans h1) h2 (h3.mono s)
  | dct ks vs =>
    obtain ⟨us, h1, h2, h3⟩ := h
    exact .dct (a.trans h1) h2 (h3.mono s)
  | _ => exact h.elim
theorem CellR.mono {v : Val} {t : Addr} (h : CellR K F H v t) (s : Same F F') (a : H' t = H t) : CellR K F' H' v t := by
  cases v with
  | lst xs =>
    obtain ⟨us, h1, h2⟩ := h
    exact ⟨us, a.trans h1, h2.mono s⟩
  | obj C fs vs =>
    obtain ⟨dx, us, h1, h2, h3⟩ := h
    exact ⟨dx, us, a.trans h1, h2, h3.mono s⟩
  | dct ks vs =>
    obtain ⟨us, h1, h2, h3⟩ := h
    exact ⟨us, a.trans h1, h2, h3.mono s⟩
  | _ => exact h.elim
theorem CellR.some {v : Val} {t : Addr} (h : CellR K F H v t) : ∃ o, H t = some o := by
  cases v with
  | lst xs =>
    obtain ⟨us, h1, h2⟩ := h
    exact ⟨_, h1⟩
  | obj C fs vs =>
    obtain ⟨dx, us, h1, h2, h3⟩ := h
    exact ⟨_, h1⟩
  | dct ks vs =>
    obtain ⟨us, h1, h2, h3⟩ := h
    exact ⟨_, h1⟩
  | _ => exact h.elim
theorem CellR.someP {v : Val} {t : Addr} (h : CellR K F H v t) : ∃ o, H t = Option.some o ∧ plainO o = true := by
  cases v with
  | lst xs =>
    obtain ⟨us, h1, h2⟩ := h
    exact ⟨_, h1, rfl⟩
  | obj C fs vs =>
    obtain ⟨dx, us, h1, h2, h3⟩ := h
    exact ⟨_, h1, rfl⟩
  | dct ks vs =>
    obtain ⟨us, h1, h2, h3⟩ := h
    exact ⟨_, h1, rfl⟩
  | _ => exact h.elim
theorem CellR.nt {v : Val} {t : Addr} (h : CellR K F H v t) (ps : Array Value) : H t ≠ Option.some (HO.tbl ps) := fun z => by
  obtain ⟨o, h1, h2⟩ := h.someP
  rw [z] at h1
  cases h1
  cases h2
theorem RR.rd {r : RV} {u : V} {v : Val} (R : Rel K F H e σ) (h : RR K B F H e σ r u) (q : Pu.rd r e = some v) : RdR K F H v u := by
  cases r with
  | dat w =>
    cases q
    exact .inl h
  | tmp w =>
    cases q
    obtain ⟨t, h1, h2, h3, _⟩ := h
    exact .inr ⟨t, h1, h3⟩
  | bor i =>
    have h' : σ[i]? = some (some u) := h
    unfold Pu.rd at q
    dsimp only at q
    cases hi : e[i]? with
    | none => rw [hi] at q; cases q
    | some s =>
      rw [hi] at q
      cases s with
      | un => cases q
      | own w =>
        cases q
        obtain ⟨a, h1, h2, h3⟩ := R.slot i _ _ hi h'
        exact .inr ⟨a, Option.some.inj h1, h3⟩
      | dat w =>
        cases q
        obtain ⟨a, h1, h2⟩ := R.slot i _ _ hi h'
        rw [Option.some.inj h1]
        exact .inl h2
def frz (F H : Hp) (t : Addr) : Hp := fun b => if b = t then H t else F b
theorem frz_same {t : Addr} : frz F H t t = H t := by unfold frz; rw [if_pos rfl]
theorem frz_ne {t b : Addr} (h : b ≠ t) : frz F H t b = F b := by unfold frz; rw [if_neg h]
theorem frz_sub {t : Addr} (h : F t = none) : Same F (frz F H t) := fun b o e => by
  by_cases hb : b = t
  · rw [hb, h] at e; cases e
  · rw [frz_ne hb]; exact e
theorem Cur.frz {t : Addr} (C : Cur K B F H e σ) (h1 : F t = none) (h2 : ¬ Own e σ t) (h3 : B.mine t) (h4 : ∀ ps, H t ≠ some (.tbl ps)) : Cur K B (frz F H t) H e σ := by
  refine ⟨⟨C.post.sub.trans (frz_sub h1), C.post.fr, fun a h => ?_, C.post.kp⟩, ⟨fun b o q => ?_, C.rel.len, fun i s o a1 a2 => ?_, C.rel.inj, C.rel.tb, fun b ps q => ?_⟩, C.own, C.ln, C.par⟩
  rotate_right
  · by_cases hb : b = t
    · rw [hb, frz_same] at q; exact h4 ps q
    · rw [frz_ne hb] at q; exact C.rel.nt b ps q
  · by_cases ha : a = t
    · rw [ha]; exact .inr h3
    · rw [frz_ne ha] at h; exact C.post.nw a h
  · by_cases hb : b = t
    · rw [hb, frz_same] at q; rw [hb]; exact q
    · rw [frz_ne hb] at q; exact C.rel.sub b o q
  · have q := C.rel.slot i s o a1 a2
    cases s with
    | un => trivial
    | dat v =>
      obtain ⟨u, e1, e2⟩ := q
      exact ⟨u, e1, e2.mono (frz_sub h1)⟩
    | own v =>
      obtain ⟨a, e1, e2, e3⟩ := q
      have ne : a ≠ t := fun z => h2 ⟨i, v, a1, by rw [a2, e1, z]⟩
      exact ⟨a, e1, by rw [frz_ne ne]; exact e2, e3.mono (frz_sub h1) rfl⟩
theorem getset {α : Type} {l : List α} {i j : Nat} {a b : α} (h : (l.set i a)[j]? = some b) : (i = j ∧ b = a ∧ i < l.length) ∨ (i ≠ j ∧ l[j]? = some b) := by
  by_cases hij : i = j
  · subst hij
    by_cases hl : i < l.length
    · rw [List.getElem?_set_self hl] at h
      exact .inl ⟨rfl, (Option.some.inj h).symm, hl⟩
    · rw [List.getElem?_eq_none (by rw [List.length_set]; omega)] at h
      cases h
  · rw [List.getElem?_set_ne hij] at h
    exact .inr ⟨hij, h⟩
theorem Own.unset1 {i : Nat} {s : Slot} {a : Addr} (hs : ∀ v, s ≠ .own v) (h : Own (e.set i s) σ a) : Own e σ a := by
  obtain ⟨j, v, h1, h2⟩ := h
  rcases getset h1 with ⟨_, z, _⟩ | ⟨z, h1⟩
  · exact absurd z.symm (hs v)
  · exact ⟨j, v, h1, h2⟩
theorem Cur.slot {i : Nat} {s : Slot} (C : Cur K B F H e σ) (hs : ∀ v, s ≠ .own v) (h : ∀ o, σ[i]? = some o → SlotR K F H s o) : Cur K B F H (e.set i s) σ := by
  refine ⟨C.post, ⟨C.rel.sub, by rw [List.length_set]; exact C.rel.len, fun j q o a1 a2 => ?_, fun j k v w a h1 h2 h3 h4 => ?_, C.rel.tb, C.rel.nt⟩, fun a q => C.own a (q.unset1 hs), by rw [List.length_set]; exact C.ln, fun j v hj h => ?_⟩
  · rcases getset a1 with ⟨z, z2, _⟩ | ⟨z, a1⟩
    · subst z z2; exact h o a2
    · exact C.rel.slot j q o a1 a2
  · rcases getset h1 with ⟨_, z, _⟩ | ⟨_, h1⟩
    · exact absurd z.symm (hs v)
    · rcases getset h2 with ⟨_, z, _⟩ | ⟨_, h2⟩
      · exact absurd z.symm (hs w)
      · exact C.rel.inj j k v w a h1 h2 h3 h4
  · rcases getset h with ⟨_, z, _⟩ | ⟨_, h⟩
    · exact absurd z.symm (hs v)
    · exact C.par j v hj h
theorem Cur.forget {i : Nat} (C : Cur K B F H e σ) : Cur K B F H (e.set i .un) σ := C.slot (fun _ z => nomatch z) fun _ _ => trivial
theorem At.rd {α β : Type} {R : Bg → Hp → Hp → Ev → Sig → α → β → Prop} {r : RV} {u : V} {f : Val → M α} {Q : β → Hp → Prop} (R0 : Rel K F H e σ) (h : RR K B F H e σ r u) (q : At K W R B ((M.rd r).bind f) F e σ H Q) :
    ∃ v, RdR K F H v u ∧ At K W R B (f v) F e σ H Q := by
  cases z : Pu.rd r e with
  | none =>
    unfold At M.bind M.rd at q
    rw [z] at q
    exact q.elim
  | some v =>
    refine ⟨v, h.rd R0 z, ?_⟩
    unfold At M.bind M.rd at q
    rw [z] at q
    exact q
theorem At.rds {α β : Type} {R : Bg → Hp → Hp → Ev → Sig → α → β → Prop} (R0 : Rel K F H e σ) {Q : β → Hp → Prop} : ∀ {rs : List RV} {us : List V} {f : List Val → M α}, RRs K B F H e σ rs us → At K W R B ((M.rds rs).bind f) F e σ H Q →
    ∃ vs, RdRs K F H vs us ∧ At K W R B (f vs) F e σ H Q
  | _, _, f, .nil, q => ⟨[], .nil, q⟩
  | _, _, f, .cons (rs := rs) r _ t, q => by
    unfold M.rds at q
    rw [M.bind_assoc] at q
    obtain ⟨v, h1, q⟩ := At.rd R0 r q
    rw [M.bind_assoc] at q
    obtain ⟨vs, h2, q⟩ := At.rds R0 t q
    exact ⟨v :: vs, .cons h1 h2, q⟩
theorem dt_go {r : RV} {u : V} {v : Val} {e' : Ev} (C : Cur K B F H e σ) (h : RR K B F H e σ r u) (q : M.dt r e = .ok v e') :
    ∃ F', Cur K B F' H e' σ ∧ Same F F' ∧ VR K F' v u ∧ (∀ r' u', RR K B F H e σ r' u' → (∀ v w, r = .tmp v → r' = .tmp w → u' ≠ u) → RR K B F' H e' σ r' u') := by
  cases r with
  | dat w =>
    cases q
    exact ⟨F, C, Same.refl _, h, fun _ _ z _ => z⟩
  | tmp w =>
    cases q
    obtain ⟨t, h1, h2, h3, h4, h5⟩ := h
    subst h1
    refine ⟨frz F H t, C.frz h2 h4 h5 h3.nt, frz_sub h2, h3.vr (frz_sub h2) frz_same, fun r' u' z d => ?_⟩
    cases r' with
    | dat v => exact VR.mono (frz_sub h2) z
    | bor i => exact z
    | tmp w' =>
      obtain ⟨t', a1, a2, a3, a4, a5⟩ := z
      have ne : t' ≠ t := fun z => d v w' rfl rfl (by rw [a1, z])
      exact ⟨t', a1, by rw [frz_ne ne]; exact a2, a3.mono (frz_sub h2) rfl, a4, a5⟩
  | bor i =>
    have h' : σ[i]? = some (some u) := h
    unfold M.dt at q
    cases z : e[i]? with
    | none => simp only [z] at q; cases q
    | some s =>
      cases s with
      | un => simp only [z] at q; cases q
      | dat w =>
        simp only [z] at q
        cases q
        refine ⟨F, C, Same.refl _, ?_, fun _ _ z _ => z⟩
        obtain ⟨x, h1, h2⟩ := C.rel.slot i _ _ z h'
        rw [Option.some.inj h1]; exact h2
      | own w =>
        simp only [z] at q
        cases q
        obtain ⟨t, h1, h2, h3⟩ := C.rel.slot i _ _ z h'
        have eu : u = .ref t := Option.some.inj h1
        subst eu
        have no : ∀ {a}, Own (e.set i .un) σ a → a ≠ t := fun {a} ⟨j, w, b1, b2⟩ z2 => by
          rcases getset b1 with ⟨_, z3, _⟩ | ⟨z3, b1⟩
          · cases z3
          · rw [z2] at b2
            exact z3 (C.rel.inj i j v w t z b1 h' b2)
        have C1 : Cur K B F H (e.set i .un) σ := C.forget
        have C2 := C1.frz h2 (fun z2 => no z2 rfl) (C.own t ⟨i, v, z, h'⟩) h3.nt
        have C3 : Cur K B (Pu.frz F H t) H ((e.set i .un).set i (.dat v)) σ := C2.slot (fun _ z => nomatch z) fun o ho => by
          rw [h'] at ho; cases ho
          exact ⟨_, rfl, h3.vr (frz_sub h2) frz_same⟩
        rw [List.set_set] at C3
        refine ⟨_, C3, frz_sub h2, h3.vr (frz_sub h2) frz_same, fun r' u' zz d => ?_⟩
        cases r' with
        | dat v => exact VR.mono (frz_sub h2) zz
        | bor i => exact zz
        | tmp w =>
          obtain ⟨t', a1, a2, a3, a4, a5⟩ := zz
          have ne : t' ≠ t := fun z3 => a4 (by rw [z3]; exact ⟨i, v, z, h'⟩)
          exact ⟨t', a1, by rw [frz_ne ne]; exact a2, a3.mono (frz_sub h2) rfl, fun z4 => a4 (z4.unset1 Slot.dat_ne), a5⟩
theorem dt_some {r : RV} : ∀ (x : Val) (e' : Ev), M.dt r e ≠ .rs x e' := by
  intro x e' z
  cases r with
  | dat v => cases z
  | tmp v => cases z
  | bor i =>
    unfold M.dt at z
    dsimp only at z
    split at z <;> cases z
theorem At.dt {α β : Type} {R : Bg → Hp → Hp → Ev → Sig → α → β → Prop} {r : RV} {u : V} {f : Val → M α} {Q : β → Hp → Prop} (C : Cur K B F H e σ) (h : RR K B F H e σ r u) (q : At K W R B ((M.dt r).bind f) F e σ H Q) :
    ∃ F' e' v, Cur K B F' H e' σ ∧ Same F F' ∧ VR K F' v u ∧ At K W R B (f v) F' e' σ H Q ∧
      (∀ r' u', RR K B F H e σ r' u' → (∀ v w, r = .tmp v → r' = .tmp w → u' ≠ u) → RR K B F' H e' σ r' u') := by
  cases z : M.dt r e with
  | rs x e' => exact (dt_some _ _ z).elim
  | bad =>
    unfold At M.bind at q
    rw [z] at q
    exact q.elim
  | ok v e' =>
    obtain ⟨F', C', s, r1, keep⟩ := dt_go C h z
    refine ⟨F', e', v, C', s, r1, ?_, keep⟩
    unfold At M.bind at q
    rw [z] at q
    exact q
theorem At.dts {α β : Type} {R : Bg → Hp → Hp → Ev → Sig → α → β → Prop} {Q : β → Hp → Prop} : ∀ {rs : List RV} {us : List V} {f : List Val → M α} {F : Hp} {e : Ev}, Cur K B F H e σ → RRs K B F H e σ rs us → At K W R B ((M.dts rs).bind f) F e σ H Q →
    ∃ F' e' vs, Cur K B F' H e' σ ∧ Same F F' ∧ VRs K F' vs us ∧ At K W R B (f vs) F' e' σ H Q
  | _, _, f, F, e, C, .nil, q => ⟨F, e, [], C, Same.refl _, .nil, q⟩
  | _, _, f, F, e, C, .cons (r := r) (u := u) (rs := rs) (us := us) h d t, q => by
    unfold M.dts at q
    rw [M.bind_assoc] at q
    obtain ⟨F1, e1, v, C1, s1, h1, q, keep⟩ := At.dt C h q
    rw [M.bind_assoc] at q
    have t1 : RRs K B F1 H e1 σ rs us := by
      have go : ∀ {rs : List RV} {us : List V}, RRs K B F H e σ rs us → (∀ v, r = .tmp v → ∀ (j : Nat) w, rs[j]? = some (.tmp w) → us[j]? ≠ some u) → RRs K B F1 H e1 σ rs us := fun {rs us} z => by
        induction z with
        | nil => intro _; exact .nil
        | cons a b c ih =>
          intro d
          refine .cons (keep _ _ a fun v w e1 e2 e3 => d v e1 0 w (by rw [e2]; rfl) (by rw [e3]; rfl)) b (ih fun v e1 j w e2 => ?_)
          exact d v e1 (j + 1) w (by simpa using e2)
      exact go t d
    obtain ⟨F2, e2, vs, C2, s2, h2, q⟩ := At.dts C1 t1 q
    exact ⟨F2, e2, v :: vs, C2, s1.trans s2, .cons (h1.mono s2) h2, q⟩
end
end Pu
set_option Elab.async false
set_option linter.all false
set_option maxRecDepth 100000
namespace Pu
open PySem PySem.Spec PyProof.Rows L2
section
variable {K : PySem.W.Frag} {W : WX} {B : Bg} {F F' H H' : Hp} {e : Ev} {σ : Sig} {u : V}
theorem RdR.non (h : RdR K F H .non u) : u = .non := by
  rcases h with h | ⟨_, _, h⟩
  · cases h; rfl
  · exact h.elim
theorem RdR.bl {b : Bool} (h : RdR K F H (.bl b) u) : u = .bl b := by
  rcases h with h | ⟨_, _, h⟩
  · cases h; rfl
  · exact h.elim
theorem RdR.int {i : Int} (h : RdR K F H (.int i) u) : u = .int i := by
  rcases h with h | ⟨_, _, h⟩
  · cases h; rfl
  · exact h.elim
theorem RdR.str {x : Str} (h : RdR K F H (.str x) u) : u = .str x := by
  rcases h with h | ⟨_, _, h⟩
  · cases h; rfl
  · exact h.elim
theorem RdR.ty {n : String} (h : RdR K F H (.ty n) u) : u = .ty n := by
  rcases h with h | ⟨_, _, h⟩
  · cases h; rfl
  · exact h.elim
theorem RdR.glo {x : Str} (h : RdR K F H (.glo x) u) : u = .ref (He.ga K x) := by
  rcases h with h | ⟨_, _, h⟩
  · cases h; rfl
  · exact h.elim
theorem RdR.lst {xs : List Val} (s : Same F H) (h : RdR K F H (.lst xs) u) : ∃ a us, u = .ref a ∧ Rd H a (.lst us) ∧ VRs K F xs us := by
  rcases h with h | ⟨t, e, us, h1, h2⟩
  · cases h with
    | lst h1 h2 => exact ⟨_, _, rfl, rd_mono s h1, h2⟩
  · exact ⟨t, us, e, .inl h1, h2⟩
theorem RdR.tup {xs : List Val} (s : Same F H) (h : RdR K F H (.tup xs) u) : ∃ a us, u = .ref a ∧ SqT K H a us ∧ VRs K F xs us := by
  rcases h with h | ⟨_, _, h⟩
  · cases h with
    | tup h1 h2 => exact ⟨_, _, rfl, sqT_mono s h1, h2⟩
  · exact h.elim
theorem RdR.obj {C : Str} {fs : List Str} {vs : List Val} (s : Same F H) (h : RdR K F H (.obj C fs vs) u) : ∃ a dx us, u = .ref a ∧ H a = some (.ins (He.ga K C) dx (fs.zip us)) ∧ fs.length = us.length ∧ VRs K F vs us := by
  rcases h with h | ⟨t, e, dx, us, h1, h2, h3⟩
  · cases h with
    | obj h1 h2 h3 => exact ⟨_, _, _, rfl, s _ _ h1, h2, h3⟩
  · exact ⟨t, dx, us, e, h1, h2, h3⟩
theorem RdR.dct {ks : List Key} {vs : List Val} (s : Same F H) (h : RdR K F H (.dct ks vs) u) : ∃ a us, u = .ref a ∧ H a = some (.dK (ks.zip us)) ∧ ks.length = us.length ∧ VRs K F vs us := by
  rcases h with h | ⟨t, e, us, h1, h2, h3⟩
  · cases h with
    | dct h1 h2 h3 => exact ⟨_, _, rfl, s _ _ h1, h2, h3⟩
  · exact ⟨t, us, e, h1, h2, h3⟩
theorem At.ok {α β : Type} {R : Bg → Hp → Hp → Ev → Sig → α → β → Prop} {m : M α} {Q : β → Hp → Prop} {r : α} {e' : Ev} {x : β} (h : At K W R B m F e σ H Q) (hm : m e = .ok r e') (C : Cur K B F' H' e' σ) (q : R B F' H' e' σ r x) : Q x H' := by
  unfold At at h
  rw [hm] at h
  exact h F' H' x C q
end
def mVar (i : Nat) : M RV := fun e => match e[i]? with
  | some (.dat v) => .ok (.dat v) e
  | some (.own _) => .ok (.bor i) e
  | _ => .bad
def mV (v : Val) : M RV := M.ret (.dat v)
def mBin (f : Val → Val → M RV) (a b : M RV) : M RV := a.bind fun r => b.bind fun s => (M.rd r).bind fun v => (M.rd s).bind fun w => f v w
section
variable {X : Cx} {W : WX} {a b c : Expr} {ma mb mc : M RV} {pos : Pos} {f g : Val → Val → M RV} {r : R2}
def truV (v : Val) : M Bool := fun e => match v with
  | .bl b => .ok b e
  | .int i => .ok (i != 0) e
  | .non => .ok false e
  | .str x => if x.length ≤ sizeLine then .ok ((x.length : Int) != 0) e else .bad
  | .lst xs => .ok (!xs.isEmpty) e
  | .tup xs => .ok (!xs.isEmpty) e
  | _ => .bad
def mTru (m : M RV) : M Bool := m.bind fun r => (M.rd r).bind fun v => truV v
theorem VRs.empty {K : PySem.W.Frag} {F : Hp} {vs : List Val} {us : List V} (h : VRs K F vs us) : us.isEmpty = vs.isEmpty := by cases h <;> rfl
end
def mAnd (a b : M Bool) : M Bool := a.bind fun c => if c = true then b else M.ret false
def mOr (a b : M Bool) : M Bool := a.bind fun c => if c = true then M.ret true else b
def mNot (a : M Bool) : M Bool := a.bind fun c => M.ret (!c)
def mIfE (c : M Bool) (a b : M RV) : M RV := c.bind fun k => if k = true then a else b
def mAndV (a b : M RV) : M RV := a.bind fun r => (M.rd r).bind fun v => match v with
  | .bl c => if c = true then b else mV (.bl false)
  | _ => M.bad
def mOrV (a b : M RV) : M RV := a.bind fun r => (M.rd r).bind fun v => match v with
  | .bl c => if c = true then mV (.bl true) else b
  | _ => M.bad
def mNotV (a : M RV) : M RV := a.bind fun r => (M.rd r).bind fun v => match v with
  | .bl c => mV (.bl (!c))
  | _ => M.bad
def mNil : M (List RV) := M.ret []
def mCons (a : M RV) (r : M (List RV)) : M (List RV) := a.bind fun x => r.bind fun xs => M.ret (x :: xs)
def mTup (r : M (List RV)) : M RV := r.bind fun rs => (M.dts rs).bind fun vs => if vs.length ≤ sizeLine then M.ret (.dat (.tup vs)) else M.bad
def mLst (r : M (List RV)) : M RV := r.bind fun rs => (M.dts rs).bind fun vs => if vs.length ≤ sizeLine then M.ret (.tmp (.lst vs)) else M.bad
end Pu
set_option Elab.async false
set_option linter.all false
set_option maxRecDepth 100000
namespace Pu
open PySem PySem.Spec PyProof.Rows L2
def oI (g : Int → Int → Val) (x y : Val) : M RV := match x, y with
  | .int i, .int j => mV (g i j)
  | _, _ => M.bad
def oIC (c : Int → Int → Prop) [∀ i j, Decidable (c i j)] (g : Int → Int → Val) (x y : Val) : M RV := match x, y with
  | .int i, .int j => if c i j then mV (g i j) else M.bad
  | _, _ => M.bad
def cMul (i j : Int) : Prop := (-18446744073709551616 < i ∧ i < 18446744073709551616) ∨ (-18446744073709551616 < j ∧ j < 18446744073709551616) ∨ ((-1606938044258990275541962092341162602522202993782792835301376 < i ∧ i < 1606938044258990275541962092341162602522202993782792835301376) ∧ -1606938044258990275541962092341162602522202993782792835301376 < j ∧ j < 1606938044258990275541962092341162602522202993782792835301376)
def cDiv (_ j : Int) : Prop := 0 < j ∧ j < 1606938044258990275541962092341162602522202993782792835301376
def cMod (_ j : Int) : Prop := 0 < j
def cPow (i j : Int) : Prop := 0 ≤ j ∧ j ≤ 1000 ∧ -18446744073709551616 < i ∧ i < 18446744073709551616
instance : ∀ i j, Decidable (cMul i j) := fun i j => by unfold cMul; infer_instance
instance : ∀ i j, Decidable (cDiv i j) := fun i j => by unfold cDiv; infer_instance
instance : ∀ i j, Decidable (cMod i j) := fun i j => by unfold cMod; infer_instance
instance : ∀ i j, Decidable (cPow i j) := fun i j => by unfold cPow; infer_instance
section
variable {K : PySem.W.Frag} {W : WX}
def oSub := oI fun i j => .int (i - j)
def oMul := oIC cMul fun i j => .int (i * j)
def oDiv := oIC cDiv fun i j => .int (i / j)
def oMod := oIC cMod fun i j => .int (i % j)
def oPow := oIC cPow fun i j => .int (i ^ j.toNat)
def oLt := oI fun i j => .bl (decide (i < j))
def oLe := oI fun i j => .bl (decide (i ≤ j))
def oGt := oI fun i j => .bl (decide (j < i))
def oGe := oI fun i j => .bl (decide (j ≤ i))
def oAdd (x y : Val) : M RV := match x, y with
  | .int i, .int j => mV (.int (i + j))
  | .str a, .str b => if a.length + b.length ≤ sizeLine then mV (.str (a ++ b)) else M.bad
  | .lst a, .lst b => if a.length + b.length ≤ sizeLine then M.ret (.tmp (.lst (a ++ b))) else M.bad
  | .tup a, .tup b => if a.length + b.length ≤ sizeLine then mV (.tup (a ++ b)) else M.bad
  | _, _ => M.bad
theorem VRs.ne {F : Hp} {vs : List Val} {us : List V} (h : VRs K F vs us) : us = [] ↔ vs = [] := by cases h <;> simp
end
end Pu
set_option Elab.async false
set_option linter.all false
set_option maxRecDepth 100000
namespace Pu
open PySem PySem.Spec PyProof.Rows L2
mutual
def toP : Val → PyData
  | .non => .none
  | .bl b => .bool b
  | .int i => .int i
  | .str x => .str x
  | .tup xs => .tuple (toPs xs)
  | .lst xs => .list (toPs xs)
  | .ty _ => .none
  | .glo _ => .none
  | .obj _ _ _ => .none
  | .dct _ _ => .dict []
def toPs : List Val → List PyData
  | [] => []
  | x :: xs => toP x :: toPs xs
end
mutual
def isD : Val → Bool
  | .non => true
  | .bl _ => true
  | .int _ => true
  | .str x => PyData.strOk x
  | .tup xs => isDs xs
  | .lst xs => isDs xs
  | .ty _ => false
  | .glo _ => false
  | .obj _ _ _ => false
  | .dct _ _ => false
def isDs : List Val → Bool
  | [] => true
  | x :: xs => isD x && isDs xs
end
mutual
def dep : Val → Nat
  | .tup xs => deps xs + 1
  | .lst xs => deps xs + 1
  | .non => 0
  | .bl _ => 0
  | .int _ => 0
  | .str _ => 0
  | .ty _ => 0
  | .glo _ => 0
  | .obj _ _ _ => 0
  | .dct _ _ => 1
def deps : List Val → Nat
  | [] => 0
  | x :: xs => max (dep x) (deps xs)
end
section
variable {K : PySem.W.Frag} {W : WX} {B : Bg} {F H : Hp} {e : Ev} {σ : Sig}
def veq (x y : Val) : Bool := PyData.eqv (toP x) (toP y)
def dOk (v : Val) : Bool := isD v && decide (dep v ≤ 60)
def oEq (x y : Val) : M RV := match x, y with
  | .str a, .str b => mV (.bl (decide (a = b)))
  | x, y => if dOk x && dOk y then mV (.bl (veq x y)) else M.bad
def oNe (x y : Val) : M RV := match x, y with
  | .str a, .str b => mV (.bl (!decide (a = b)))
  | x, y => if dOk x && dOk y then mV (.bl (!veq x y)) else M.bad
def isNon : Val → Bool
  | .non => true
  | _ => false
def oIs (x y : Val) : M RV := if isNon y then mV (.bl (isNon x)) else M.bad
def oIsN (x y : Val) : M RV := if isNon y then mV (.bl (!isNon x)) else M.bad
def flat : Val → Bool
  | .non => true
  | .bl _ => true
  | .int _ => true
  | .str _ => true
  | _ => false
def inF (x : Val) (xs : List Val) : Bool := xs.any fun y => veq y x
def oInG (n : Bool) (x y : Val) : M RV := match y with
  | .lst xs => if flat x && xs.all flat then mV (.bl (if n then !inF x xs else inF x xs)) else M.bad
  | .tup xs => if flat x && xs.all flat then mV (.bl (if n then !inF x xs else inF x xs)) else M.bad
  | _ => M.bad
theorem RdR.flat {v : Val} {u : V} (h : RdR K F H v u) (f : Pu.flat v = true) : VR K F v u := by
  rcases h with h | ⟨t, e, h⟩
  · exact h
  · cases v with
    | lst xs => cases f
    | tup xs => cases f
    | obj _ _ _ => cases f
    | dct _ _ => cases f
    | ty _ => cases f
    | glo _ => cases f
    | non => exact h.elim
    | bl _ => exact h.elim
    | int _ => exact h.elim
    | str _ => exact h.elim
def oIx (x y : Val) : M RV := match x, y with
  | .lst xs, .int i => match atI xs i with
    | some v => mV v
    | none => M.bad
  | .tup xs, .int i => match atI xs i with
    | some v => mV v
    | none => M.bad
  | .str z, .int i => if z.length ≤ sizeLine then (match atI z.cps.toList i with
    | some c => mV (.str ⟨#[c]⟩)
    | none => M.bad) else M.bad
  | _, _ => M.bad
end
end Pu
set_option Elab.async false
set_option linter.all false
set_option maxRecDepth 100000
namespace Pu
open PySem PySem.Spec PyProof.Rows L2
def mCB (f : List Val → M RV) (ms : M (List RV)) : M RV := ms.bind fun rs => (M.rds rs).bind fun vs => f vs
def fLen (vs : List Val) : M RV := match vs with
  | [.lst xs] => mV (.int xs.length)
  | [.tup xs] => mV (.int xs.length)
  | [.str x] => if x.length ≤ sizeLine then mV (.int x.length) else M.bad
  | _ => M.bad
def fAbs (vs : List Val) : M RV := match vs with
  | [.int i] => mV (.int (if i < 0 then -i else i))
  | _ => M.bad
def fInt (vs : List Val) : M RV := match vs with
  | [.int i] => mV (.int i)
  | [.bl b] => mV (.int (if b then 1 else 0))
  | _ => M.bad
def fMax2 (vs : List Val) : M RV := match vs with
  | [.int i, .int j] => mV (.int (if j > i then j else i))
  | _ => M.bad
def fMin2 (vs : List Val) : M RV := match vs with
  | [.int i, .int j] => mV (.int (if j < i then j else i))
  | _ => M.bad
def ints? : List Val → Option (List Int)
  | [] => some []
  | .int i :: r => match ints? r with
    | some is => some (i :: is)
    | none => none
  | _ :: _ => none
def bls? : List Val → Option (List Bool)
  | [] => some []
  | .bl i :: r => match bls? r with
    | some is => some (i :: is)
    | none => none
  | _ :: _ => none
def fAll (vs : List Val) : M RV := match vs with
  | [.lst xs] => match bls? xs with
    | some bs => mV (.bl (bs.all id))
    | _ => M.bad
  | _ => M.bad
def fTup (vs : List Val) : M RV := match vs with
  | [.lst xs] => mV (.tup xs)
  | [.tup xs] => mV (.tup xs)
  | _ => M.bad
def fLst (vs : List Val) : M RV := match vs with
  | [.lst xs] => M.ret (.tmp (.lst xs))
  | [.tup xs] => M.ret (.tmp (.lst xs))
  | _ => M.bad
section
variable {K : PySem.W.Frag} {W : WX}
theorem RdRs.one {F H : Hp} {v : Val} {us : List V} (h : RdRs K F H [v] us) : ∃ u, us = [u] ∧ RdR K F H v u := by
  cases h with
  | cons a b => cases b; exact ⟨_, rfl, a⟩
end
end Pu
set_option Elab.async false
set_option linter.all false
set_option maxRecDepth 100000
namespace Pu
open PySem PySem.Spec PyProof.Rows L2
inductive Out where
  | nx | bk | ct | rt (r : RV)
abbrev S := M Out
def AtS (K : PySem.W.Frag) (W : WX) (B : Bg) (m : S) (F : Hp) (e : Ev) (σ : Sig) (H : Hp) (D : Ends) : Prop :=
  match m e with
  | .ok .nx e' => ∀ F' H' σ', Cur K B F' H' e' σ' → D.nx σ' H'
  | .ok .bk e' => ∀ F' H' σ', Cur K B F' H' e' σ' → D.bk σ' H'
  | .ok .ct e' => ∀ F' H' σ', Cur K B F' H' e' σ' → D.ct σ' H'
  | .ok (.rt r) e' => ∀ F' H' σ' u, Cur K B F' H' e' σ' → RR K B F' H' e' σ' r u → D.rt u H'
  | .rs x e' => ∀ F' H' σ' cls d, Cur K B F' H' e' σ' → XR K F' H' x cls d → W cls d σ' H'
  | .bad => False
section
variable {K : PySem.W.Frag} {W : WX} {α β : Type} {R1 : Bg → Hp → Hp → Ev → Sig → α → β → Prop} {B : Bg} {F F' H H' : Hp} {e e' : Ev} {σ σ' : Sig} {D : Ends}
theorem AtS.base {m : S} (C : Cur K B F H e σ) (h : AtS K W B m F e σ H D) : AtS K W (bg B.np F H e σ) m F e σ H D := by
  unfold AtS at h ⊢
  cases hm : m e with
  | bad => rw [hm] at h; exact h
  | rs x e' => rw [hm] at h; exact fun F' H' σ' cls d C' X' => h F' H' σ' cls d (C.trans C') X'
  | ok o e' =>
    rw [hm] at h
    cases o with
    | nx => exact fun F' H' σ' C' => h F' H' σ' (C.trans C')
    | bk => exact fun F' H' σ' C' => h F' H' σ' (C.trans C')
    | ct => exact fun F' H' σ' C' => h F' H' σ' (C.trans C')
    | rt r => exact fun F' H' σ' u C' r' => h F' H' σ' u (C.trans C') (r'.out C)
theorem AtS.rd {r : RV} {u : V} {f : Val → S} (R0 : Rel K F H e σ) (h : RR K B F H e σ r u) (q : AtS K W B ((M.rd r).bind f) F e σ H D) : ∃ v, RdR K F H v u ∧ AtS K W B (f v) F e σ H D := by
  cases z : Pu.rd r e with
  | none =>
    unfold AtS M.bind M.rd at q
    rw [z] at q
    exact q.elim
  | some v =>
    refine ⟨v, h.rd R0 z, ?_⟩
    unfold AtS M.bind M.rd at q
    rw [z] at q
    exact q
theorem AtS.dt {r : RV} {u : V} {f : Val → S} (C : Cur K B F H e σ) (h : RR K B F H e σ r u) (q : AtS K W B ((M.dt r).bind f) F e σ H D) :
    ∃ F' e' v, Cur K B F' H e' σ ∧ Same F F' ∧ VR K F' v u ∧ AtS K W B (f v) F' e' σ H D ∧
      (∀ r' u', RR K B F H e σ r' u' → (∀ v w, r = .tmp v → r' = .tmp w → u' ≠ u) → RR K B F' H e' σ r' u') := by
  cases z : M.dt r e with
  | rs x e' => exact (dt_some _ _ z).elim
  | bad =>
    unfold AtS M.bind at q
    rw [z] at q
    exact q.elim
  | ok v e' =>
    obtain ⟨F', C', s, r1, keep⟩ := dt_go C h z
    refine ⟨F', e', v, C', s, r1, ?_, keep⟩
    unfold AtS M.bind at q
    rw [z] at q
    exact q
end
end Pu
set_option Elab.async false
set_option linter.all false
set_option maxRecDepth 100000
namespace Pu
open PySem PySem.Spec PyProof.Rows L2
def mSeq (a b : S) : S := fun e => match a e with
  | .ok .nx e' => b e'
  | .ok .bk e' => .ok .bk e'
  | .ok .ct e' => .ok .ct e'
  | .ok (.rt r) e' => .ok (.rt r) e'
  | .rs x e' => .rs x e'
  | .bad => .bad
def mSkip : S := fun e => .ok .nx e
def mEx (m : M RV) : S := m.bind fun _ => mSkip
def mRet (m : M RV) : S := m.bind fun r => fun e => .ok (.rt r) e
def mCt : S := fun e => .ok .ct e
def mIf (c : M Bool) (a b : S) : S := c.bind fun k => if k = true then a else b
def stR (i : Nat) (r : RV) : S := match r with
  | .dat v => fun e => .ok .nx (e.set i (.dat v))
  | .tmp v => fun e => .ok .nx (e.set i (.own v))
  | .bor j => (M.dt (.bor j)).bind fun v => fun e => .ok .nx (e.set i (.dat v))
def mSet (i : Nat) (m : M RV) : S := m.bind (stR i)
section
variable {K : PySem.W.Frag} {W : WX} {B : Bg} {F F' H H' : Hp} {e e' : Ev} {σ σ' : Sig} {D : Ends}
theorem AtS.nx {m : S} (h : AtS K W B m F e σ H D) (hm : m e = .ok .nx e') (C : Cur K B F' H' e' σ') : D.nx σ' H' := by
  unfold AtS at h
  rw [hm] at h
  exact h F' H' σ' C
theorem AtS.rt {m : S} {r : RV} {u : V} (h : AtS K W B m F e σ H D) (hm : m e = .ok (.rt r) e') (C : Cur K B F' H' e' σ') (q : RR K B F' H' e' σ' r u) : D.rt u H' := by
  unfold AtS at h
  rw [hm] at h
  exact h F' H' σ' u C q
end
def Upd (ws : List Nat) (σ σ' : Sig) : Prop := σ'.length = σ.length ∧ ∀ i, i ∉ ws → σ'[i]? = σ[i]?
theorem Upd.refl {ws : List Nat} {σ : Sig} : Upd ws σ σ := ⟨rfl, fun _ _ => rfl⟩
theorem Upd.trans {ws : List Nat} {σ σ1 σ2 : Sig} (a : Upd ws σ σ1) (b : Upd ws σ1 σ2) : Upd ws σ σ2 := ⟨b.1.trans a.1, fun i h => (b.2 i h).trans (a.2 i h)⟩
theorem Upd.set {ws : List Nat} {σ : Sig} {i : Nat} {o : Option V} (h : i ∈ ws) : Upd ws σ (σ.set i o) := ⟨List.length_set, fun j hj => List.getElem?_set_ne (fun z => hj (by rw [← z]; exact h))⟩
theorem Upd.mono {ws ws' : List Nat} {σ σ' : Sig} (h : ∀ i ∈ ws, i ∈ ws') (a : Upd ws σ σ') : Upd ws' σ σ' := ⟨a.1, fun i q => a.2 i fun z => q (h i z)⟩
def AtG (K : PySem.W.Frag) (W : WX) (ws : List Nat) (B : Bg) (m : M Unit) (e : Ev) (σ : Sig) (Q : Sig → Hp → Prop) : Prop :=
  match m e with
  | .ok _ e' => ∀ F' H' σ', Cur K B F' H' e' σ' → Upd ws σ σ' → Q σ' H'
  | .rs x e' => ∀ F' H' σ' cls d, Cur K B F' H' e' σ' → XR K F' H' x cls d → W cls d σ' H'
  | .bad => False
def gN (i : Nat) (v : Val) : M Unit := fun e => .ok () (e.set i (.dat v))
def gsN : List Val → M Unit
  | [] => M.ret ()
  | _ => M.bad
def gsC (m : Val → M Unit) (ms : List Val → M Unit) : List Val → M Unit
  | [] => M.bad
  | v :: vs => (m v).bind fun _ => ms vs
def gT (n : Nat) (ms : List Val → M Unit) (v : Val) : M Unit := match v with
  | .tup xs => if xs.length = n then ms xs else M.bad
  | .lst xs => if xs.length = n then ms xs else M.bad
  | _ => M.bad
section
variable {K : PySem.W.Frag} {W : WX} {ws : List Nat} {B : Bg} {F F' H H' : Hp} {e e' : Ev} {σ σ' : Sig}
theorem AtG.go {m : M Unit} {Q : Sig → Hp → Prop} (h : AtG K W ws B m e σ Q) (hm : m e = .ok () e') (C : Cur K B F' H' e' σ') (u : Upd ws σ σ') : Q σ' H' := by
  unfold AtG at h
  rw [hm] at h
  exact h F' H' σ' C u
end
section
variable {X : Cx} {W : WX} {ws : List Nat} {np k : Nat} {x : Expr} {es : List Expr} {mg : Val → M Unit} {ms : List Val → M Unit} {pos : Pos} {m : M RV}
def mAsg (mg : Val → M Unit) (m : M RV) : S := m.bind fun r => (M.dt r).bind fun v => (mg v).bind fun _ => mSkip
end
def loopS (mt : Val → M Unit) (mb : S) : List Val → S
  | [] => mSkip
  | v :: r => fun e => match mt v e with
    | .ok _ e1 => match mb e1 with
      | .ok .nx e2 => loopS mt mb r e2
      | .ok .ct e2 => loopS mt mb r e2
      | .ok .bk e2 => .ok .nx e2
      | .ok (.rt x) e2 => .ok (.rt x) e2
      | .rs x e2 => .rs x e2
      | .bad => .bad
    | .rs x e1 => .rs x e1
    | .bad => .bad
def mFor (mi : M (List Val)) (mt : Val → M Unit) (mb : S) : S := mi.bind fun vs => loopS mt mb vs
end Pu
set_option Elab.async false
set_option linter.all false
set_option maxRecDepth 100000
namespace Pu
open PySem PySem.Spec PyProof.Rows L2
def itemsV (v : Val) : M (List Val) := match v with
  | .lst xs => M.ret xs
  | .tup xs => M.ret xs
  | _ => M.bad
def mItems (m : M RV) : M (List Val) := m.bind fun r => (M.dt r).bind itemsV
def rangeV (lo hi : Int) : List Val := (List.range (hi - lo).toNat).map fun i => .int (lo + (i : Nat))
def mRng1 (m : M RV) : M (List Val) := m.bind fun r => (M.rd r).bind fun v => match v with
  | .int j => if -4611686018427387904 ≤ j ∧ j < 4611686018427387904 then M.ret (rangeV 0 j) else M.bad
  | _ => M.bad
def mRng2 (a b : M RV) : M (List Val) := a.bind fun r => b.bind fun s => (M.rd r).bind fun v => (M.rd s).bind fun w => match v, w with
  | .int i, .int j => if -4611686018427387904 ≤ i ∧ i < 4611686018427387904 ∧ -4611686018427387904 ≤ j ∧ j < 4611686018427387904 then M.ret (rangeV i j) else M.bad
  | _, _ => M.bad
end Pu
set_option Elab.async false
set_option linter.all false
set_option maxRecDepth 100000
namespace Pu
open PySem PySem.Spec PyProof.Rows L2
def wipeE (e : Ev) : List Nat → Ev
  | [] => e
  | v :: vs => (wipeE e vs).set v .un
def compS (ws : List Nat) (mt : Val → M Unit) (mc : M Bool) (me : M RV) : List Val → List Val → M (List Val)
  | [], acc => M.ret acc
  | v :: r, acc => fun e => match mt v e with
    | .ok _ e1 => match mc e1 with
      | .ok true e2 => match me e2 with
        | .ok x e3 => match M.dt x e3 with
          | .ok w e4 => if acc.length < sizeLine then compS ws mt mc me r (acc ++ [w]) (wipeE e4 ws) else .bad
          | _ => .bad
        | _ => .bad
      | .ok false e2 => compS ws mt mc me r acc (wipeE e2 ws)
      | _ => .bad
    | _ => .bad
def mComp (ws : List Nat) (mi : M (List Val)) (mt : Val → M Unit) (mc : M Bool) (me : M RV) : M RV := mi.bind fun vs => fun e => match compS ws mt mc me vs [] (wipeE e ws) with
  | .ok acc e1 => .ok (.tmp (.lst acc)) e1
  | .rs x e1 => .rs x e1
  | .bad => .bad
def mYes : M Bool := M.ret true
end Pu
set_option Elab.async false
set_option linter.all false
set_option maxRecDepth 100000
namespace Pu
open PySem PySem.Spec PyProof.Rows L2
def outE : Ev → Ev
  | [] => []
  | .own v :: r => .own v :: outE r
  | .un :: r => .un :: outE r
  | .dat _ :: r => .un :: outE r
def retV (n : Nat) (r : RV) (e : Ev) : Res RV := match r with
  | .dat v => .ok (.dat v) (outE (e.take n))
  | .tmp v => .ok (.tmp v) (outE (e.take n))
  | .bor i => match e[i]? with
    | some (.own v) => .ok (.tmp v) (outE ((e.set i .un).take n))
    | some (.dat v) => .ok (.dat v) (outE (e.take n))
    | _ => .bad
def fnDen (n nn : Nat) (body : S) : M RV := fun e => if e.length = n then (match body (e ++ List.replicate (nn - n) Slot.un) with
  | .ok .nx e' => .ok (.dat .non) (outE (e'.take n))
  | .ok (.rt r) e' => retV n r e'
  | .rs x e' => .rs x (outE (e'.take n))
  | _ => .bad) else .bad
def spG (K : PySem.W.Frag) (n : Nat) (f : M RV) : Sp := fun vs H Q E => vs.length = n ∧ tM K (fun c d _ H => E c d H) (RR K) f (vs.map some) H Q
end Pu
set_option Elab.async false
set_option linter.all false
set_option maxRecDepth 100000
namespace Pu
open PySem PySem.Spec PyProof.Rows L2
def argsE : List Bool → List RV → Ev → Option (Ev × Ev)
  | [], [], e => some ([], e)
  | false :: ms, r :: rs, e => match M.dt r e with
    | .ok v e' => match argsE ms rs e' with
      | some (p, e2) => some (.dat v :: p, e2)
      | none => none
    | _ => none
  | true :: ms, .dat v :: rs, e => match argsE ms rs e with
    | some (p, e2) => some (.dat v :: p, e2)
    | none => none
  | true :: ms, .tmp v :: rs, e => match argsE ms rs e with
    | some (p, e2) => some (.own v :: p, e2)
    | none => none
  | true :: ms, .bor i :: rs, e => match e[i]? with
    | some (.own v) => match argsE ms rs (e.set i .un) with
      | some (p, e2) => some (.own v :: p, e2)
      | none => none
    | _ => none
  | _, _, _ => none
def backE : List Bool → List RV → Ev → Ev → Ev
  | true :: ms, .bor i :: rs, .own v :: p, e => backE ms rs p (e.set i (.own v))
  | _ :: ms, _ :: rs, _ :: p, e => backE ms rs p e
  | _, _, _, e => e
section
variable {K : PySem.W.Frag} {W : WX} {B : Bg} {H : Hp} {σ : Sig}
theorem RRs.tail_keep {F F1 : Hp} {e e1 : Ev} {r : RV} {u : V} (keep : ∀ r' u', RR K B F H e σ r' u' → (∀ v w, r = .tmp v → r' = .tmp w → u' ≠ u) → RR K B F1 H e1 σ r' u') :
    ∀ {rs : List RV} {us : List V}, RRs K B F H e σ rs us → (∀ v, r = .tmp v → ∀ (j : Nat) w, rs[j]? = some (.tmp w) → us[j]? ≠ some u) → RRs K B F1 H e1 σ rs us := fun {rs us} z => by
  induction z with
  | nil => intro _; exact .nil
  | cons a b c ih =>
    intro d
    refine .cons (keep _ _ a fun v w e1 e2 e3 => d v e1 0 w (by rw [e2]; rfl) (by rw [e3]; rfl)) b (ih fun v e1 j w e2 => ?_)
    exact d v e1 (j + 1) w (by simpa using e2)
end
def runF (ms : List Bool) (f : M RV) (rs : List RV) : M RV := fun e => match argsE ms rs e with
  | some (p, e1) => match f p with
    | .ok (.dat v) p' => .ok (.dat v) (backE ms rs p' e1)
    | .ok (.tmp v) p' => .ok (.tmp v) (backE ms rs p' e1)
    | .ok (.bor _) _ => .bad
    | .rs x p' => .rs x (backE ms rs p' e1)
    | .bad => .bad
  | none => .bad
end Pu
set_option Elab.async false
set_option linter.all false
set_option maxRecDepth 100000
namespace Pu
open PySem PySem.Spec PyProof.Rows L2
def VC (K : PySem.W.Frag) (ds : List Val) (dvs : List V) : Prop := ∀ F, VRs K F ds dvs
theorem VC.nil {K : PySem.W.Frag} : VC K [] [] := fun _ => .nil
def mCall (ms : List Bool) (f : M RV) (as : M (List RV)) (ds : List Val) : M RV := as.bind fun rs => runF ms f (rs ++ ds.map .dat)
section
variable {K : PySem.W.Frag} {W : WX} {B : Bg} {F H : Hp} {σ : Sig} {e : Ev}
theorem RRs.length {rs : List RV} {us : List V} (h : RRs K B F H e σ rs us) : rs.length = us.length := by
  induction h with
  | nil => rfl
  | cons _ _ _ i => simp [i]
end
section
variable {X : Cx} {W : WX} {k n : Nat} {f C : Addr} {fd : FuncData} {ps : List Str} {x m : Str} {p pos apos : Pos} {e o : Expr} {es : List Expr} {mf mo : M RV} {mr : M (List RV)} {dvs : List V} {ds : List Value} {dl : List Val}
def runMk (C : Str) (ms : List Bool) (f : M RV) (rs : List RV) : M RV := fun e => match argsE (true :: ms) (.tmp (.obj C [] []) :: rs) e with
  | some (p, e1) => match f p with
    | .ok (.dat .non) p' => match p'[0]? with
      | some (Slot.own v) => .ok (.tmp v) (backE (true :: ms) (.tmp (.obj C [] []) :: rs) p' e1)
      | _ => .bad
    | .ok _ _ => .bad
    | .rs x p' => .rs x (backE (true :: ms) (.tmp (.obj C [] []) :: rs) p' e1)
    | .bad => .bad
  | none => .bad
def mMake (C : Str) (ms : List Bool) (f : M RV) (as : M (List RV)) (ds : List Val) : M RV := as.bind fun rs => runMk C ms f (rs ++ ds.map .dat)
end
end Pu
set_option Elab.async false
set_option linter.all false
set_option maxRecDepth 100000
namespace Pu
open PySem PySem.Spec PyProof.Rows L2
section
variable {K : PySem.W.Frag} {W : WX} {α β : Type} {R1 : Bg → Hp → Hp → Ev → Sig → α → β → Prop} {B : Bg} {F F' H H' : Hp} {e e' : Ev} {σ σ' : Sig} {ws : List Nat}
theorem AtG.rd {r : RV} {u : V} {f : Val → M Unit} {Q : Sig → Hp → Prop} (R0 : Rel K F H e σ) (h : RR K B F H e σ r u) (q : AtG K W ws B ((M.rd r).bind f) e σ Q) : ∃ v, RdR K F H v u ∧ AtG K W ws B (f v) e σ Q := by
  cases z : Pu.rd r e with
  | none =>
    unfold AtG M.bind M.rd at q
    rw [z] at q
    exact q.elim
  | some v =>
    refine ⟨v, h.rd R0 z, ?_⟩
    unfold AtG M.bind M.rd at q
    rw [z] at q
    exact q
end
def mApp (mo ma : M RV) : M RV := mo.bind fun r => (M.rd r).bind fun v0 => match r, v0 with
  | .bor i, .lst _ => ma.bind fun s => (M.dt s).bind fun v => fun e => match e[i]? with
    | some (Slot.own (.lst xs)) => if xs.length < sizeLine then .ok (.dat .non) (e.set i (.own (.lst (xs ++ [v])))) else .bad
    | _ => .bad
  | _, _ => M.bad
def gSb (mo mi : M RV) (v : Val) : M Unit := mo.bind fun r => mi.bind fun s => (M.rd s).bind fun k => match r, k with
  | .bor j, .int k => fun e => match e[j]? with
    | some (Slot.own (.lst xs)) => match ixN xs.length k with
      | some n => .ok () (e.set j (.own (.lst (xs.set n v))))
      | none => .bad
    | _ => .bad
  | _, _ => M.bad
def lookV (f : Str) : List Str → List Val → Option Val
  | g :: fs, v :: vs => if g = f then some v else lookV f fs vs
  | _, _ => none
def mGet (C f : Str) (mo : M RV) : M RV := mo.bind fun r => (M.rd r).bind fun v => match v with
  | .obj C' fs vs => if C' = C then (match lookV f fs vs with
    | some w => mV w
    | none => M.bad) else M.bad
  | _ => M.bad
def noRs {α : Type} (m : M α) : M α := fun e => match m e with
  | .ok a e' => .ok a e'
  | _ => .bad
def mProp (C : Str) (f : M RV) (mo : M RV) : M RV := mo.bind fun r => (M.rd r).bind fun v => match v with
  | .obj C' _ _ => if C' = C then noRs (runF [true] f [r]) else M.bad
  | _ => M.bad
def putFs (f : Str) : List Str → List Str
  | [] => [f]
  | g :: fs => if g = f then g :: fs else g :: putFs f fs
def putVs (f : Str) (v : Val) : List Str → List Val → List Val
  | g :: fs, x :: vs => if g = f then v :: vs else x :: putVs f v fs vs
  | _, _ => [v]
def mPut (C f : Str) (mo mv : M RV) : S := mv.bind fun r0 => (M.dt r0).bind fun v => mo.bind fun r => match r with
  | .bor i => fun e => match e[i]? with
    | some (Slot.own (.obj C' fs vs)) => if C' = C ∧ fs.length < 1000 then .ok .nx (e.set i (.own (.obj C (putFs f fs) (putVs f v fs vs)))) else .bad
    | _ => .bad
  | _ => M.bad
end Pu
set_option Elab.async false
set_option linter.all false
set_option maxRecDepth 100000
namespace Pu
open PySem PySem.Spec PyProof.Rows L2
def sel {α : Type} : List Nat → List α → List α
  | [], _ => []
  | i :: g, xs => match xs[i]? with
    | some a => a :: sel g xs
    | none => sel g xs
section
variable {K : PySem.W.Frag} {W : WX} {B : Bg} {F H : Hp} {σ : Sig} {e : Ev}
theorem sel_rel {α β : Type} {xs : List α} {ys : List β} (hl : xs.length = ys.length) : ∀ {g : List Nat} {j : Nat} {a : α}, (sel g xs)[j]? = some a → ∃ i ∈ g, xs[i]? = some a ∧ (sel g ys)[j]? = ys[i]?
  | [], j, a, h => by simp [sel] at h
  | i :: g, j, a, h => by
    unfold sel at h ⊢
    cases hx : xs[i]? with
    | none =>
      have hy : ys[i]? = none := List.getElem?_eq_none (by rw [← hl]; exact List.getElem?_eq_none_iff.mp hx)
      simp only [hx] at h
      simp only [hy]
      obtain ⟨i', h1, h2, h3⟩ := sel_rel hl h
      exact ⟨i', List.mem_cons_of_mem _ h1, h2, h3⟩
    | some b =>
      have il : i < ys.length := by rw [← hl]; exact (List.getElem?_eq_some_iff.mp hx).1
      have hy : ys[i]? = some ys[i] := List.getElem?_eq_getElem il
      simp only [hx] at h
      simp only [hy]
      cases j with
      | zero => exact ⟨i, List.mem_cons_self .., by rw [hx]; simpa using h, by rw [hy]; rfl⟩
      | succ j =>
        obtain ⟨i', h1, h2, h3⟩ := sel_rel hl (j := j) (by simpa using h)
        exact ⟨i', List.mem_cons_of_mem _ h1, h2, by simpa using h3⟩
theorem RRs.pair {rs : List RV} {us : List V} (h : RRs K B F H e σ rs us) : ∀ {i j : Nat} {v w : Val} {u : V}, i ≠ j → rs[i]? = some (.tmp v) → rs[j]? = some (.tmp w) → us[i]? = some u → us[j]? ≠ some u := by
  induction h with
  | nil => intro i j v w u _ h; simp at h
  | cons r d t ih =>
    intro i j v w u ne h1 h2 h3 h4
    cases i with
    | zero => cases j with
      | zero => exact ne rfl
      | succ j =>
        simp at h1 h3
        exact d v h1 j w (by simpa using h2) (by rw [h3]; simpa using h4)
    | succ i => cases j with
      | zero =>
        simp at h2 h4
        exact d w h2 i v (by simpa using h1) (by rw [h4]; simpa using h3)
      | succ j => exact ih (fun z => ne (congrArg Nat.succ z)) (by simpa using h1) (by simpa using h2) (by simpa using h3) (by simpa using h4)
theorem RRs.get {rs : List RV} {us : List V} (h : RRs K B F H e σ rs us) : ∀ {i : Nat} {r : RV} {u : V}, rs[i]? = some r → us[i]? = some u → RR K B F H e σ r u := by
  induction h with
  | nil => intro i r u a; simp at a
  | cons r d t ih =>
    intro i r' u a b
    cases i with
    | zero => simp at a b; subst a b; exact r
    | succ i => exact ih (by simpa using a) (by simpa using b)
theorem RRs.sel {rs : List RV} {us : List V} (h : RRs K B F H e σ rs us) : ∀ {g : List Nat}, g.Nodup → RRs K B F H e σ (Pu.sel g rs) (Pu.sel g us)
  | [], _ => .nil
  | i :: g, nd => by
    have hl := h.length
    obtain ⟨n1, n2⟩ := List.nodup_cons.mp nd
    unfold Pu.sel
    cases hx : rs[i]? with
    | none =>
      have hy : us[i]? = none := List.getElem?_eq_none (by rw [← hl]; exact List.getElem?_eq_none_iff.mp hx)
      simp only [hy]
      exact RRs.sel h n2
    | some r =>
      have il : i < us.length := by rw [← hl]; exact (List.getElem?_eq_some_iff.mp hx).1
      have hy : us[i]? = some us[i] := List.getElem?_eq_getElem il
      simp only [hy]
      refine .cons (h.get hx hy) (fun v z j w z2 z3 => ?_) (RRs.sel h n2)
      obtain ⟨i', m1, m2, m3⟩ := sel_rel hl z2
      rw [m3] at z3
      exact h.pair (fun z => n1 (by rw [z]; exact m1)) (by rw [hx, z]) m2 hy z3
end
def mCallK (ms : List Bool) (f : M RV) (as ks : M (List RV)) (n m : Nat) (g : List Nat) : M RV := as.bind fun rs => ks.bind fun zs => if rs.length = n ∧ zs.length = m then runF ms f (sel g (rs ++ zs)) else M.bad
end Pu
set_option Elab.async false
set_option linter.all false
set_option maxRecDepth 100000
namespace Pu
open PySem PySem.Spec PyProof.Rows L2
def mNeg (a : M RV) : M RV := a.bind fun r => (M.rd r).bind fun v => match v with
  | .int i => mV (.int (-i))
  | _ => M.bad
def mChain (f g : Val → Val → M RV) (a b c : M RV) : M RV := a.bind fun r => b.bind fun s => (M.rd r).bind fun v => (M.rd s).bind fun w => (f v w).bind fun z => (M.rd z).bind fun k => match k with
  | .bl true => c.bind fun t => (M.rd s).bind fun w' => (M.rd t).bind fun x => g w' x
  | .bl false => mV (.bl false)
  | _ => M.bad
def cutA {α : Type} (xs : List α) (lo hi : Option Int) : List α := (xs.drop (HT.sIx xs.length 0 lo)).take (HT.sIx xs.length xs.length hi - HT.sIx xs.length 0 lo)
def mNoP : M (Option Int) := M.ret none
def mPt (a : M RV) : M (Option Int) := a.bind fun r => (M.rd r).bind fun v => match v with
  | .int i => M.ret (some i)
  | _ => M.bad
def slV (v : Val) (lo hi : Option Int) : M RV := match v with
  | .lst xs => M.ret (.tmp (.lst (cutA xs lo hi)))
  | .tup xs => M.ret (.dat (.tup (cutA xs lo hi)))
  | .str z => if z.length ≤ sizeLine then M.ret (.dat (.str (cutS z lo hi))) else M.bad
  | _ => M.bad
def mSl (a : M RV) (lo hi : M (Option Int)) : M RV := a.bind fun r => lo.bind fun l => hi.bind fun u => (M.rd r).bind fun v => slV v l u
end Pu
set_option Elab.async false
set_option linter.all false
set_option maxRecDepth 100000
namespace Pu
open PySem PySem.Spec PyProof.Rows L2
def noBor : List RV → Bool
  | [] => true
  | .bor _ :: _ => false
  | _ :: rs => noBor rs
def slotOf : RV → Slot
  | .dat v => .dat v
  | .tmp v => .own v
  | .bor _ => .un
def setsE : List Nat → List RV → Ev → Ev
  | i :: is, r :: rs, e => setsE is rs (e.set i (slotOf r))
  | _, _, e => e
def mPar (p : Bool) (is : List Nat) (as : M (List RV)) : S := as.bind fun rs => if rs.length = is.length then (if noBor rs = true ∧ p = false then fun e => .ok .nx (setsE is rs e) else (M.dts rs).bind fun vs => fun e => .ok .nx (setsE is (vs.map .dat) e)) else M.bad
section
variable {K : PySem.W.Frag} {W : WX} {B : Bg} {F H : Hp} {D : Ends}
theorem AtS.dts : ∀ {rs : List RV} {us : List V} {f : List Val → S} {F : Hp} {e : Ev} {σ : Sig}, Cur K B F H e σ → RRs K B F H e σ rs us → AtS K W B ((M.dts rs).bind f) F e σ H D →
    ∃ F' e' vs, Cur K B F' H e' σ ∧ Same F F' ∧ VRs K F' vs us ∧ AtS K W B (f vs) F' e' σ H D
  | _, _, f, F, e, σ, C, .nil, q => ⟨F, e, [], C, Same.refl _, .nil, q⟩
  | _, _, f, F, e, σ, C, .cons (r := r) (u := u) (rs := rs) (us := us) h d t, q => by
    unfold M.dts at q
    rw [M.bind_assoc] at q
    obtain ⟨F1, e1, v, C1, s1, h1, q, keep⟩ := AtS.dt C h q
    rw [M.bind_assoc] at q
    obtain ⟨F2, e2, vs, C2, s2, h2, q⟩ := AtS.dts C1 (RRs.tail_keep keep t d) q
    exact ⟨F2, e2, v :: vs, C2, s1.trans s2, .cons (h1.mono s2) h2, q⟩
end
abbrev Tg := String ⊕ Str
def tagV : Val → Option Tg
  | .non => some (.inl "NoneType")
  | .bl _ => some (.inl "bool")
  | .int _ => some (.inl "int")
  | .str _ => some (.inl "str")
  | .lst _ => some (.inl "list")
  | .tup _ => some (.inl "tuple")
  | .obj C _ _ => some (.inr C)
  | .dct _ _ => some (.inl "dict")
  | _ => none
def tagC : Val → Option Tg
  | .ty n => some (.inl n)
  | .glo C => some (.inr C)
  | _ => none
def tagT (K : PySem.W.Frag) : Tg → Value
  | .inl n => .type n
  | .inr C => .ref (He.ga K C)
def fIsi (T : List (Tg × Tg × Bool)) (vs : List Val) : M RV := match vs with
  | [v, c] => match tagV v, tagC c with
    | some a, some b => match T.find? fun e => decide (e.1 = a ∧ e.2.1 = b) with
      | some e => mV (.bl e.2.2)
      | none => M.bad
    | _, _ => M.bad
  | _ => M.bad
end Pu
set_option Elab.async false
set_option linter.all false
set_option maxRecDepth 100000
set_option maxHeartbeats 2000000
namespace Pu
open PySem PySem.Spec PyProof.Rows L2
def TabOne (K : PySem.W.Frag) : Prop := ∀ p ∈ tabs3 K, ∀ q ∈ tabs3 K, p.2.1 = q.2.1 → p.2.2 = q.2.2
structure TabsE (K : PySem.W.Frag) (h : Heap) : Prop where
  hd : ∀ p ∈ tabs3 K, PySem.W.codeHdIn K p.1 p.2.1 = true
  out : ∀ p ∈ tabs3 K, K.lookup p.2.1 = none
  empty : ∀ p ∈ tabs3 K, h.get? p.2.1 = some { cls := .none, data := .fields #[] }
  one : TabOne K
inductive Fy where
  | prop (C f : Str)
  | isi (C : Str)
  | kit (a b : Tg) (r : Bool)
  | tup (x : Str) (vs : List He.Dv)
  | gen (f : PySem.W.Frag → Bool)
def gA (K : PySem.W.Frag) (C f : Str) : Addr := match PySem.W.recIn K (He.ma K (He.ga K C) f) "property" with
  | some (.ref g :: _) => g
  | _ => 0
def Fy.ok (K : PySem.W.Frag) : Fy → Bool
  | .prop C f => He.eqO (PySem.W.findIn K (.ref (He.ga K C)) f) (some (some (.ref (He.ma K (He.ga K C) f)))) && (He.eqO (PySem.W.specialIn K (.ref (He.ma K (He.ga K C) f)) "__get__") (some (some (.builtin "property.__get__"))) && (decide (PySem.W.takesIn K (.ref (He.ma K (He.ga K C) f)) = some true) &&
      match PySem.W.recIn K (He.ma K (He.ga K C) f) "property" with
      | some (.ref _ :: _) => true
      | _ => false))
  | .isi C => He.eqO (PySem.W.findIn K (.ref (He.ga K C)) "__class__") (some (some (.builtin "object.__class__"))) && (He.eqO (PySem.W.specialIn K (.builtin "object.__class__") "__get__") (some (some (.builtin "getset_descriptor.__get__"))) &&
      (decide (PySem.W.takesIn K (.builtin "object.__class__") = some true) && (decide (PySem.W.mroIn K (He.ga K C) (.type "object") = some true) && (He.Fa.cls C).ok K)))
  | .kit a b r => decide (PySem.W.kitOne K (tagT K a) (tagT K b) = some r)
  | .tup x vs => He.tupB K x vs
  | .gen f => f K
def noLists (K : PySem.W.Frag) : Bool := K.all fun q => match q.2.cls with
  | .type c => c != "list"
  | _ => true
def seenT : Nat → List (Addr × Addr × Str) → Bool
  | _, [] => true
  | bs, p :: r => !(bs.testBit p.2.1) && seenT (bs ||| (1 <<< p.2.1)) r
theorem seenT_ok : ∀ {l : List (Addr × Addr × Str)} {bs : Nat}, seenT bs l = true → (∀ p ∈ l, bs.testBit p.2.1 = false) ∧ ∀ p ∈ l, ∀ q ∈ l, p.2.1 = q.2.1 → p = q
  | [], bs, _ => ⟨fun p hp => absurd hp List.not_mem_nil, fun p hp => absurd hp List.not_mem_nil⟩
  | a :: r, bs, h => by
    unfold seenT at h
    rw [Bool.and_eq_true, Bool.not_eq_true'] at h
    obtain ⟨i1, i2⟩ := seenT_ok h.2
    have no : ∀ q ∈ r, bs.testBit q.2.1 = false ∧ q.2.1 ≠ a.2.1 := fun q hq => by
      have z := i1 q hq
      rw [Nat.testBit_or, Bool.or_eq_false_iff] at z
      refine ⟨z.1, fun e => ?_⟩
      have z2 := z.2
      rw [e, Nat.testBit_shiftLeft] at z2
      simp at z2
    refine ⟨fun p hp => ?_, fun p hp q hq e => ?_⟩
    · rcases List.mem_cons.mp hp with e1 | p1
      · rw [e1]; exact h.1
      · exact (no p p1).1
    · rcases List.mem_cons.mp hp with e1 | p1
      · rcases List.mem_cons.mp hq with e2 | q1
        · rw [e1, e2]
        · rw [e1] at e; exact absurd e.symm (no q q1).2
      · rcases List.mem_cons.mp hq with e2 | q1
        · rw [e2] at e; exact absurd e (no p p1).2
        · exact i2 p p1 q q1 e
def tabsChk (g : Addr → Option Obj) (K : PySem.W.Frag) : Bool := ((tabs3 K).all fun p => PySem.W.codeHdIn K p.1 p.2.1 && (match g p.2.1 with
  | some o => He.emptyTab o
  | none => false)) && seenT 0 (tabs3 K)
theorem tabsChk_ok {as : List Addr} {h : Heap} (c : tabsChk h.get? (He.frT h.get? as) = true) : TabsE (He.frT h.get? as) h := by
  unfold tabsChk at c
  obtain ⟨c1, c2⟩ := Bool.and_eq_true_iff.mp c
  have key : ∀ p ∈ tabs3 (He.frT h.get? as), PySem.W.codeHdIn (He.frT h.get? as) p.1 p.2.1 = true ∧ ∃ o, h.get? p.2.1 = some o ∧ He.emptyTab o = true := fun p hp => by
    obtain ⟨h3, h4⟩ := Bool.and_eq_true_iff.mp (List.all_eq_true.mp c1 p hp)
    refine ⟨h3, ?_⟩
    cases q : h.get? p.2.1 with
    | none => rw [q] at h4; cases h4
    | some o => rw [q] at h4; exact ⟨o, rfl, h4⟩
  refine ⟨fun p hp => (key p hp).1, fun p hp => ?_, fun p hp => ?_, fun p hp q hq e => ?_⟩
  · obtain ⟨_, o, q, z⟩ := key p hp
    exact He.frT_none q z
  · obtain ⟨_, o, q, z⟩ := key p hp
    rw [q, He.emptyTab_eq z]
  · rw [(seenT_ok c2).2 p hp q hq e]
abbrev AlP : Type := He.AlD × Bool
def frP (n : Nat) (g : Addr → Option Obj) : PySem.W.Frag := He.frT g (He5.asA g n)
def obsP (n : Nat) (fa : List He.Fa) (fn : List He5.DefA) (fy : List Fy) (g : Addr → Option Obj) : AlP := (He5.obsA fa fn (frP n g), (fy.all fun f => f.ok (frP n g)) && (noLists (frP n g) && tabsChk g (frP n g)))
structure SaysP (fa : List He.Fa) (fn : List He5.DefA) (fy : List Fy) (K : PySem.W.Frag) : Prop where
  a : He5.SaysA fa fn K
  y : ∀ f ∈ fy, f.ok K = true
  nl : noLists K = true
def hookP (n : Nat) (fa : List He.Fa) (fn : List He5.DefA) (fy : List Fy) : PySem.W.Hook where
  α := AlP
  obs := fun s => obsP n fa fn fy s.heap.get?
  val := fun _ => (He5.valA fn, true)
  says := fun _ h => ∃ K : PySem.W.Frag, K.In h ∧ SaysP fa fn fy K ∧ TabsE K h
  of := fun _ h e => by
    have e1 := congrArg (fun z : AlP => z.1) e
    have e2 := Bool.and_eq_true_iff.mp (congrArg (fun z : AlP => z.2) e)
    have e3 := Bool.and_eq_true_iff.mp e2.2
    exact ⟨_, He.frT_in, ⟨e1, List.all_eq_true.mp e2.1, e3.1⟩, tabsChk_ok e3.2⟩
  keeps := fun _ _ _ q kp => by
    obtain ⟨K, inK, c, t⟩ := q
    exact ⟨K, PySem.W.Frag.In.keeps inK kp, c, ⟨t.hd, t.out, fun p hp => kp _ _ (t.empty p hp), t.one⟩⟩
theorem obsP_eq {n : Nat} {fa : List He.Fa} {fn : List He5.DefA} {fy : List Fy} {g : Addr → Option Obj} {s : Shared} (h : ∀ a, g a = s.heap.get? a) : obsP n fa fn fy g = (hookP n fa fn fy).obs s := by
  obtain rfl : g = s.heap.get? := funext h
  rfl
end Pu
set_option Elab.async false
set_option linter.all false
set_option maxRecDepth 100000
namespace Pu
open PySem PySem.Spec PyProof.Rows L2
structure FnB (P : Program) (w : World) (K : PySem.W.Frag) (mg : Str → Option Value) (base : Heap) (k : Nat) (d : He5.DefA) (ps : List Str) (n : Nat) (m : M RV) : Prop where
  ex : ∃ fd, FunD K d.name d.qual d.params d.body d.scope (d.dvs K) (d.kws K) (d.at_ K) fd ∧ FnG P w K mg base k (d.at_ K) fd ps (spG K n m)
structure BindD (d : He5.DefA) (ps : List Str) : Prop where
  dfl : d.dfl = []
  kwd : d.kwd = []
  all : ∀ (kV doc pm : Value) (an : Option Addr) (cdv ct : Value) (us : List Value), us.length = ps.length → bindArgs (PySem.W.fnOf d.name d.qual d.params d.body d.scope .none kV doc pm an cdv ct) ⟨us, []⟩ = pure (ps.zip us)
section
variable {P : Program} {w : World} {K : PySem.W.Frag} {mg : Str → Option Value} {base : Heap} {k j n : Nat} {d : He5.DefA} {ps : List Str} {m : M RV}
theorem FnB.parts (B : FnB P w K mg base k d ps n m) (bd : BindD d ps) : ∃ fd, FnG P w K mg base k (d.at_ K) fd ps (spG K n m) ∧ Binds K fd ps [] ∧ PySem.W.keepIn K (.ref (d.at_ K)) = true := by
  obtain ⟨fd, D, F⟩ := B.ex
  refine ⟨fd, F, ?_, D.kp⟩
  have e : d.dvs K = [] := by unfold He5.DefA.dvs; rw [bd.dfl]; rfl
  rw [e] at D
  exact D.bindsN bd.all
end
section
variable {X : Cx} {W : WX} {x : Str} {pos : Pos}
def gv : Val → He.Dv
  | .non => .non
  | .bl b => .bl b
  | .int i => .int i
  | .str x => .str x
  | .ty n => .ty n
  | .glo x => .glo x
  | _ => .non
end
end Pu
set_option Elab.async false
set_option linter.all false
set_option maxRecDepth 100000
namespace Pu.O
open PySem PySem.Spec PyProof.Rows L2 Pu
def Ok {α : Type} (m : M α) (e : Ev) (Q : α → Ev → Prop) : Prop := match m e with
  | .ok a e' => Q a e'
  | _ => False
section
variable {α β : Type} {m : M α} {e : Ev} {Q Q' : α → Ev → Prop} {R : β → Ev → Prop}
theorem Ok.mono (h : Ok m e Q) (k : ∀ a e', Q a e' → Q' a e') : Ok m e Q' := by
  unfold Ok at h ⊢
  cases q : m e with
  | ok a e' => rw [q] at h; exact k _ _ h
  | _ => rw [q] at h; exact h.elim
theorem ok_ret {a : α} : Ok (M.ret a) e Q ↔ Q a e := Iff.rfl
end
variable {e : Ev}
theorem ok_compS0 {ws : List Nat} {mt : Val → M Unit} {mc : M Bool} {me : M RV} {acc : List Val} {Q : List Val → Ev → Prop} : Ok (compS ws mt mc me [] acc) e Q ↔ Q acc e := Iff.rfl
theorem ok_compSC {ws : List Nat} {mt : Val → M Unit} {mc : M Bool} {me : M RV} {v : Val} {vs acc : List Val} {Q : List Val → Ev → Prop} : Ok (compS ws mt mc me (v :: vs) acc) e Q ↔ Ok (mt v) e fun _ e1 => Ok mc e1 fun k e2 =>
    (k = true → Ok me e2 fun x e3 => Ok (M.dt x) e3 fun w e4 => acc.length < sizeLine ∧ Ok (compS ws mt mc me vs (acc ++ [w])) (wipeE e4 ws) Q) ∧ (¬ k = true → Ok (compS ws mt mc me vs acc) (wipeE e2 ws) Q) := by
  unfold Ok
  conv => lhs; unfold compS
  cases mt v e with
  | ok u e1 =>
    dsimp only
    cases mc e1 with
    | ok k e2 => cases k with
      | true =>
        dsimp only
        simp only [true_implies, not_true_eq_false, false_implies, and_true]
        cases me e2 with
        | ok x e3 =>
          dsimp only
          cases M.dt x e3 with
          | ok w e4 =>
            dsimp only
            by_cases h : acc.length < sizeLine <;> simp [h]
          | _ => exact Iff.rfl
        | _ => exact Iff.rfl
      | false => simp
    | _ => exact Iff.rfl
  | _ => exact Iff.rfl
theorem Ok.compS {ws : List Nat} {mt : Val → M Unit} {me : M RV} (I : Ev → Prop) (P : Val → Val → Prop) : ∀ {vs acc : List Val} {e : Ev}, I e → acc.length + vs.length ≤ sizeLine →
    (∀ (v : Val) (e : Ev), v ∈ vs → I e → Ok (mt v) e fun _ e1 => Ok me e1 fun x e3 => Ok (M.dt x) e3 fun w e4 => P v w ∧ I (wipeE e4 ws)) →
    Ok (Pu.compS ws mt mYes me vs acc) e fun r e' => I e' ∧ ∃ rs, r = acc ++ rs ∧ rs.length = vs.length ∧ ∀ (j : Nat) (v w : Val), vs[j]? = some v → rs[j]? = some w → P v w
  | [], acc, e, h, _, _ => by
    rw [ok_compS0]
    exact ⟨h, [], by simp, rfl, fun j v w z => by simp at z⟩
  | v :: vs, acc, e, h, hl, st => by
    rw [ok_compSC]
    refine Ok.mono (st v e (List.mem_cons_self ..) h) fun _ e1 h1 => ?_
    show Ok (M.ret true) e1 _
    rw [ok_ret]
    refine ⟨fun _ => ?_, fun z => absurd rfl z⟩
    refine Ok.mono h1 fun x e3 h3 => Ok.mono h3 fun w e4 h4 => ?_
    rw [List.length_cons] at hl
    refine ⟨by omega, Ok.mono (Ok.compS I P (vs := vs) h4.2 (by simp; omega) fun v' e' m => st v' e' (List.mem_cons_of_mem _ m)) fun r e' q => ?_⟩
    obtain ⟨q1, rs, rfl, q3, q4⟩ := q
    refine ⟨q1, w :: rs, by simp, by simp [q3], fun j v' w' z1 z2 => ?_⟩
    cases j with
    | zero => simp at z1 z2; subst z1 z2; exact h4.1
    | succ j => exact q4 j v' w' (by simpa using z1) (by simpa using z2)
end Pu.O
namespace Pu
open PySem PySem.Spec PyProof.Rows L2
inductive Tag {α : Type} (Q : α → Ev → Prop) : Type where
  | tag
def Ok {α : Type} (m : M α) (e : Ev) (Q : α → Ev → Prop) (_u : Tag Q := .tag) : Prop := O.Ok m e Q
section
variable {α β : Type} {m : M α} {e : Ev} {Q Q' : α → Ev → Prop} {R : β → Ev → Prop}
theorem Ok.mono (h : Ok m e Q) (k : ∀ a e', Q a e' → Q' a e') : Ok m e Q' := O.Ok.mono h k
theorem ok_ret {a : α} : Ok (M.ret a) e Q ↔ Q a e := O.ok_ret
end
variable {e : Ev}
theorem ok_compS0 {ws : List Nat} {mt : Val → M Unit} {mc : M Bool} {me : M RV} {acc : List Val} {Q : List Val → Ev → Prop} : Ok (compS ws mt mc me [] acc) e Q ↔ Q acc e := O.ok_compS0
theorem ok_compSC {ws : List Nat} {mt : Val → M Unit} {mc : M Bool} {me : M RV} {v : Val} {vs acc : List Val} {Q : List Val → Ev → Prop} : Ok (compS ws mt mc me (v :: vs) acc) e Q ↔ Ok (mt v) e fun _ e1 => Ok mc e1 fun k e2 =>
    (k = true → Ok me e2 fun x e3 => Ok (M.dt x) e3 fun w e4 => acc.length < sizeLine ∧ Ok (compS ws mt mc me vs (acc ++ [w])) (wipeE e4 ws) Q) ∧ (¬ k = true → Ok (compS ws mt mc me vs acc) (wipeE e2 ws) Q) := O.ok_compSC
theorem Ok.compS {ws : List Nat} {mt : Val → M Unit} {me : M RV} (I : Ev → Prop) (P : Val → Val → Prop) : ∀ {vs acc : List Val} {e : Ev}, I e → acc.length + vs.length ≤ sizeLine →
    (∀ (v : Val) (e : Ev), v ∈ vs → I e → Ok (mt v) e fun _ e1 => Ok me e1 fun x e3 => Ok (M.dt x) e3 fun w e4 => P v w ∧ I (wipeE e4 ws)) →
    Ok (Pu.compS ws mt mYes me vs acc) e fun r e' => I e' ∧ ∃ rs, r = acc ++ rs ∧ rs.length = vs.length ∧ ∀ (j : Nat) (v w : Val), vs[j]? = some v → rs[j]? = some w → P v w := O.Ok.compS I P
end Pu
set_option Elab.async false
set_option linter.all false
set_option maxRecDepth 100000
namespace Pu
open PySem PySem.Spec PyProof.Rows L2
end Pu
set_option Elab.async false
set_option linter.all false
set_option maxRecDepth 100000
namespace Pu
open PySem PySem.Spec PyProof.Rows L2
def fMax3 (vs : List Val) : M RV := match vs with
  | [.int a, .int b, .int c] => mV (.int (if (if a < b then b else a) < c then c else (if a < b then b else a)))
  | _ => M.bad
end Pu
set_option Elab.async false
set_option linter.all false
set_option maxRecDepth 100000
set_option maxHeartbeats 2000000
namespace Pu
open PySem PySem.Spec PyProof.Rows L2
def ItB : Bool → Heap → Addr → Addr → Nat → Prop
  | true, h, it, a, i => h.IsListIter it a i
  | false, h, it, a, i => h.IsTupleIter it a i
theorem ItB.at {b : Bool} {h h' : Heap} {it a : Addr} {i : Nat} (x : ItB b h it a i) (e : ∀ o, h.get? it = some o → h'.get? it = some o) : ItB b h' it a i := by
  cases b
  · exact Heap.IsTupleIter.at x e
  · exact Heap.IsListIter.at x e
theorem ItB.obj {b : Bool} {h : Heap} {it a : Addr} {i : Nat} (x : ItB b h it a i) : ∃ o, h.get? it = some o ∧ ∀ v, o.data ≠ .cell v := by
  cases b <;> (obtain ⟨o, ho, hc, hd⟩ := x; exact ⟨o, ho, fun v q => by rw [hd] at q; cases q⟩)
def enumV : Int → List Val → List Val
  | _, [] => []
  | k, x :: xs => .tup [.int k, x] :: enumV (k + 1) xs
def zipV : List Val → List Val → List Val
  | x :: xs, y :: ys => .tup [x, y] :: zipV xs ys
  | _, _ => []
def seqV : Val → Option (List Val)
  | .lst xs => some xs
  | .tup xs => some xs
  | _ => none
def mEnum (m : M RV) : M (List Val) := m.bind fun r => (M.dt r).bind fun v => match seqV v with
  | some xs => M.ret (enumV 0 xs)
  | none => M.bad
def mZip (as : M (List RV)) : M (List Val) := as.bind fun rs => (M.dts rs).bind fun vs => match vs with
  | [v, w] => match seqV v, seqV w with
    | some xs, some ys => M.ret (zipV xs ys)
    | _, _ => M.bad
  | _ => M.bad
end Pu
set_option Elab.async false
set_option linter.all false
set_option maxRecDepth 100000
set_option maxHeartbeats 2000000
namespace Pu
open PySem PySem.Spec PyProof.Rows L2
def tupAt (K : PySem.W.Frag) (a : Addr) : Bool := match K.lookup a with
  | some o => o.cls == .type "tuple" && (match o.data with
    | .seq its _ => its.isEmpty
    | _ => false)
  | _ => false
end Pu
set_option Elab.async false
set_option linter.all false
set_option maxRecDepth 100000
set_option maxHeartbeats 3200000
namespace Pu
open PySem PySem.Spec PyProof.Rows L2
end Pu
set_option Elab.async false
set_option linter.all false
set_option maxRecDepth 100000
set_option maxHeartbeats 2000000
namespace Pu
open PySem PySem.Spec PyProof.Rows L2
def insI (x : Int) : List Int → List Int
  | [] => [x]
  | y :: r => if x ≤ y then x :: y :: r else y :: insI x r
def sortI : List Int → List Int
  | [] => []
  | x :: r => insI x (sortI r)
end Pu
set_option Elab.async false
set_option linter.all false
set_option maxRecDepth 100000
namespace Pu
open PySem PySem.Spec PyProof.Rows L2
end Pu
set_option Elab.async false
set_option linter.all false
set_option maxRecDepth 100000
set_option maxHeartbeats 2000000
namespace Pu
open PySem PySem.Spec PyProof.Rows L2
mutual
def noLst : Val → Bool
  | .tup xs => noLsts xs
  | .lst _ => false
  | .obj _ _ _ => false
  | .dct _ _ => false
  | .non => true
  | .bl _ => true
  | .int _ => true
  | .str _ => true
  | .ty _ => true
  | .glo _ => true
def noLsts : List Val → Bool
  | [] => true
  | x :: xs => noLst x && noLsts xs
end
def noOwnE (e : Ev) : Bool := e.all fun s => match s with
  | .own _ => false
  | _ => true
theorem noOwn_get {e : Ev} (h : noOwnE e = true) {i : Nat} {v : Val} : e[i]? ≠ some (.own v) := fun q => by
  have := List.all_eq_true.mp h _ (List.mem_of_getElem? q)
  cases this
inductive InR (K : PySem.W.Frag) (B : Bg) (F H : Hp) : List (List Val) → List Addr → Prop
  | nil : InR K B F H [] []
  | cons {ys : List Val} {b : Addr} {us : List V} {xs : List (List Val)} {bs : List Addr} : H b = some (.lst us) → VRs K F ys us → F b = none → B.mine b → InR K B F H xs bs → InR K B F H (ys :: xs) (b :: bs)
structure NX (K : PySem.W.Frag) (B : Bg) (iF : Nat) (A : Addr) (bs : List Addr) (xs : List (List Val)) (F H : Hp) (e : Ev) (σ : Sig) : Prop where
  cur : Cur K B F H (e.set iF .un) σ
  no : noOwnE e = true
  x1 : e[iF]? = some (.dat (.lst (xs.map .lst)))
  x2 : σ[iF]? = some (some (.ref A))
  x3 : H A = some (.lst (bs.map .ref))
  x4 : F A = none
  x5 : B.mine A
  x6 : (A :: bs).Nodup
  x7 : InR K B F H xs bs
def NR (K : PySem.W.Frag) (B : Bg) (iF : Nat) (F H : Hp) (e : Ev) (σ : Sig) : Prop := ∃ (A : Addr) (bs : List Addr) (xs : List (List Val)), NX K B iF A bs xs F H e σ
section
variable {K : PySem.W.Frag} {W : WX} {B : Bg} {F F1 H H1 : Hp} {e e' : Ev} {σ : Sig} {iF : Nat} {A : Addr} {bs : List Addr} {xs : List (List Val)}
theorem InR.len {xs : List (List Val)} {bs : List Addr} (h : InR K B F H xs bs) : xs.length = bs.length := by
  induction h with
  | nil => rfl
  | cons _ _ _ _ _ ih => simp [ih]
theorem InR.at {xs : List (List Val)} {bs : List Addr} (h : InR K B F H xs bs) : ∀ b ∈ bs, F b = none ∧ B.mine b ∧ ∃ us, H b = some (.lst us) := by
  induction h with
  | nil => intro b hb; simp at hb
  | cons h1 h2 h3 h4 _ ih =>
    intro c hc
    rcases List.mem_cons.mp hc with rfl | hc
    · exact ⟨h3, h4, _, h1⟩
    · exact ih c hc
theorem InR.get {xs : List (List Val)} {bs : List Addr} (h : InR K B F H xs bs) : ∀ {n : Nat} {ys : List Val}, xs[n]? = some ys → ∃ b us, bs[n]? = some b ∧ H b = some (.lst us) ∧ VRs K F ys us := by
  induction h with
  | nil => intro n ys h; simp at h
  | cons h1 h2 h3 h4 _ ih =>
    intro n zs h
    cases n with
    | zero => simp at h; subst h; exact ⟨_, _, rfl, h1, h2⟩
    | succ n => simpa using ih (n := n) (by simpa using h)
theorem InR.go {xs : List (List Val)} {bs : List Addr} (h : InR K B F H xs bs) (s : Same F F1) (hH : ∀ b ∈ bs, H1 b = H b) (hF : ∀ b ∈ bs, F1 b = none) : InR K B F1 H1 xs bs := by
  induction h with
  | nil => exact .nil
  | cons h1 h2 h3 h4 _ ih => exact .cons ((hH _ List.mem_cons_self).trans h1) (h2.mono s) (hF _ List.mem_cons_self) h4 (ih (fun b hb => hH b (List.mem_cons_of_mem _ hb)) fun b hb => hF b (List.mem_cons_of_mem _ hb))
theorem InR.set {xs : List (List Val)} {bs : List Addr} (h : InR K B F H xs bs) : ∀ {n : Nat} {b : Addr} {ys : List Val} {us : List V}, bs.Nodup → bs[n]? = some b → VRs K F ys us → InR K B F (upd H b (.lst us)) (xs.set n ys) bs := by
  induction h with
  | nil => intro n b ys us _ h; simp at h
  | @cons ys0 b0 us0 xs0 bs0 h1 h2 h3 h4 t ih =>
    intro n b ys us nd h r
    obtain ⟨n1, n2⟩ := List.nodup_cons.mp nd
    cases n with
    | zero =>
      simp at h
      subst h
      exact .cons upd_same r h3 h4 (t.go (Same.refl _) (fun c hc => upd_ne fun z => n1 (by rw [← z]; exact hc)) fun c hc => (t.at c hc).1)
    | succ n =>
      have hb : bs0[n]? = some b := by simpa using h
      exact .cons ((upd_ne fun z => n1 (by rw [z]; exact List.mem_of_getElem? hb)).trans h1) h2 h3 h4 (ih n2 hb r)
theorem NX.nS (N : NX K B iF A bs xs F H e σ) : ∀ a ∈ A :: bs, F a = none := fun a ha => by
  rcases List.mem_cons.mp ha with rfl | ha
  · exact N.x4
  · exact (N.x7.at a ha).1
theorem NX.has (N : NX K B iF A bs xs F H e σ) : ∀ a ∈ A :: bs, ∃ us, H a = some (.lst us) := fun a ha => by
  rcases List.mem_cons.mp ha with rfl | ha
  · exact ⟨_, N.x3⟩
  · exact (N.x7.at a ha).2.2
theorem NX.mine (N : NX K B iF A bs xs F H e σ) : ∀ a ∈ A :: bs, B.mine a := fun a ha => by
  rcases List.mem_cons.mp ha with rfl | ha
  · exact N.x5
  · exact (N.x7.at a ha).2.1
end
end Pu
set_option Elab.async false
set_option linter.all false
set_option maxRecDepth 100000
set_option maxHeartbeats 2000000
namespace Pu
open PySem PySem.Spec PyProof.Rows L2
def mK {α : Type} (m : M α) : M α := fun e => match m e with
  | .ok a _ => .ok a e
  | _ => .bad
def AtN (K : PySem.W.Frag) (B : Bg) (iF : Nat) (F : Hp) (m : S) (e : Ev) (D : Ends) : Prop := match m e with
  | .ok .nx e' => ∀ F' H' σ', Same F F' → NR K B iF F' H' e' σ' → D.nx σ' H'
  | .ok (.rt (.dat .non)) e' => ∀ F' H' σ', Same F F' → NR K B iF F' H' e' σ' → D.rt .non H'
  | _ => False
def mNSet (i : Nat) (m : M RV) : S := (mK m).bind fun r => match r with
  | .dat v => if noLst v = true then (fun e => .ok .nx (e.set i (.dat v))) else M.bad
  | _ => M.bad
def mNIf (c : M Bool) (a b : S) : S := mIf (mK c) a b
def mNApp (iF : Nat) (ma : M RV) : S := (mK ma).bind fun r => match r with
  | .tmp (.lst ys) => if noLsts ys = true then (fun e => match e[iF]? with
    | some (.dat (.lst zs)) => if zs.length < sizeLine then .ok .nx (e.set iF (.dat (.lst (zs ++ [.lst ys])))) else .bad
    | _ => .bad) else M.bad
  | _ => M.bad
def putN (iF : Nat) (v : Val) (k1 k2 : Int) : S := fun e => match e[iF]? with
  | some (.dat (.lst zs)) => match ixN zs.length k1 with
    | some n => match zs[n]? with
      | some (.lst ys) => match ixN ys.length k2 with
        | some j => .ok .nx (e.set iF (.dat (.lst (zs.set n (.lst (ys.set j v))))))
        | none => .bad
      | _ => .bad
    | none => .bad
  | _ => .bad
def mNPut (iF : Nat) (m1 m2 mv : M RV) : S := (mK mv).bind fun r => (mK m1).bind fun r1 => (mK m2).bind fun r2 => match r, r1, r2 with
  | .dat v, .dat (.int k1), .dat (.int k2) => if noLst v = true then putN iF v k1 k2 else M.bad
  | _, _, _ => M.bad
def loopN (i : Nat) (mb : S) : List Val → S
  | [] => mSkip
  | v :: r => fun e => match mb (e.set i (.dat v)) with
    | .ok .nx e2 => loopN i mb r e2
    | .ok (.rt (.dat .non)) e2 => .ok (.rt (.dat .non)) e2
    | _ => .bad
def mNFor (iF i : Nat) (mi : M (List Val)) (mb : S) : S := mi.bind fun vs => fun e => match e[iF]? with
  | some (.own (.lst [])) => if noOwnE (e.set iF .un) = true ∧ vs.all noLst = true then loopN i mb vs (e.set iF (.dat (.lst []))) else .bad
  | _ => .bad
section
variable {K : PySem.W.Frag} {B : Bg} {F H : Hp} {e e' : Ev} {σ : Sig} {iF : Nat} {D : Ends}
theorem AtN.nx {m : S} (h : AtN K B iF F m e D) (hm : m e = .ok .nx e') {σ' : Sig} {F' H' : Hp} (s : Same F F') (N : NR K B iF F' H' e' σ') : D.nx σ' H' := by
  unfold AtN at h
  rw [hm] at h
  exact h _ _ _ s N
theorem AtN.mono {m : S} {F1 : Hp} (h : AtN K B iF F m e D) (s : Same F F1) : AtN K B iF F1 m e D := by
  unfold AtN at h ⊢
  split at h
  · rename_i q; exact fun F' H' σ' s' => h F' H' σ' (s.trans s')
  · rename_i q; exact fun F' H' σ' s' => h F' H' σ' (s.trans s')
  · exact h.elim
end
section
variable {X : Cx} {iF k : Nat} {st : Stmt} {rest a b : List Stmt} {ma mb : S} {x c : Expr} {m : M RV} {mc : M Bool} {pos : Pos}
theorem NX.step {K : PySem.W.Frag} {B : Bg} {F F2 H H2 : Hp} {e : Ev} {σ : Sig} {A : Addr} {bs : List Addr} {xs : List (List Val)} (N : NX K B iF A bs xs F H e σ) (C : Cur K (bg B.np F H (e.set iF .un) σ) F2 H2 (e.set iF .un) σ) (s : Same F F2) : NX K B iF A bs xs F2 H2 e σ := by
  have noO : ∀ a, ¬ Own (e.set iF .un) σ a := fun a ⟨i, v, q, _⟩ => by
    rcases getset q with ⟨_, z, _⟩ | ⟨_, z⟩
    · cases z
    · exact noOwn_get N.no z
  have keep : ∀ a ∈ A :: bs, H2 a = H a ∧ F2 a = none := fun a ha => by
    obtain ⟨us, h⟩ := N.has a ha
    refine ⟨(C.post.fr a _ h (noO a) (fun _ z => by cases z)).trans h.symm, ?_⟩
    refine Classical.byContradiction fun q => ?_
    rcases C.post.nw a q with z | z
    · exact z (N.nS a ha)
    · rcases z with z | z
      · exact noO a z
      · have z : H a = none := z
        rw [h] at z; cases z
  have AS : A ∈ A :: bs := List.mem_cons_self
  exact ⟨N.cur.trans C, N.no, N.x1, N.x2, (keep A AS).1.trans N.x3, (keep A AS).2, N.x5, N.x6, N.x7.go s (fun b hb => (keep b (List.mem_cons_of_mem _ hb)).1) fun b hb => (keep b (List.mem_cons_of_mem _ hb)).2⟩
end
end Pu
set_option Elab.async false
set_option linter.all false
set_option maxRecDepth 100000
namespace Pu
open PySem PySem.Spec PyProof.Rows L2
namespace EE
open PySem.SeqAt MeetsSeq MeetsSeq2 MeetsSeq3 SeqRoads2
end EE
end Pu
set_option Elab.async false
set_option linter.all false
set_option maxRecDepth 100000
set_option maxHeartbeats 2000000
namespace Pu
open PySem PySem.Spec PyProof.Rows L2
def mSortT (m : M RV) : M RV := m.bind fun r => (M.rd r).bind fun v => match v with
  | .tup xs => match ints? xs with
    | some ns => M.ret (.tmp (.lst ((sortI ns).map .int)))
    | none => M.bad
  | _ => M.bad
end Pu
set_option Elab.async false
set_option linter.all false
set_option maxRecDepth 100000
set_option maxHeartbeats 4000000
namespace Pu.Q
open PySem PySem.Spec PyProof.Rows L2 Pu
def mostTurns : Nat := 100000
def top (i : Nat) : Stmt := PySem.Challenge.pw_discwarden_k16_whole_stays_that_are_show.main.body.getD i (.Pass ⟨0, 0, 0, 0⟩)
def sub (i j : Nat) : Stmt := match top i with
  | .ClassDef _ _ _ b _ _ _ _ _ _ _ => b.getD j (.Pass ⟨0, 0, 0, 0⟩)
  | _ => .Pass ⟨0, 0, 0, 0⟩
def isT : List (Tg × Tg × Bool) := [(.inl "NoneType", .inl "int", false), (.inl "bool", .inl "int", true), (.inl "int", .inl "int", true), (.inl "str", .inl "int", false), (.inl "list", .inl "int", false), (.inl "tuple", .inl "int", false), (.inl "dict", .inl "int", false), (.inr "Rule", .inl "int", false), (.inl "NoneType", .inr "Rule", false), (.inl "bool", .inr "Rule", false), (.inl "int", .inr "Rule", false), (.inl "str", .inr "Rule", false), (.inl "list", .inr "Rule", false), (.inl "tuple", .inr "Rule", false), (.inl "dict", .inr "Rule", false), (.inr "Rule", .inr "Rule", true), (.inl "NoneType", .inl "bool", false), (.inl "bool", .inl "bool", true), (.inl "int", .inl "bool", false), (.inl "str", .inl "bool", false), (.inl "list", .inl "bool", false), (.inl "tuple", .inl "bool", false), (.inl "dict", .inl "bool", false), (.inr "Rule", .inl "bool", false), (.inl "NoneType", .inl "tuple", false), (.inl "bool", .inl "tuple", false), (.inl "int", .inl "tuple", false), (.inl "str", .inl "tuple", false), (.inl "list", .inl "tuple", false), (.inl "tuple", .inl "tuple", true), (.inl "dict", .inl "tuple", false), (.inr "Rule", .inl "tuple", false), (.inl "NoneType", .inl "str", false), (.inl "bool", .inl "str", false), (.inl "int", .inl "str", false), (.inl "str", .inl "str", true), (.inl "list", .inl "str", false), (.inl "tuple", .inl "str", false), (.inl "dict", .inl "str", false), (.inr "Rule", .inl "str", false)]
abbrev s_is_integer : Stmt := top 14
def d_is_integer : He5.DefA := ⟨fun K => He.ga K "is_integer", "is_integer", "is_integer", defArgs s_is_integer, defBody s_is_integer, defScope s_is_integer, [], []⟩
def b_is_integer : S := (mRet (mAndV (mCB (fIsi isT) (mCons (mVar 0) (mCons (mV (.ty "int")) mNil))) (mNotV (mCB (fIsi isT) (mCons (mVar 0) (mCons (mV (.ty "bool")) mNil))))))
def den_is_integer : M RV := fnDen 1 1 b_is_integer
abbrev s_is_between : Stmt := top 15
def d_is_between : He5.DefA := ⟨fun K => He.ga K "is_between", "is_between", "is_between", defArgs s_is_between, defBody s_is_between, defScope s_is_between, [], []⟩
def b_is_between : S := (mRet (mAndV (mCall [false] den_is_integer (mCons (mVar 0) mNil) []) (mChain oLe oLe (mVar 1) (mVar 0) (mVar 2))))
def den_is_between : M RV := fnDen 3 3 b_is_between
abbrev s_check_number : Stmt := top 16
def d_check_number : He5.DefA := ⟨fun K => He.ga K "check_number", "check_number", "check_number", defArgs s_check_number, defBody s_check_number, defScope s_check_number, [], []⟩
def b_check_number : S := (mIf (mNot (mTru (mCall [false, false, false] den_is_between (mCons (mVar 0) (mCons (mVar 1) (mCons (mVar 2) mNil))) []))) M.bad mSkip)
def den_check_number : M RV := fnDen 3 3 b_check_number
abbrev s_Rule____init__ : Stmt := sub 22 0
def d_Rule____init__ : He5.DefA := ⟨fun K => He.ma K (He.ga K "Rule") "__init__", "__init__", "Rule.__init__", defArgs s_Rule____init__, defBody s_Rule____init__, defScope s_Rule____init__, [], []⟩
def b_Rule____init__ : S := (mSeq (mEx (mCall [false, false, false] den_check_number (mCons (mVar 1) (mCons (mV (.int 1)) (mCons (mV (.int 1000000000000)) mNil))) [])) (mSeq (mIf (mOr (mNot (mTru (mCB (fIsi isT) (mCons (mVar 2) (mCons (mV (.ty "str")) mNil))))) (mTru (mBin (oInG true) (mVar 2) (mV (.tup [(.str "next"), (.str "last"), (.str "near")]))))) M.bad mSkip) (mSeq (mEx (mCall [false, false, false] den_check_number (mCons (mVar 3) (mCons (mVar 1) (mCons (mV (.int 1000000000000000000)) mNil))) [])) (mSeq (mEx (mCall [false, false, false] den_check_number (mCons (mVar 4) (mCons (mV (.int 1)) (mCons (mV (.int 1000000000000000000)) mNil))) [])) (mSeq (mPut "Rule" "limit" (mVar 0) (mVar 3)) (mPut "Rule" "parts" (mVar 0) (mTup (mCons (mVar 1) (mCons (mVar 2) (mCons (mVar 3) (mCons (mVar 4) mNil)))))))))))
def den_Rule____init__ : M RV := fnDen 5 5 b_Rule____init__
abbrev s_check_rule : Stmt := top 23
def d_check_rule : He5.DefA := ⟨fun K => He.ga K "check_rule", "check_rule", "check_rule", defArgs s_check_rule, defBody s_check_rule, defScope s_check_rule, [], []⟩
def b_check_rule : S := (mIf (mNot (mTru (mCB (fIsi isT) (mCons (mVar 0) (mCons (mV (.glo "Rule")) mNil))))) M.bad mSkip)
def den_check_rule : M RV := fnDen 1 1 b_check_rule
abbrev s_is_minute : Stmt := top 17
def d_is_minute : He5.DefA := ⟨fun K => He.ga K "is_minute", "is_minute", "is_minute", defArgs s_is_minute, defBody s_is_minute, defScope s_is_minute, [], []⟩
def b_is_minute : S := (mRet (mCall [false, false, false] den_is_between (mCons (mVar 0) (mCons (mV (.int 0)) (mCons (mV (.int 1000000000000000000000000000000)) mNil))) []))
def den_is_minute : M RV := fnDen 1 1 b_is_minute
abbrev s_Rule__step : Stmt := sub 22 2
def d_Rule__step : He5.DefA := ⟨fun K => gA K "Rule" "step", "step", "Rule.step", defArgs s_Rule__step, defBody s_Rule__step, defScope s_Rule__step, [], []⟩
def b_Rule__step : S := (mRet (mBin oIx (mGet "Rule" "parts" (mVar 0)) (mV (.int 0))))
def den_Rule__step : M RV := fnDen 1 1 b_Rule__step
abbrev s_is_mark : Stmt := top 27
def d_is_mark : He5.DefA := ⟨fun K => He.ga K "is_mark", "is_mark", "is_mark", defArgs s_is_mark, defBody s_is_mark, defScope s_is_mark, [], []⟩
def b_is_mark : S := (mRet (mAndV (mCall [false, false, false] den_is_between (mCons (mVar 1) (mCons (mV (.int 0)) (mCons (mV (.int 1000000000000000000000000000000)) mNil))) []) (mBin oEq (mBin oMod (mVar 1) (mProp "Rule" den_Rule__step (mVar 0))) (mV (.int 0)))))
def den_is_mark : M RV := fnDen 2 2 b_is_mark
abbrev s_is_note : Stmt := top 29
def d_is_note : He5.DefA := ⟨fun K => He.ga K "is_note", "is_note", "is_note", defArgs s_is_note, defBody s_is_note, defScope s_is_note, [], []⟩
def b_is_note : S := (mSeq (mIf (mOr (mNot (mTru (mCB (fIsi isT) (mCons (mVar 1) (mCons (mV (.ty "tuple")) mNil))))) (mOr (mTru (mBin oNe (mCB fLen (mCons (mVar 1) mNil)) (mV (.int 3)))) (mOr (mNot (mTru (mCall [false] den_is_minute (mCons (mBin oIx (mVar 1) (mV (.int 0))) mNil) []))) (mNot (mTru (mCall [false] den_is_minute (mCons (mBin oIx (mVar 1) (mV (.int 1))) mNil) [])))))) (mRet (mV (.bl false))) mSkip) (mRet (mAndV (mBin oLe (mBin oIx (mVar 1) (mV (.int 0))) (mBin oIx (mVar 1) (mV (.int 1)))) (mOrV (mBin oIs (mBin oIx (mVar 1) (mV (.int 2))) (mV .non)) (mCall [false, false] den_is_mark (mCons (mVar 0) (mCons (mBin oIx (mVar 1) (mV (.int 2))) mNil)) [])))))
def den_is_note : M RV := fnDen 2 2 b_is_note
abbrev s_notes_fault : Stmt := top 30
def d_notes_fault : He5.DefA := ⟨fun K => He.ga K "notes_fault", "notes_fault", "notes_fault", defArgs s_notes_fault, defBody s_notes_fault, defScope s_notes_fault, [], []⟩
def b_notes_fault : S := (mSeq (mIf (mOr (mNot (mTru (mCB (fIsi isT) (mCons (mVar 1) (mCons (mV (.ty "tuple")) mNil))))) (mTru (mBin oEq (mVar 1) (mTup mNil)))) (mRet (mV .non)) mSkip) (mSeq (mFor (mEnum (mVar 1)) (gT 2 (gsC (gN 2) (gsC (gN 3) gsN))) (mIf (mOr (mTru (mBin oEq (mVar 2) (mV (.int 40)))) (mNot (mTru (mCall [false, false] den_is_note (mCons (mVar 0) (mCons (mVar 3) mNil)) [])))) (mRet (mVar 2)) mSkip)) (mRet (mNeg (mV (.int 1))))))
def den_notes_fault : M RV := fnDen 2 4 b_notes_fault
abbrev s_check_notes : Stmt := top 31
def d_check_notes : He5.DefA := ⟨fun K => He.ga K "check_notes", "check_notes", "check_notes", defArgs s_check_notes, defBody s_check_notes, defScope s_check_notes, [], []⟩
def b_check_notes : S := (mSeq (mEx (mCall [false] den_check_rule (mCons (mVar 0) mNil) [])) (mIf (mTru (mBin oNe (mCall [false, false] den_notes_fault (mCons (mVar 0) (mCons (mVar 1) mNil)) []) (mNeg (mV (.int 1))))) M.bad mSkip))
def den_check_notes : M RV := fnDen 2 2 b_check_notes
abbrev s_joins : Stmt := top 32
def d_joins : He5.DefA := ⟨fun K => He.ga K "joins", "joins", "joins", defArgs s_joins, defBody s_joins, defScope s_joins, [], []⟩
def b_joins : S := (mSeq (mIf (mOr (mTru (mBin oEq (mVar 1) (mV (.int 0)))) (mOr (mTru (mBin (oInG false) (mVar 1) (mVar 2))) (mTru (mBin oIs (mBin oIx (mBin oIx (mVar 0) (mVar 1)) (mV (.int 2))) (mV .non))))) (mRet (mV (.bl false))) mSkip) (mRet (mBin oEq (mBin oIx (mBin oIx (mVar 0) (mVar 1)) (mV (.int 2))) (mBin oIx (mBin oIx (mVar 0) (mBin oSub (mVar 1) (mV (.int 1)))) (mV (.int 2))))))
def den_joins : M RV := fnDen 3 3 b_joins
abbrev s_Rule__setting : Stmt := sub 22 3
def d_Rule__setting : He5.DefA := ⟨fun K => gA K "Rule" "setting", "setting", "Rule.setting", defArgs s_Rule__setting, defBody s_Rule__setting, defScope s_Rule__setting, [], []⟩
def b_Rule__setting : S := (mRet (mBin oIx (mGet "Rule" "parts" (mVar 0)) (mV (.int 1))))
def den_Rule__setting : M RV := fnDen 1 1 b_Rule__setting
abbrev s_reach : Stmt := top 24
def d_reach : He5.DefA := ⟨fun K => He.ga K "reach", "reach", "reach", defArgs s_reach, defBody s_reach, defScope s_reach, [], []⟩
def b_reach : S := (mSeq (mIf (mTru (mBin oEq (mProp "Rule" den_Rule__setting (mVar 0)) (mV (.str "next")))) (mRet (mTup (mCons (mV (.int 0)) (mCons (mBin oSub (mProp "Rule" den_Rule__step (mVar 0)) (mV (.int 1))) mNil)))) mSkip) (mSeq (mIf (mTru (mBin oEq (mProp "Rule" den_Rule__setting (mVar 0)) (mV (.str "last")))) (mRet (mTup (mCons (mBin oSub (mV (.int 1)) (mProp "Rule" den_Rule__step (mVar 0))) (mCons (mV (.int 0)) mNil)))) mSkip) (mRet (mTup (mCons (mNeg (mBin oDiv (mBin oSub (mProp "Rule" den_Rule__step (mVar 0)) (mV (.int 1))) (mV (.int 2)))) (mCons (mBin oDiv (mProp "Rule" den_Rule__step (mVar 0)) (mV (.int 2))) mNil))))))
def den_reach : M RV := fnDen 1 1 b_reach
abbrev s_arrivals : Stmt := top 26
def d_arrivals : He5.DefA := ⟨fun K => He.ga K "arrivals", "arrivals", "arrivals", defArgs s_arrivals, defBody s_arrivals, defScope s_arrivals, [], []⟩
def b_arrivals : S := (mSeq (mAsg (gT 2 (gsC (gN 2) (gsC (gN 3) gsN))) (mCall [false] den_reach (mCons (mVar 0) mNil) [])) (mRet (mTup (mCons (mCB fMax2 (mCons (mV (.int 0)) (mCons (mBin oSub (mVar 1) (mVar 3)) mNil))) (mCons (mBin oSub (mVar 1) (mVar 2)) mNil)))))
def den_arrivals : M RV := fnDen 2 4 b_arrivals
abbrev s_Rule__pause : Stmt := sub 22 4
def d_Rule__pause : He5.DefA := ⟨fun K => gA K "Rule" "pause", "pause", "Rule.pause", defArgs s_Rule__pause, defBody s_Rule__pause, defScope s_Rule__pause, [], []⟩
def b_Rule__pause : S := (mRet (mBin oIx (mGet "Rule" "parts" (mVar 0)) (mV (.int 3))))
def den_Rule__pause : M RV := fnDen 1 1 b_Rule__pause
abbrev s_least_arrival : Stmt := top 33
def d_least_arrival : He5.DefA := ⟨fun K => He.ga K "least_arrival", "least_arrival", "least_arrival", defArgs s_least_arrival, defBody s_least_arrival, defScope s_least_arrival, [], []⟩
def b_least_arrival : S := (mSeq (mIf (mAnd (mTru (mVar 4)) (mAnd (mTru (mBin oIsN (mVar 2) (mV .non))) (mNot (mTru (mVar 3))))) (mRet (mBin oAdd (mVar 1) (mV (.int 1)))) mSkip) (mSeq (mSet 5 (mIfE (mTru (mBin oIs (mVar 2) (mV .non))) (mV (.int 0)) (mBin oAdd (mVar 2) (mProp "Rule" den_Rule__pause (mVar 0))))) (mRet (mIfE (mTru (mVar 3)) (mCB fMax2 (mCons (mVar 5) (mCons (mBin oAdd (mVar 1) (mV (.int 1))) mNil))) (mVar 5)))))
def den_least_arrival : M RV := fnDen 5 6 b_least_arrival
abbrev s_ways_of : Stmt := top 34
def d_ways_of : He5.DefA := ⟨fun K => He.ga K "ways_of", "ways_of", "ways_of", defArgs s_ways_of, defBody s_ways_of, defScope s_ways_of, [.adr (He.dflAt ("ways_of", none) 0), .bl false], []⟩
def b_ways_of : S := (mSeq (mPar false [4, 5, 6, 7] (mCons (mV (.int 0)) (mCons (mV .non) (mCons (mV .non) (mCons (mLst mNil) mNil))))) (mSeq (mFor (mEnum (mVar 1)) (gT 2 (gsC (gN 8) (gsC (gT 3 (gsC (gN 10) (gsC (gN 11) (gsC (gN 12) gsN)))) gsN))) (mSeq (mSet 9 (mCB fMax2 (mCons (mVar 10) (mCons (mVar 4) mNil)))) (mSeq (mIf (mTru (mBin oIs (mVar 12) (mV .non))) (mSet 9 (mCB fMax2 (mCons (mVar 9) (mCons (mIfE (mTru (mBin oIs (mVar 5) (mV .non))) (mV (.int 0)) (mBin oAdd (mVar 5) (mV (.int 1)))) mNil)))) (mIf (mNot (mTru (mCall [false, false, false] den_joins (mCons (mVar 1) (mCons (mVar 8) (mCons (mVar 2) mNil))) []))) (mSeq (mAsg (gT 2 (gsC (gN 14) (gsC (gN 15) gsN))) (mCall [false, false] den_arrivals (mCons (mVar 0) (mCons (mVar 12) mNil)) [])) (mSeq (mSet 13 (mAndV (mBin oGt (mVar 8) (mV (.int 0))) (mBin oIs (mBin oIx (mBin oIx (mVar 1) (mBin oSub (mVar 8) (mV (.int 1)))) (mV (.int 2))) (mV .non)))) (mSeq (mSet 6 (mCB fMax2 (mCons (mVar 14) (mCons (mCall [false, false, false, false, false] den_least_arrival (mCons (mVar 0) (mCons (mVar 4) (mCons (mVar 5) (mCons (mVar 13) (mCons (mVar 3) mNil))))) []) mNil)))) (mSeq (mIf (mTru (mBin oGt (mVar 6) (mVar 15))) (mRet (mV .non)) mSkip) (mSet 9 (mCB fMax2 (mCons (mVar 9) (mCons (mVar 6) mNil)))))))) mSkip)) (mSeq (mIf (mTru (mBin oGt (mVar 9) (mVar 11))) (mRet (mV .non)) mSkip) (mSeq (mPar false [4, 5] (mCons (mVar 9) (mCons (mIfE (mTru (mBin oIs (mVar 12) (mV .non))) (mVar 5) (mVar 9)) mNil))) (mEx (mApp (mVar 7) (mTup (mCons (mVar 9) (mCons (mIfE (mTru (mBin oIs (mVar 12) (mV .non))) (mV .non) (mVar 6)) mNil)))))))))) (mRet (mVar 7))))
def den_ways_of : M RV := fnDen 4 16 b_ways_of
abbrev s_blocks_of : Stmt := top 36
def d_blocks_of : He5.DefA := ⟨fun K => He.ga K "blocks_of", "blocks_of", "blocks_of", defArgs s_blocks_of, defBody s_blocks_of, defScope s_blocks_of, [.adr (He.dflAt ("blocks_of", none) 0)], []⟩
def b_blocks_of : S := (mSeq (mSet 2 (mLst mNil)) (mSeq (mFor (mEnum (mVar 0)) (gT 2 (gsC (gN 3) (gsC (gT 3 (gsC (gN 4) (gsC (gN 5) (gsC (gN 6) gsN)))) gsN))) (mIf (mTru (mBin oIsN (mVar 6) (mV .non))) (mIf (mTru (mCall [false, false, false] den_joins (mCons (mVar 0) (mCons (mVar 3) (mCons (mVar 1) mNil))) [])) (mAsg (gSb (mVar 2) (mNeg (mV (.int 1)))) (mTup (mCons (mBin oIx (mBin oIx (mVar 2) (mNeg (mV (.int 1)))) (mV (.int 0))) (mCons (mVar 3) mNil)))) (mEx (mApp (mVar 2) (mTup (mCons (mVar 3) (mCons (mVar 3) mNil)))))) mSkip)) (mRet (mVar 2))))
def den_blocks_of : M RV := fnDen 2 7 b_blocks_of
abbrev s_some_stays : Stmt := top 37
def d_some_stays : He5.DefA := ⟨fun K => He.ga K "some_stays", "some_stays", "some_stays", defArgs s_some_stays, defBody s_some_stays, defScope s_some_stays, [], []⟩
def b_some_stays : S := (mSeq (mEx (mCall [false, false] den_check_notes (mCons (mVar 0) (mCons (mVar 1) mNil)) [])) (mSeq (mSet 2 (mCall [false, false, false, false] den_ways_of (mCons (mVar 0) (mCons (mVar 1) mNil)) [(.tup []), (.bl false)])) (mSeq (mIf (mTru (mBin oIs (mVar 2) (mV .non))) (mRet (mV .non)) mSkip) (mSeq (mSet 3 (mComp [4, 5] (mItems (mCall [false, false] den_blocks_of (mCons (mVar 1) mNil) [(.tup [])])) (gT 2 (gsC (gN 4) (gsC (gN 5) gsN))) mYes (mTup (mCons (mBin oIx (mBin oIx (mVar 2) (mVar 4)) (mV (.int 1))) (mCons (mBin oIx (mBin oIx (mVar 2) (mVar 5)) (mV (.int 0))) mNil))))) (mRet (mTup (mCons (mCB fTup (mCons (mComp [6, 7] (mItems (mVar 2)) (gT 2 (gsC (gN 6) (gsC (gN 7) gsN))) mYes (mVar 6)) mNil)) (mCons (mCB fTup (mCons (mVar 3) mNil)) mNil))))))))
def den_some_stays : M RV := fnDen 2 8 b_some_stays
abbrev s__law_sip : Stmt := top 43
def d__law_sip : He5.DefA := ⟨fun K => He.ga K "_law_sip", "_law_sip", "_law_sip", defArgs s__law_sip, defBody s__law_sip, defScope s__law_sip, [], []⟩
def b__law_sip : S := (mSeq (mAsg (gSb (mVar 0) (mV (.int 2))) (mBin oAdd (mBin oIx (mVar 0) (mV (.int 2))) (mV (.int 1)))) (mSeq (mIf (mTru (mBin oGt (mBin oIx (mVar 0) (mV (.int 0))) (mV (.int 0)))) (mSeq (mSet 2 (mBin oMod (mCB fInt (mCons (mBin oIx (mVar 0) (mV (.int 0))) mNil)) (mVar 1))) (mSeq (mAsg (gSb (mVar 0) (mV (.int 0))) (mBin oDiv (mCB fInt (mCons (mBin oIx (mVar 0) (mV (.int 0))) mNil)) (mVar 1))) (mRet (mVar 2)))) mSkip) (mSeq (mAsg (gSb (mVar 0) (mV (.int 1))) (mBin oMod (mCB fInt (mCons (mBin oAdd (mBin oAdd (mBin oMul (mBin oIx (mVar 0) (mV (.int 1))) (mV (.int 40692))) (mBin oMul (mV (.int 1009)) (mBin oIx (mVar 0) (mV (.int 2))))) (mV (.int 37))) mNil)) (mV (.int 2147483399)))) (mRet (mBin oMod (mCB fInt (mCons (mBin oDiv (mBin oIx (mVar 0) (mV (.int 1))) (mV (.int 64))) mNil)) (mVar 1))))))
def den__law_sip : M RV := fnDen 2 3 b__law_sip
abbrev s__law_pick : Stmt := top 44
def d__law_pick : He5.DefA := ⟨fun K => He.ga K "_law_pick", "_law_pick", "_law_pick", defArgs s__law_pick, defBody s__law_pick, defScope s__law_pick, [], []⟩
def b__law_pick : S := (mRet (mBin oIx (mVar 1) (mCall [true, false] den__law_sip (mCons (mVar 0) (mCons (mCB fLen (mCons (mVar 1) mNil)) mNil)) [])))
def den__law_pick : M RV := fnDen 2 2 b__law_pick
abbrev s__law_far : Stmt := top 45
def d__law_far : He5.DefA := ⟨fun K => He.ga K "_law_far", "_law_far", "_law_far", defArgs s__law_far, defBody s__law_far, defScope s__law_far, [], []⟩
def b__law_far : S := (mSeq (mIf (mTru (mBin oLe (mVar 1) (mBin oPow (mV (.int 10)) (mV (.int 6))))) (mRet (mBin oAdd (mV (.int 1)) (mCall [true, false] den__law_sip (mCons (mVar 0) (mCons (mVar 1) mNil)) []))) mSkip) (mSeq (mSet 2 (mCall [true, false] den__law_pick (mCons (mVar 0) (mCons (mLst (mCons (mV (.int 1)) (mCons (mV (.int 7)) (mCons (mBin oPow (mV (.int 10)) (mV (.int 3))) (mCons (mBin oPow (mV (.int 10)) (mV (.int 6))) (mCons (mBin oPow (mV (.int 10)) (mV (.int 9))) (mCons (mBin oPow (mV (.int 10)) (mV (.int 14))) (mCons (mBin oPow (mV (.int 10)) (mV (.int 21))) (mCons (mBin oPow (mV (.int 10)) (mV (.int 24))) mNil))))))))) mNil)) [])) (mRet (mBin oAdd (mV (.int 1)) (mBin oMod (mCB fInt (mCons (mBin oAdd (mBin oMul (mCall [true, false] den__law_sip (mCons (mVar 0) (mCons (mBin oPow (mV (.int 10)) (mV (.int 6))) mNil)) []) (mVar 2)) (mCall [true, false] den__law_sip (mCons (mVar 0) (mCons (mV (.int 997)) mNil)) [])) mNil)) (mVar 1))))))
def den__law_far : M RV := fnDen 2 3 b__law_far
abbrev s__law_plan : Stmt := top 46
def d__law_plan : He5.DefA := ⟨fun K => He.ga K "_law_plan", "_law_plan", "_law_plan", defArgs s__law_plan, defBody s__law_plan, defScope s__law_plan, [], []⟩
def b__law_plan : S := (mSeq (mSet 2 (mCall [true, false] den__law_pick (mCons (mVar 0) (mCons (mLst (mCons (mV (.int 1)) (mCons (mV (.int 2)) (mCons (mV (.int 3)) (mCons (mV (.int 5)) (mCons (mCall [true, false] den__law_far (mCons (mVar 0) (mCons (mVar 1) mNil)) []) mNil)))))) mNil)) [])) (mSeq (mSet 3 (mBin oAdd (mVar 2) (mCall [true, false] den__law_pick (mCons (mVar 0) (mCons (mLst (mCons (mV (.int 0)) (mCons (mV (.int 1)) (mCons (mV (.int 2)) (mCons (mV (.int 7)) (mCons (mCall [true, false] den__law_sip (mCons (mVar 0) (mCons (mBin oAdd (mBin oMul (mV (.int 3)) (mCB fMin2 (mCons (mVar 2) (mCons (mBin oPow (mV (.int 10)) (mV (.int 6))) mNil)))) (mV (.int 1))) mNil)) []) mNil)))))) mNil)) []))) (mRet (mLst (mCons (mVar 2) (mCons (mCall [true, false] den__law_pick (mCons (mVar 0) (mCons (mLst (mCons (mV (.str "next")) (mCons (mV (.str "last")) (mCons (mV (.str "near")) mNil)))) mNil)) []) (mCons (mVar 3) (mCons (mCall [true, false] den__law_pick (mCons (mVar 0) (mCons (mLst (mCons (mV (.int 1)) (mCons (mV (.int 1)) (mCons (mV (.int 2)) (mCons (mV (.int 3)) (mCons (mV (.int 8)) mNil)))))) mNil)) []) mNil))))))))
def den__law_plan : M RV := fnDen 2 4 b__law_plan
abbrev s__law_mark : Stmt := top 48
def d__law_mark : He5.DefA := ⟨fun K => He.ga K "_law_mark", "_law_mark", "_law_mark", defArgs s__law_mark, defBody s__law_mark, defScope s__law_mark, [], []⟩
def b__law_mark : S := (mSeq (mSet 2 (mBin oSub (mVar 1) (mBin oMod (mCB fInt (mCons (mVar 1) mNil)) (mBin oIx (mVar 0) (mV (.int 0)))))) (mSeq (mIf (mOr (mTru (mBin oEq (mVar 2) (mVar 1))) (mTru (mBin oEq (mBin oIx (mVar 0) (mV (.int 1))) (mV (.str "last"))))) (mRet (mVar 2)) mSkip) (mSeq (mIf (mOr (mTru (mBin oEq (mBin oIx (mVar 0) (mV (.int 1))) (mV (.str "next")))) (mTru (mBin oGe (mBin oMul (mV (.int 2)) (mBin oSub (mVar 1) (mVar 2))) (mBin oIx (mVar 0) (mV (.int 0)))))) (mRet (mBin oAdd (mVar 2) (mBin oIx (mVar 0) (mV (.int 0))))) mSkip) (mRet (mVar 2)))))
def den__law_mark : M RV := fnDen 2 3 b__law_mark
abbrev s__law_rows : Stmt := top 50
def d__law_rows : He5.DefA := ⟨fun K => He.ga K "_law_rows", "_law_rows", "_law_rows", defArgs s__law_rows, defBody s__law_rows, defScope s__law_rows, [], []⟩
def b__law_rows : S := (mSeq (mPar false [5, 6, 7] (mCons (mLst mNil) (mCons (mCall [true, false] den__law_sip (mCons (mVar 0) (mCons (mV (.int 4)) mNil)) []) (mCons (mBin oIx (mVar 1) (mV (.int 0))) mNil)))) (mSeq (mFor (mRng1 (mBin oAdd (mV (.int 1)) (mCall [true, false] den__law_sip (mCons (mVar 0) (mCons (mVar 2) mNil)) []))) (gN 4) (mSeq (mSet 6 (mBin oAdd (mVar 6) (mCall [true, false] den__law_pick (mCons (mVar 0) (mCons (mLst (mCons (mV (.int 0)) (mCons (mV (.int 1)) (mCons (mV (.int 2)) (mCons (mV (.int 3)) (mCons (mVar 7) (mCons (mBin oIx (mVar 1) (mV (.int 2))) mNil))))))) mNil)) []))) (mSeq (mSet 8 (mCB fMax2 (mCons (mV (.int 0)) (mCons (mBin oSub (mVar 6) (mCall [true, false] den__law_sip (mCons (mVar 0) (mCons (mV (.int 2)) mNil)) [])) mNil)))) (mSeq (mSet 9 (mCall [false, false] den__law_mark (mCons (mVar 1) (mCons (mCB fMax2 (mCons (mV (.int 0)) (mCons (mBin oSub (mVar 6) (mCall [true, false] den__law_pick (mCons (mVar 0) (mCons (mLst (mCons (mV (.int 0)) (mCons (mV (.int 0)) (mCons (mV (.int 1)) (mCons (mV (.int 2)) (mCons (mVar 7) mNil)))))) mNil)) [])) mNil))) mNil)) [])) (mSeq (mSet 10 (mComp [11] (mItems (mSl (mVar 5) (mPt (mNeg (mV (.int 1)))) mNoP)) (gN 11) (mTru (mBin oIsN (mBin oIx (mVar 11) (mV (.int 2))) (mV .non))) (mBin oIx (mVar 11) (mV (.int 2))))) (mSeq (mSet 9 (mIfE (mTru (mBin oGt (mCall [true, false] den__law_sip (mCons (mVar 0) (mCons (mV (.int 5)) mNil)) []) (mV (.int 0)))) (mCall [true, false] den__law_pick (mCons (mVar 0) (mCons (mBin oAdd (mVar 10) (mLst (mCons (mVar 9) mNil))) mNil)) []) (mV .non))) (mEx (mApp (mVar 5) (mTup (mCons (mVar 8) (mCons (mBin oAdd (mVar 8) (mCall [true, false] den__law_sip (mCons (mVar 0) (mCons (mVar 3) mNil)) [])) (mCons (mVar 9) mNil)))))))))))) (mRet (mCB fTup (mCons (mVar 5) mNil)))))
def den__law_rows : M RV := fnDen 4 12 b__law_rows
abbrev s__law_made : Stmt := top 47
def d__law_made : He5.DefA := ⟨fun K => He.ga K "_law_made", "_law_made", "_law_made", defArgs s__law_made, defBody s__law_made, defScope s__law_made, [], []⟩
def b__law_made : S := (mRet (mMake "Rule" [false, false, false, false] den_Rule____init__ (mCons (mBin oIx (mVar 0) (mV (.int 0))) (mCons (mBin oIx (mVar 0) (mV (.int 1))) (mCons (mBin oIx (mVar 0) (mV (.int 2))) (mCons (mBin oIx (mVar 0) (mV (.int 3))) mNil)))) []))
def den__law_made : M RV := fnDen 1 1 b__law_made
abbrev s_fits : Stmt := top 35
def d_fits : He5.DefA := ⟨fun K => He.ga K "fits", "fits", "fits", defArgs s_fits, defBody s_fits, defScope s_fits, [.bl false], []⟩
def b_fits : S := (mSeq (mEx (mCall [false, false] den_check_notes (mCons (mVar 0) (mCons (mVar 1) mNil)) [])) (mSeq (mIf (mNot (mTru (mCB (fIsi isT) (mCons (mVar 2) (mCons (mV (.ty "bool")) mNil))))) M.bad mSkip) (mRet (mBin oIsN (mCall [false, false, false, false] den_ways_of (mCons (mVar 0) (mCons (mVar 1) (mCons (mTup mNil) (mCons (mVar 2) mNil)))) []) (mV .non)))))
def den_fits : M RV := fnDen 3 3 b_fits
abbrev s__law_fitting : Stmt := top 55
def d__law_fitting : He5.DefA := ⟨fun K => He.ga K "_law_fitting", "_law_fitting", "_law_fitting", defArgs s__law_fitting, defBody s__law_fitting, defScope s__law_fitting, [], []⟩
def b__law_fitting : S := (mSeq (mIf (mOr (mTru (mBin oNe (mCB fLen (mCons (mVar 2) mNil)) (mCB fLen (mCons (mVar 1) mNil)))) (mTru (mBin oNe (mCB fLst (mCons (mVar 2) mNil)) (mSortT (mVar 2))))) (mRet (mV (.bl false))) mSkip) (mSeq (mFor (mRng1 (mCB fLen (mCons (mVar 3) mNil))) (gN 4) (mSeq (mAsg (gT 2 (gsC (gN 8) (gsC (gN 9) gsN))) (mBin oIx (mVar 3) (mVar 4))) (mIf (mOr (mTru (mBin oLt (mVar 8) (mV (.int 0)))) (mOr (mTru (mBin oLt (mVar 9) (mVar 8))) (mAnd (mTru (mBin oGt (mVar 4) (mV (.int 0)))) (mTru (mBin oLt (mVar 8) (mBin oAdd (mBin oIx (mBin oIx (mVar 3) (mBin oSub (mVar 4) (mV (.int 1)))) (mV (.int 1))) (mBin oIx (mVar 0) (mV (.int 3))))))))) (mRet (mV (.bl false))) mSkip))) (mSeq (mFor (mZip (mCons (mVar 2) (mCons (mVar 1) mNil))) (gT 2 (gsC (gN 5) (gsC (gN 6) gsN))) (mSeq (mSet 7 (mComp [10] (mItems (mVar 3)) (gN 10) (mTru (mChain oLe oLe (mBin oIx (mVar 10) (mV (.int 0))) (mVar 5) (mBin oIx (mVar 10) (mV (.int 1))))) (mCall [false, false] den__law_mark (mCons (mVar 0) (mCons (mBin oIx (mVar 10) (mV (.int 0))) mNil)) []))) (mIf (mOr (mNot (mTru (mChain oLe oLe (mBin oIx (mVar 6) (mV (.int 0))) (mVar 5) (mBin oIx (mVar 6) (mV (.int 1)))))) (mTru (mBin oNe (mVar 7) (mIfE (mTru (mBin oIs (mBin oIx (mVar 6) (mV (.int 2))) (mV .non))) (mLst mNil) (mLst (mCons (mBin oIx (mVar 6) (mV (.int 2))) mNil)))))) (mRet (mV (.bl false))) mSkip))) (mRet (mV (.bl true))))))
def den__law_fitting : M RV := fnDen 4 11 b__law_fitting
abbrev s_are_minutes : Stmt := top 39
def d_are_minutes : He5.DefA := ⟨fun K => He.ga K "are_minutes", "are_minutes", "are_minutes", defArgs s_are_minutes, defBody s_are_minutes, defScope s_are_minutes, [], []⟩
def b_are_minutes : S := (mSeq (mIf (mOr (mNot (mTru (mCB (fIsi isT) (mCons (mVar 1) (mCons (mV (.ty "tuple")) mNil))))) (mOr (mTru (mBin oNe (mCB fLen (mCons (mVar 1) mNil)) (mCB fLen (mCons (mVar 0) mNil)))) (mNot (mTru (mCB fAll (mCons (mComp [4] (mItems (mVar 1)) (gN 4) mYes (mCall [false] den_is_integer (mCons (mVar 4) mNil) [])) mNil)))))) (mRet (mV (.bl false))) mSkip) (mSeq (mIf (mNot (mTru (mCB fAll (mCons (mComp [4, 5, 6, 7] (mZip (mCons (mVar 1) (mCons (mVar 0) mNil))) (gT 2 (gsC (gN 4) (gsC (gT 3 (gsC (gN 5) (gsC (gN 6) (gsC (gN 7) gsN)))) gsN))) mYes (mChain oLe oLe (mVar 5) (mVar 4) (mVar 6))) mNil)))) (mRet (mV (.bl false))) mSkip) (mRet (mCB fAll (mCons (mComp [2, 3] (mZip (mCons (mVar 1) (mCons (mSl (mVar 1) (mPt (mV (.int 1))) mNoP) mNil))) (gT 2 (gsC (gN 2) (gsC (gN 3) gsN))) mYes (mBin oLe (mVar 2) (mVar 3))) mNil)))))
def den_are_minutes : M RV := fnDen 2 8 b_are_minutes
abbrev s_are_stays : Stmt := top 38
def d_are_stays : He5.DefA := ⟨fun K => He.ga K "are_stays", "are_stays", "are_stays", defArgs s_are_stays, defBody s_are_stays, defScope s_are_stays, [], []⟩
def b_are_stays : S := (mSeq (mIf (mNot (mTru (mCB (fIsi isT) (mCons (mVar 1) (mCons (mV (.ty "tuple")) mNil))))) (mRet (mV (.bl false))) mSkip) (mSeq (mSet 2 (mV (.int 0))) (mSeq (mFor (mItems (mVar 1)) (gN 3) (mSeq (mIf (mOr (mNot (mTru (mCB (fIsi isT) (mCons (mVar 3) (mCons (mV (.ty "tuple")) mNil))))) (mOr (mTru (mBin oNe (mCB fLen (mCons (mVar 3) mNil)) (mV (.int 2)))) (mOr (mNot (mTru (mCall [false] den_is_integer (mCons (mBin oIx (mVar 3) (mV (.int 0))) mNil) []))) (mNot (mTru (mCall [false] den_is_integer (mCons (mBin oIx (mVar 3) (mV (.int 1))) mNil) [])))))) (mRet (mV (.bl false))) mSkip) (mSeq (mIf (mNot (mTru (mChain oLe oLe (mVar 2) (mBin oIx (mVar 3) (mV (.int 0))) (mBin oIx (mVar 3) (mV (.int 1)))))) (mRet (mV (.bl false))) mSkip) (mSet 2 (mBin oAdd (mBin oIx (mVar 3) (mV (.int 1))) (mProp "Rule" den_Rule__pause (mVar 0))))))) (mRet (mV (.bl true))))))
def den_are_stays : M RV := fnDen 2 4 b_are_stays
abbrev s_mark_at : Stmt := top 25
def d_mark_at : He5.DefA := ⟨fun K => He.ga K "mark_at", "mark_at", "mark_at", defArgs s_mark_at, defBody s_mark_at, defScope s_mark_at, [], []⟩
def b_mark_at : S := (mSeq (mSet 2 (mBin oIx (mCall [false] den_reach (mCons (mVar 0) mNil) []) (mV (.int 0)))) (mRet (mBin oAdd (mBin oAdd (mVar 1) (mVar 2)) (mBin oMod (mBin oSub (mNeg (mVar 1)) (mVar 2)) (mProp "Rule" den_Rule__step (mVar 0))))))
def den_mark_at : M RV := fnDen 2 3 b_mark_at
abbrev s_do_fit : Stmt := top 40
def d_do_fit : He5.DefA := ⟨fun K => He.ga K "do_fit", "do_fit", "do_fit", defArgs s_do_fit, defBody s_do_fit, defScope s_do_fit, [], []⟩
def b_do_fit : S := (mSeq (mEx (mCall [false, false] den_check_notes (mCons (mVar 0) (mCons (mVar 1) mNil)) [])) (mSeq (mIf (mOr (mNot (mTru (mCall [false, false] den_are_minutes (mCons (mVar 1) (mCons (mVar 2) mNil)) []))) (mNot (mTru (mCall [false, false] den_are_stays (mCons (mVar 0) (mCons (mVar 3) mNil)) [])))) (mRet (mV (.bl false))) mSkip) (mSeq (mFor (mZip (mCons (mVar 2) (mCons (mVar 1) mNil))) (gT 2 (gsC (gN 4) (gsC (gT 3 (gsC (gN 6) (gsC (gN 7) (gsC (gN 8) gsN)))) gsN))) (mSeq (mSet 5 (mComp [9, 10] (mItems (mVar 3)) (gT 2 (gsC (gN 9) (gsC (gN 10) gsN))) (mTru (mChain oLe oLe (mVar 9) (mVar 4) (mVar 10))) (mCall [false, false] den_mark_at (mCons (mVar 0) (mCons (mVar 9) mNil)) []))) (mIf (mTru (mBin oNe (mVar 5) (mIfE (mTru (mBin oIs (mVar 8) (mV .non))) (mLst mNil) (mLst (mCons (mVar 8) mNil))))) (mRet (mV (.bl false))) mSkip))) (mRet (mV (.bl true))))))
def den_do_fit : M RV := fnDen 4 11 b_do_fit
abbrev s__law_minutes : Stmt := top 52
def d__law_minutes : He5.DefA := ⟨fun K => He.ga K "_law_minutes", "_law_minutes", "_law_minutes", defArgs s__law_minutes, defBody s__law_minutes, defScope s__law_minutes, [], []⟩
def b__law_minutes : S := (mSeq (mSet 1 (mLst (mCons (mTup mNil) mNil))) (mSeq (mFor (mItems (mVar 0)) (gT 3 (gsC (gN 2) (gsC (gN 3) (gsC (gN 4) gsN)))) (mSeq (mSet 5 (mLst mNil)) (mSeq (mFor (mItems (mVar 1)) (gN 6) (mSeq (mSet 7 (mIfE (mTru (mBin oNe (mVar 6) (mTup mNil))) (mCB fMax2 (mCons (mVar 2) (mCons (mBin oIx (mVar 6) (mNeg (mV (.int 1)))) mNil))) (mVar 2))) (mSet 5 (mBin oAdd (mVar 5) (mComp [8] (mRng2 (mVar 7) (mBin oAdd (mVar 3) (mV (.int 1)))) (gN 8) mYes (mBin oAdd (mVar 6) (mTup (mCons (mVar 8) mNil)))))))) (mSet 1 (mVar 5))))) (mRet (mVar 1))))
def den__law_minutes : M RV := fnDen 1 9 b__law_minutes
abbrev s__law_cuts : Stmt := top 51
def d__law_cuts : He5.DefA := ⟨fun K => He.ga K "_law_cuts", "_law_cuts", "_law_cuts", defArgs s__law_cuts, defBody s__law_cuts, defScope s__law_cuts, [], []⟩
def b__law_cuts : S := (mSeq (mSet 1 (mLst (mCons (mLst mNil) mNil))) (mSeq (mFor (mRng1 (mCB fLen (mCons (mVar 0) mNil))) (gN 2) (mSeq (mSet 3 (mAndV (mBin oGt (mVar 2) (mV (.int 0))) (mAndV (mBin oIsN (mBin oIx (mBin oIx (mVar 0) (mVar 2)) (mV (.int 2))) (mV .non)) (mBin oEq (mBin oIx (mBin oIx (mVar 0) (mVar 2)) (mV (.int 2))) (mBin oIx (mBin oIx (mVar 0) (mBin oSub (mVar 2) (mV (.int 1)))) (mV (.int 2))))))) (mSeq (mSet 4 (mLst mNil)) (mSeq (mFor (mItems (mVar 1)) (gN 5) (mSet 4 (mBin oAdd (mVar 4) (mIfE (mTru (mVar 3)) (mLst (mCons (mBin oAdd (mVar 5) (mLst (mCons (mV (.int 1)) mNil))) (mCons (mBin oAdd (mVar 5) (mLst (mCons (mV (.int 0)) mNil))) mNil))) (mLst (mCons (mBin oAdd (mVar 5) (mLst (mCons (mV (.int 1)) mNil))) mNil)))))) (mSet 1 (mVar 4)))))) (mRet (mVar 1))))
def den__law_cuts : M RV := fnDen 1 6 b__law_cuts
abbrev s__law_span : Stmt := top 49
def d__law_span : He5.DefA := ⟨fun K => He.ga K "_law_span", "_law_span", "_law_span", defArgs s__law_span, defBody s__law_span, defScope s__law_span, [], []⟩
def b__law_span : S := (mSeq (mSet 2 (mBin oIx (mVar 0) (mV (.int 0)))) (mSeq (mIf (mTru (mBin oEq (mBin oIx (mVar 0) (mV (.int 1))) (mV (.str "next")))) (mRet (mTup (mCons (mCB fMax2 (mCons (mV (.int 0)) (mCons (mBin oAdd (mBin oSub (mVar 1) (mVar 2)) (mV (.int 1))) mNil))) (mCons (mVar 1) mNil)))) mSkip) (mSeq (mIf (mTru (mBin oEq (mBin oIx (mVar 0) (mV (.int 1))) (mV (.str "last")))) (mRet (mTup (mCons (mVar 1) (mCons (mBin oSub (mBin oAdd (mVar 1) (mVar 2)) (mV (.int 1))) mNil)))) mSkip) (mRet (mTup (mCons (mCB fMax2 (mCons (mV (.int 0)) (mCons (mBin oSub (mVar 1) (mBin oDiv (mVar 2) (mV (.int 2)))) mNil))) (mCons (mBin oAdd (mVar 1) (mBin oDiv (mBin oSub (mVar 2) (mV (.int 1))) (mV (.int 2)))) mNil)))))))
def den__law_span : M RV := fnDen 2 3 b__law_span
abbrev s__law_stays : Stmt := top 53
def d__law_stays : He5.DefA := ⟨fun K => He.ga K "_law_stays", "_law_stays", "_law_stays", defArgs s__law_stays, defBody s__law_stays, defScope s__law_stays, [], []⟩
def b__law_stays : S := (mSeq (mPar false [5, 6] (mCons (mLst mNil) (mCons (mNeg (mV (.int 1))) mNil))) (mSeq (mNFor 5 4 (mRng1 (mCB fLen (mCons (mVar 1) mNil))) (mNIf (mTru (mBin oIs (mBin oIx (mBin oIx (mVar 1) (mVar 4)) (mV (.int 2))) (mV .non))) (mSeq (mNIf (mAnd (mTru (mBin oNe (mVar 5) (mLst mNil))) (mTru (mBin oGe (mBin oIx (mVar 2) (mBin oIx (mBin oIx (mVar 5) (mNeg (mV (.int 1)))) (mV (.int 1)))) (mBin oIx (mVar 2) (mVar 4))))) (mRet (mK (mV .non))) mSkip) (mNSet 6 (mBin oIx (mVar 2) (mVar 4)))) (mNIf (mTru (mBin oEq (mBin oIx (mVar 3) (mVar 4)) (mV (.int 0)))) (mNPut 5 (mNeg (mV (.int 1))) (mV (.int 1)) (mVar 4)) (mSeq (mNSet 7 (mCall [false, false] den__law_span (mCons (mVar 0) (mCons (mBin oIx (mBin oIx (mVar 1) (mVar 4)) (mV (.int 2))) mNil)) [])) (mSeq (mNSet 8 (mCB fMax3 (mCons (mBin oIx (mVar 7) (mV (.int 0))) (mCons (mIfE (mTru (mBin oNe (mVar 5) (mLst mNil))) (mBin oAdd (mBin oIx (mVar 2) (mBin oIx (mBin oIx (mVar 5) (mNeg (mV (.int 1)))) (mV (.int 1)))) (mBin oIx (mVar 0) (mV (.int 3)))) (mV (.int 0))) (mCons (mBin oAdd (mVar 6) (mV (.int 1))) mNil))))) (mSeq (mNSet 9 (mCB fMin2 (mCons (mBin oIx (mVar 7) (mV (.int 1))) (mCons (mBin oIx (mVar 2) (mVar 4)) mNil)))) (mSeq (mNIf (mTru (mBin oGt (mVar 8) (mVar 9))) (mRet (mK (mV .non))) mSkip) (mNApp 5 (mLst (mCons (mVar 4) (mCons (mVar 4) (mCons (mVar 8) (mCons (mVar 9) mNil))))))))))))) (mRet (mVar 5))))
def den__law_stays : M RV := fnDen 4 10 b__law_stays
abbrev s__law_all : Stmt := top 54
def d__law_all : He5.DefA := ⟨fun K => He.ga K "_law_all", "_law_all", "_law_all", defArgs s__law_all, defBody s__law_all, defScope s__law_all, [], []⟩
def b__law_all : S := (mSeq (mSet 2 (mLst mNil)) (mSeq (mFor (mItems (mCall [false] den__law_minutes (mCons (mVar 1) mNil) [])) (gN 3) (mFor (mItems (mCall [false] den__law_cuts (mCons (mVar 1) mNil) [])) (gN 4) (mSeq (mSet 5 (mCall [false, false, false, false] den__law_stays (mCons (mVar 0) (mCons (mVar 1) (mCons (mVar 3) (mCons (mVar 4) mNil)))) [])) (mIf (mTru (mBin oIsN (mVar 5) (mV .non))) (mEx (mApp (mVar 2) (mTup (mCons (mVar 3) (mCons (mVar 5) mNil))))) mSkip)))) (mRet (mVar 2))))
def den__law_all : M RV := fnDen 2 6 b__law_all
abbrev s__law_right_k16 : Stmt := top 56
def d__law_right_k16 : He5.DefA := ⟨fun K => He.ga K "_law_right", "_law_right", "_law_right", defArgs s__law_right_k16, defBody s__law_right_k16, defScope s__law_right_k16, [], []⟩
def b__law_right_k16 : S := (mSeq (mFor (mRng1 (mV (.int 6))) (gN 1) (mSeq (mSet 2 (mCall [true, false] den__law_plan (mCons (mVar 0) (mCons (mV (.int 6)) mNil)) [])) (mSeq (mPar false [6, 7] (mCons (mCall [false] den__law_made (mCons (mVar 2) mNil) []) (mCons (mCall [true, false, false, false] den__law_rows (mCons (mVar 0) (mCons (mVar 2) (mCons (mV (.int 6)) (mCons (mV (.int 3)) mNil)))) []) mNil))) (mSeq (mSet 3 (mBin oMul (mBin oIx (mVar 2) (mV (.int 0))) (mCall [true, false] den__law_pick (mCons (mVar 0) (mCons (mLst (mCons (mV (.int 0)) (mCons (mV (.int 0)) (mCons (mV (.int 1)) (mCons (mCall [true, false] den__law_far (mCons (mVar 0) (mCons (mBin oPow (mV (.int 10)) (mV (.int 27))) mNil)) []) mNil))))) mNil)) []))) (mSeq (mSet 4 (mCB fTup (mCons (mComp [8, 9, 10] (mItems (mVar 7)) (gT 3 (gsC (gN 8) (gsC (gN 9) (gsC (gN 10) gsN)))) mYes (mTup (mCons (mBin oAdd (mVar 8) (mVar 3)) (mCons (mBin oAdd (mVar 9) (mVar 3)) (mCons (mIfE (mTru (mBin oIsN (mVar 10) (mV .non))) (mBin oAdd (mVar 10) (mVar 3)) (mV .non)) mNil))))) mNil))) (mSeq (mSet 5 (mCall [false, false] den_some_stays (mCons (mVar 6) (mCons (mVar 4) mNil)) [])) (mSeq (mIf (mOr (mTru (mBin oNe (mBin oIsN (mVar 5) (mV .non)) (mCall [false, false, false] den_fits (mCons (mVar 6) (mCons (mVar 4) mNil)) [(.bl false)]))) (mAnd (mTru (mBin oIsN (mVar 5) (mV .non))) (mTru (mBin oIs (mCallK [false, false] den_some_stays mNil (mCons (mVar 4) (mCons (mVar 6) mNil)) 0 2 [1, 0]) (mV .non))))) (mRet (mV (.bl false))) mSkip) (mSeq (mIf (mTru (mBin oIs (mVar 5) (mV .non))) mCt mSkip) (mSeq (mIf (mOr (mNot (mTru (mCB (fIsi isT) (mCons (mVar 5) (mCons (mV (.ty "tuple")) mNil))))) (mOr (mTru (mBin oNe (mCB fLen (mCons (mVar 5) mNil)) (mV (.int 2)))) (mOr (mNot (mTru (mCB (fIsi isT) (mCons (mBin oIx (mVar 5) (mV (.int 0))) (mCons (mV (.ty "tuple")) mNil))))) (mNot (mTru (mCB (fIsi isT) (mCons (mBin oIx (mVar 5) (mV (.int 1))) (mCons (mV (.ty "tuple")) mNil)))))))) (mRet (mV (.bl false))) mSkip) (mSeq (mIf (mOr (mNot (mTru (mCall [false, false, false, false] den__law_fitting (mCons (mVar 2) (mCons (mVar 4) (mCons (mBin oIx (mVar 5) (mV (.int 0))) (mCons (mBin oIx (mVar 5) (mV (.int 1))) mNil)))) []))) (mNot (mTru (mCall [false, false, false, false] den_do_fit (mCons (mVar 6) (mCons (mVar 4) (mCons (mBin oIx (mVar 5) (mV (.int 0))) (mCons (mBin oIx (mVar 5) (mV (.int 1))) mNil)))) [])))) (mRet (mV (.bl false))) mSkip) (mIf (mAnd (mTru (mBin oEq (mVar 3) (mV (.int 0)))) (mTru (mBin oNe (mBin oEq (mCall [false, false] den__law_all (mCons (mVar 2) (mCons (mVar 7) mNil)) []) (mLst mNil)) (mBin oIs (mVar 5) (mV .non))))) (mRet (mV (.bl false))) mSkip))))))))))) (mRet (mV (.bl true))))
def den__law_right_k16 : M RV := fnDen 1 11 b__law_right_k16
abbrev s__law_flask : Stmt := top 42
def d__law_flask : He5.DefA := ⟨fun K => He.ga K "_law_flask", "_law_flask", "_law_flask", defArgs s__law_flask, defBody s__law_flask, defScope s__law_flask, [], []⟩
def b__law_flask : S := (mSeq (mSet 2 (mIfE (mTru (mBin oLt (mVar 1) (mCB fLen (mCons (mVar 0) mNil)))) (mCB fInt (mCons (mBin oIx (mVar 0) (mVar 1)) mNil)) (mBin oAdd (mBin oMul (mV (.int 67)) (mVar 1)) (mV (.int 19))))) (mSeq (mSet 3 (mBin oAdd (mV (.int 40009)) (mBin oMul (mV (.int 907)) (mVar 1)))) (mSeq (mFor (mItems (mSl (mVar 0) mNoP (mPt (mV (.int 8))))) (gN 4) (mSet 3 (mBin oMod (mCB fInt (mCons (mBin oAdd (mBin oAdd (mBin oMul (mVar 3) (mV (.int 40692))) (mBin oMod (mCB fInt (mCons (mVar 4) mNil)) (mV (.int 999953)))) (mVar 1)) mNil)) (mV (.int 2147483399))))) (mSeq (mSet 3 (mBin oMod (mCB fInt (mCons (mBin oAdd (mBin oMul (mVar 3) (mV (.int 40692))) (mBin oMod (mCB fInt (mCons (mVar 2) mNil)) (mV (.int 999953)))) mNil)) (mV (.int 2147483399)))) (mRet (mLst (mCons (mIfE (mTru (mBin oGe (mCB fAbs (mCons (mVar 2) mNil)) (mBin oPow (mV (.int 10)) (mV (.int 18))))) (mCB fAbs (mCons (mVar 2) mNil)) (mV (.int 0))) (mCons (mVar 3) (mCons (mV (.int 0)) mNil)))))))))
def den__law_flask : M RV := fnDen 2 5 b__law_flask
abbrev s_law_k16 : Stmt := top 57
def d_law_k16 : He5.DefA := ⟨fun K => He.ga K "law", "law", "law", defArgs s_law_k16, defBody s_law_k16, defScope s_law_k16, [], []⟩
def b_law_k16 : S := (mSeq (mSet 1 (mMake "Rule" [false, false, false, false] den_Rule____init__ (mCons (mV (.int 30)) (mCons (mV (.str "next")) (mCons (mV (.int 120)) (mCons (mV (.int 15)) mNil)))) [])) (mSeq (mIf (mOr (mTru (mBin oIsN (mCall [false, false] den_some_stays (mCons (mVar 1) (mCons (mTup (mCons (mTup (mCons (mV (.int 600)) (mCons (mV (.int 600)) (mCons (mV (.int 630)) mNil)))) mNil)) mNil)) []) (mV .non))) (mTru (mBin oIs (mCall [false, false] den_some_stays (mCons (mVar 1) (mCons (mTup (mCons (mTup (mCons (mV (.int 0)) (mCons (mV (.int 3)) (mCons (mV .non) mNil)))) mNil)) mNil)) []) (mV .non)))) (mRet (mV (.bl false))) mSkip) (mRet (mCB fAll (mCons (mComp [2] (mRng1 (mCB fMax2 (mCons (mV (.int 2)) (mCons (mCB fMin2 (mCons (mCB fLen (mCons (mVar 0) mNil)) (mCons (mV (.int 4)) mNil))) mNil)))) (gN 2) mYes (mCall [true] den__law_right_k16 (mCons (mCall [false, false] den__law_flask (mCons (mVar 0) (mCons (mVar 2) mNil)) []) mNil) [])) mNil)))))
def den_law_k16 : M RV := fnDen 1 3 b_law_k16
def fa : List He.Fa := [.free "int", .free "isinstance", .free "bool", .glo "is_integer", .glo "is_between", .glo "check_number", .int "MOST_STEP" 1000000000000, .free "str", .glo "SETTINGS", .int "MOST_LIMIT" 1000000000000000000, .cls "Rule", .noat "Rule" "limit", .noat "Rule" "parts", .mkr "Rule", .glo "Rule", .glo "check_rule", .free "tuple", .free "enumerate", .int "MOST_NOTES" 40, .free "len", .int "MOST_MINUTE" 1000000000000000000000000000000, .glo "is_minute", .glo "is_mark", .glo "is_note", .glo "notes_fault", .glo "check_notes", .free "max", .glo "joins", .glo "reach", .glo "arrivals", .glo "least_arrival", .glo "ways_of", .glo "blocks_of", .glo "some_stays", .free "min", .free "range", .glo "_law_sip", .glo "_law_pick", .glo "_law_far", .glo "_law_plan", .glo "_law_mark", .glo "_law_rows", .glo "_law_made", .glo "fits", .free "list", .free "sorted", .free "zip", .glo "_law_fitting", .free "all", .glo "are_minutes", .glo "are_stays", .glo "mark_at", .glo "do_fit", .glo "_law_minutes", .glo "_law_cuts", .glo "_law_span", .glo "_law_stays", .glo "_law_all", .glo "_law_right", .free "abs", .glo "_law_flask", .glo "law"]
def fy : List Fy := [.tup "SETTINGS" (([(.str "next"), (.str "last"), (.str "near")] : List Val).map gv), .prop "Rule" "step", .prop "Rule" "setting", .prop "Rule" "pause", .gen fun K => tupAt K (He.dflAt ("ways_of", none) 0 K), .gen fun K => tupAt K (He.dflAt ("blocks_of", none) 0 K), .isi "Rule", .kit (.inl "NoneType") (.inl "int") false, .kit (.inl "bool") (.inl "int") true, .kit (.inl "int") (.inl "int") true, .kit (.inl "str") (.inl "int") false, .kit (.inl "list") (.inl "int") false, .kit (.inl "tuple") (.inl "int") false, .kit (.inl "dict") (.inl "int") false, .kit (.inr "Rule") (.inl "int") false, .kit (.inl "NoneType") (.inr "Rule") false, .kit (.inl "bool") (.inr "Rule") false, .kit (.inl "int") (.inr "Rule") false, .kit (.inl "str") (.inr "Rule") false, .kit (.inl "list") (.inr "Rule") false, .kit (.inl "tuple") (.inr "Rule") false, .kit (.inl "dict") (.inr "Rule") false, .kit (.inr "Rule") (.inr "Rule") true, .kit (.inl "NoneType") (.inl "bool") false, .kit (.inl "bool") (.inl "bool") true, .kit (.inl "int") (.inl "bool") false, .kit (.inl "str") (.inl "bool") false, .kit (.inl "list") (.inl "bool") false, .kit (.inl "tuple") (.inl "bool") false, .kit (.inl "dict") (.inl "bool") false, .kit (.inr "Rule") (.inl "bool") false, .kit (.inl "NoneType") (.inl "tuple") false, .kit (.inl "bool") (.inl "tuple") false, .kit (.inl "int") (.inl "tuple") false, .kit (.inl "str") (.inl "tuple") false, .kit (.inl "list") (.inl "tuple") false, .kit (.inl "tuple") (.inl "tuple") true, .kit (.inl "dict") (.inl "tuple") false, .kit (.inr "Rule") (.inl "tuple") false, .kit (.inl "NoneType") (.inl "str") false, .kit (.inl "bool") (.inl "str") false, .kit (.inl "int") (.inl "str") false, .kit (.inl "str") (.inl "str") true, .kit (.inl "list") (.inl "str") false, .kit (.inl "tuple") (.inl "str") false, .kit (.inl "dict") (.inl "str") false, .kit (.inr "Rule") (.inl "str") false]
def fn : List He5.DefA := [d_is_integer, d_is_between, d_check_number, d_Rule____init__, d_check_rule, d_is_minute, d_Rule__step, d_is_mark, d_is_note, d_notes_fault, d_check_notes, d_joins, d_Rule__setting, d_reach, d_arrivals, d_Rule__pause, d_least_arrival, d_ways_of, d_blocks_of, d_some_stays, d__law_sip, d__law_pick, d__law_far, d__law_plan, d__law_mark, d__law_rows, d__law_made, d_fits, d__law_fitting, d_are_minutes, d_are_stays, d_mark_at, d_do_fit, d__law_minutes, d__law_cuts, d__law_span, d__law_stays, d__law_all, d__law_right_k16, d__law_flask, d_law_k16]
end Pu.Q
set_option Elab.async false
set_option linter.all false
set_option maxRecDepth 100000
set_option maxHeartbeats 0
namespace Pu.Q
open PySem PySem.Spec PyProof.Rows L2 Pu
abbrev R : PySem.W.OpenRow := PySem.W.OpenLaw.row PySem.Challenge.rw_discwarden_k16_whole_stays_that_are_show
abbrev hk : PySem.W.Hook := hookP 5 fa fn fy
def ob (s : PySem.W.SharedT) : AlP := obsP 5 fa fn fy (HandSHeadRun.getT s)
theorem ob_eq (s : PySem.W.SharedT) : ob s = hk.obs s.abs := obsP_eq (HandSHeadRun.getT_eq s)
def loose : List Str := [("NotRight" : Str), ("InvalidText" : Str), ("InvalidNumber" : Str), ("InvalidSetting" : Str), ("NotARule" : Str), ("InvalidNotes" : Str), ("MOST_MINUTE" : Str), ("MOST_STEP" : Str), ("MOST_LIMIT" : Str), ("MOST_NOTES" : Str), ("FIGURES" : Str), ("MOST_FIGURES" : Str), ("is_integer" : Str), ("is_between" : Str), ("check_number" : Str), ("is_minute" : Str), ("number_in" : Str), ("SETTINGS" : Str), ("WORDS" : Str), ("Rule" : Str), ("check_rule" : Str), ("reach" : Str), ("mark_at" : Str), ("arrivals" : Str), ("is_mark" : Str), ("is_note" : Str), ("notes_fault" : Str), ("check_notes" : Str), ("joins" : Str), ("least_arrival" : Str), ("ways_of" : Str), ("fits" : Str), ("blocks_of" : Str), ("some_stays" : Str), ("are_stays" : Str), ("are_minutes" : Str), ("do_fit" : Str), ("_law_flask" : Str), ("_law_sip" : Str), ("_law_pick" : Str), ("_law_far" : Str), ("_law_plan" : Str), ("_law_made" : Str), ("_law_mark" : Str), ("_law_span" : Str), ("_law_rows" : Str), ("_law_cuts" : Str), ("_law_minutes" : Str), ("_law_stays" : Str), ("_law_all" : Str), ("_law_fitting" : Str), ("_law_right" : Str)]
theorem run (w : World) : HandSHeadRun.RunEq R (PySem.W.view R.prog [57]) hk ob 20000 loose w := by
  intro os
  kernel_rfl
end Pu.Q
set_option maxHeartbeats 4000000
set_option Elab.async false
set_option linter.all false
set_option maxRecDepth 100000
namespace Pu
open PySem PySem.Spec PyProof.Rows L2
section
variable {K : PySem.W.Frag} {F F' H H' : Hp}
theorem VRs.get' {vs : List Val} {us : List V} : VRs K F vs us → ∀ {i : Nat} {u : V}, us[i]? = some u → ∃ v, vs[i]? = some v ∧ VR K F v u
  | .nil, i, v, h => by simp at h
  | .cons r t, 0, v, h => by simp at h; subst h; exact ⟨_, rfl, r⟩
  | .cons r t, i + 1, v, h => by
    obtain ⟨u, h1, h2⟩ := t.get' (i := i) (u := v) (by simpa using h)
    exact ⟨u, by simpa using h1, h2⟩
theorem VRs.append {vs ws : List Val} {us xs : List V} : VRs K F vs us → VRs K F ws xs → VRs K F (vs ++ ws) (us ++ xs)
  | .nil, h => h
  | .cons r t, h => .cons r (VRs.append t h)
end
theorem plainO_tbl {o : HO} (h : plainO o = true) (ps : Array Value) : o ≠ .tbl ps := fun z => by subst z; cases h
theorem Tabs.put {T : List (Addr × Str)} {H : Hp} {a : Addr} {o o' : HO} (t : LamX.Tabs T H) (h : H a = some o) (p : plainO o = true) : LamX.Tabs T (upd H a o') := fun q hq => by
  obtain ⟨ps, h1, h2, h3⟩ := t q hq
  have ne : ∀ {b : Addr} {u : HO}, H b = some u → plainO u = false → b ≠ a := fun {b u} e g z => by
    subst z
    rw [h] at e
    cases e
    rw [p] at g; cases g
  refine ⟨ps, by rw [upd_ne (ne h1 rfl)]; exact h1, h2, fun pos cv hc => ?_⟩
  obtain ⟨c, e1, e2⟩ := h3 pos cv hc
  exact ⟨c, e1, by rw [upd_ne (ne e2 rfl)]; exact e2⟩
theorem Tabs.new {T : List (Addr × Str)} {H : Hp} {a : Addr} {o : HO} (t : LamX.Tabs T H) (h : H a = none) : LamX.Tabs T (upd H a o) := t.ext fun b u e => by rw [upd_ne (ne_of_none e h)]; exact e
abbrev tE (K : PySem.W.Frag) (W : WX) (m : M RV) : TE := tM K W (RR K) m
abbrev tT (K : PySem.W.Frag) (W : WX) (m : M Bool) : TT := tM K W (fun _ _ _ _ _ (b c : Bool) => b = c) m
abbrev tA (K : PySem.W.Frag) (W : WX) (m : M (List RV)) : TA := tM K W (RRs K) m
class Carry {α β : Type} (K : PySem.W.Frag) (R : Bg → Hp → Hp → Ev → Sig → α → β → Prop) : Prop where
  out : ∀ {B : Bg} {F0 H0 F H : Hp} {e0 e : Ev} {σ : Sig} {a : α} {b : β}, Cur K B F0 H0 e0 σ → R (bg B.np F0 H0 e0 σ) F H e σ a b → R B F H e σ a b
instance {K : PySem.W.Frag} : Carry K (RR K) := ⟨RR.out⟩
instance {K : PySem.W.Frag} : Carry K (RRs K) := ⟨fun C h => by
  induction h with
  | nil => exact .nil
  | cons r d _ ih => exact .cons (r.out C) d ih⟩
instance {K : PySem.W.Frag} : Carry K (fun _ _ _ _ _ (b c : Bool) => b = c) := ⟨fun _ h => h⟩
section
variable {K : PySem.W.Frag} {W : WX} {α β α' β' : Type} {R1 : Bg → Hp → Hp → Ev → Sig → α → β → Prop} {R2 : Bg → Hp → Hp → Ev → Sig → α' → β' → Prop} {B : Bg} {F H : Hp} {e : Ev} {σ : Sig}
theorem use [Carry K R1] {m : M α} {f : α → M α'} {Q : β' → Hp → Prop} {G : β → Hp → Prop} (C : Cur K B F H e σ) (h : At K W R2 B (m.bind f) F e σ H Q)
    (k : ∀ r e1 F1 H1 x, Cur K B F1 H1 e1 σ → R1 B F1 H1 e1 σ r x → Cur K (bg B.np F H e σ) F1 H1 e1 σ → At K W R2 B (f r) F1 e1 σ H1 Q → G x H1) : tM K W R1 m σ H G := by
  refine ⟨B.np, F, e, C.rel, ?_⟩
  unfold At M.bind at h
  unfold At
  cases hm : m e with
  | bad => rw [hm] at h; exact h
  | rs x e' =>
    rw [hm] at h
    intro F' H' cls d C' X'
    exact h F' H' cls d (C.trans C') X'
  | ok r e' =>
    rw [hm] at h
    intro F' H' u C' r'
    exact k r e' F' H' u (C.trans C') (Carry.out C r') C' h
theorem useS {m : M α} {f : α → M α'} {Q : β' → Hp → Prop} {G : β → Hp → Prop} (C : Cur K B F H e σ) (h : At K W R2 B (m.bind f) F e σ H Q)
    (k : ∀ r e1 F1 H1 x, Cur K B F1 H1 e1 σ → R1 (bg B.np F H e σ) F1 H1 e1 σ r x → Cur K (bg B.np F H e σ) F1 H1 e1 σ → At K W R2 B (f r) F1 e1 σ H1 Q → G x H1) : tM K W R1 m σ H G := by
  refine ⟨B.np, F, e, C.rel, ?_⟩
  unfold At M.bind at h
  unfold At
  cases hm : m e with
  | bad => rw [hm] at h; exact h
  | rs x e' =>
    rw [hm] at h
    intro F' H' cls d C' X'
    exact h F' H' cls d (C.trans C') X'
  | ok r e' =>
    rw [hm] at h
    intro F' H' u C' r'
    exact k r e' F' H' u (C.trans C') r' C' h
theorem use1 [Carry K R1] {m : M α} {Q : β → Hp → Prop} (C : Cur K B F H e σ) (h : At K W R1 B m F e σ H Q) : tM K W R1 m σ H Q := by
  refine ⟨B.np, F, e, C.rel, ?_⟩
  unfold At at h ⊢
  cases hm : m e with
  | bad => rw [hm] at h; exact h
  | rs x e' =>
    rw [hm] at h
    exact fun F' H' cls d C' X' => h F' H' cls d (C.trans C') X'
  | ok r e' =>
    rw [hm] at h
    exact fun F' H' u C' r' => h F' H' u (C.trans C') (Carry.out C r')
end
end Pu
set_option Elab.async false
set_option linter.all false
set_option maxRecDepth 100000
namespace Pu
open PySem PySem.Spec PyProof.Rows L2
theorem FnG.up {P : Program} {w : World} {K : PySem.W.Frag} {mg : Str → Option Value} {base : Heap} {j k : Nat} {f : Addr} {fd : FuncData} {ps : List Str} {sp : Sp} (F : FnG P w K mg base j f fd ps sp) (h : j ≤ k) :
    FnG P w K mg base k f fd ps sp :=
  ⟨F.many, fun A o s H a us vs Q E hr => F.goes A o s H a us vs Q E (hr.mono h)⟩
theorem guards_deeper {A : Around} {env : Env} (h : A.guards = some []) : (A.deeper env).guards = some [] := by
  first
    | exact h
    | simpa [Around.deeper] using h
theorem guards_make {A : Around} {C : Addr} {us : List Value} {kw : List (Str × Value)} (h : A.guards = some []) : (A.under (.builtin "type.__call__" ⟨.ref C :: us, kw⟩)).guards = some [] := by
  first
    | exact h
    | simpa [Around.under, pushGuards, Code.guards, Code.isGuard, guardIds] using h
section
variable {P : Program} {w : World} {K : PySem.W.Frag} {mg : Str → Option Value} {base : Heap}
theorem fnG_of {x qual : Str} {params : Arguments} {body : List Stmt} {scope : Scope} {dvs : List V} {kws : List (Str × V)} {f : Addr} {fd : FuncData} {N ps : List Str} {k : Nat} {sp : Sp}
    (D : FunD K x qual params body scope dvs kws f fd) (S : FnScope N ps scope) (many : ∀ vs H Q E, sp vs H Q E → vs.length = ps.length)
    (hb : ∀ (cdv : Value) (A : Around) (outer : List Env) (s : Shared) (H : Hp) (vs : List V) (Q : VK) (E : XK), Room k (A.deeper (envOfC qual scope s.heap.objs.size f cdv)) → A.guards = some [] → sp vs H Q E →
      ∃ t, PSs (cxOf (L2N.CX P w) P w K mg base N qual scope f cdv A outer s H E) body t ∧
        t { nx := fun _ H' => Q .non H', rt := Q } (start N vs) H) : FnG P w K mg base (k + 1) f fd ps sp := by
  obtain ⟨c0, c1, dV, kV, c2, c3, c4, cdv, c5, c6, rfl, look, cin, -, -⟩ := D.ex
  refine ⟨many, ?_⟩
  intro A outer s H args us vs Q E hr hG e0 bt rel hsp
  have nlen := many _ _ _ _ hsp
  have stay : ∀ b o, base.get? b = some o → s.heap.get? b = some o := fun b o h => (e0.bs b o h).1
  have inK : K.In s.heap := e0.mod.kin.keeps stay
  have nolim : s.heap.NoLimit := e0.mod.nolimit.keeps stay
  have kinds : ∀ y ∈ ps.zip us, scope.names.lookup y.1 = some .local ∨
      (scope.names.lookup y.1 = some .cell ∧ ((cellsFrom (s.heap.objs.size + 1) scope.names []).lookup y.1).isSome = true) := by
    intro y hy
    obtain ⟨n, v⟩ := y
    cases S.par n (List.of_mem_zip hy).1 with
    | inl q => exact .inl q
    | inr q => exact .inr ⟨q, PySem.W.cellsFrom_some _ _ _ (.inl q)⟩
  refine codeAny_call_function hr.depth (inK _ _ look) rfl S.co S.gen rfl (PySem.W.codeRec_of inK cin) (bt _ _ _ _ ?_)
  refine wpAny_newFunctionEnv_cells S.kind kinds ?_
  intro env same s1 made
  subst same
  refine ⟨nolim.keeps made.toInCall.keep, codeAny_func ?_⟩
  obtain ⟨t, runs, wish⟩ := hb cdv A outer s H vs Q E (hr.deeper _) hG hsp
  have J := inv_start (CX := L2N.CX P w) (E := E) (cd := cdv) S hr.hd e0 nlen rel made
  refine wpAny_mono (runs.run [] s1 (start N vs) H _ J wish) (fun fl s' got => ?_) (fun _ _ z => z)
  cases fl with
  | brk => obtain ⟨_, _, _, no⟩ := got; exact no.elim
  | cont => obtain ⟨_, _, _, no⟩ := got; exact no.elim
  | next =>
    obtain ⟨σ', H', I', q⟩ := got
    exact ⟨.non, H', I'.os, I'.bare, I'.base, I'.hok, rfl, q⟩
  | ret u =>
    obtain ⟨v, σ', H', I', rv, q⟩ := got
    exact ⟨v, H', I'.os, I'.bare, I'.base, I'.hok, rv, q⟩
end
section
variable {X : Cx} {k : Nat} {f C : Addr} {fd : FuncData} {ps : List Str} {sp : Sp} {W : WX} {x m : Str} {p pos apos : Pos} {e o : Expr} {es : List Expr} {ta : TE} {t : TA}
theorem end_of {pins : List (Addr × Obj)} {σ : Sig} {H : Hp} {s s' : Shared} {Q : VK} {r : Result} (tk : L2N.Takes X W) (I : Inv X pins σ H s)
    (h : CR (L2N.CX X.prog X.w) X.stack X.prog X.w H s Q (WE W σ) r s') : match r with
      | .ok (.ret u) => EP X pins σ Q u s'
      | .ok _ => False
      | .error z => X.xe z s' := by
  cases r with
  | error z => exact L2N.passAt tk σ pins H s z s' I h
  | ok fl => cases fl with
    | ret u => exact I.after h
    | next => exact h
    | brk => exact h
    | cont => exact h
theorem goG {pins : List (Addr × Obj)} {σ : Sig} {H : Hp} {s : Shared} {Q : VK} {us zs : List Value} {kw : List (Str × Value)} {vs : List V} (F : FnG X.prog X.w X.K X.mg X.base k f fd ps sp) (hr : Room k X.A) (hG : X.A.guards = some []) (tk : L2N.Takes X W)
    (I : Inv X pins σ H s) (bt : BindsTo s fd ⟨us, kw⟩ (ps.zip zs)) (r : Vals vs zs) (h : sp vs H Q (WE W σ)) : wpAny (model X.prog X.w) X.A (call (.ref f) us kw) (EP X pins σ Q) X.xe s := by
  refine wpAny_call (codeAny_mono (F.goes X.A X.stack s H ⟨us, kw⟩ zs vs Q (WE W σ) hr hG I.env0 bt r h) fun res s' got => ?_)
  have q := end_of tk I got
  cases res with
  | error z => exact q
  | ok fl => cases fl with
    | ret u => exact q
    | next => exact q.elim
    | brk => exact q.elim
    | cont => exact q.elim
def BindG (K : PySem.W.Frag) (fd : FuncData) (ps : List Str) (ds : List Value) : Prop := Binds K fd ps ds
def cG (sp : Sp) (W : WX) (dvs : List V) (t : TA) : TE := fun σ H Q => t σ H fun vs H1 => sp (vs ++ dvs) H1 Q (WE W σ)
theorem pg_call {dvs : List V} {ds : List Value} (F : FnG X.prog X.w X.K X.mg X.base k f fd ps sp) (hr : Room k X.A) (hG : X.A.guards = some []) (tk : L2N.Takes X W) (gl : Gl X x) (at_ : X.mg x = some (.ref f)) (kp : PySem.W.keepIn X.K (.ref f) = true)
    (hb : Binds X.K fd ps ds) (hd : Vals dvs ds) (ha : PA X (e :: es) t) (n1 : (x == ("__debug__" : Str)) = false := by decide)
    (n2 : starEach (e :: es) X.env = (false, eval e X.env) :: starEach es X.env := by rfl) (n3 : (backTo pos (starEach es X.env)).any (·.1) = false := by rfl) :
    PE X (.Call (.Name x p) (e :: es) [] pos) (cG sp W dvs t) := by
  constructor
  intro pins s σ H Q I h
  refine wpAny_Call_Name_kw (ld_glob I gl at_ ?_ n1)
  refine PySem.W.callWith_K (h₀ := X.base) I.ok.mod.kin kp (thn (ha.run pos pins s σ H _ I h) ?_) n2 n3
  rintro us s1 ⟨vs, H1, I1, r, q⟩
  refine ⟨I1.kIn, ?_⟩
  have rd := r.append hd
  exact goG F hr hG tk I1 (hb s1 us I1.kIn (rd.length.symm.trans (F.many _ _ _ _ q))) rd q
theorem pg_call0 {dvs : List V} {ds : List Value} (F : FnG X.prog X.w X.K X.mg X.base k f fd ps sp) (hr : Room k X.A) (hG : X.A.guards = some []) (tk : L2N.Takes X W) (gl : Gl X x) (at_ : X.mg x = some (.ref f)) (kp : PySem.W.keepIn X.K (.ref f) = true)
    (hb : Binds X.K fd ps ds) (hd : Vals dvs ds) (n1 : (x == ("__debug__" : Str)) = false := by decide) : PE X (.Call (.Name x p) [] [] pos) (cG sp W dvs tNil) := by
  constructor
  intro pins s σ H Q I h
  have rd : Vals ([] ++ dvs) ([] ++ ds) := hd
  refine wpAny_Call_Name_kw (ld_glob I gl at_ (PySem.W.callWith_K0 I.kIn kp ?_) n1)
  exact goG F hr hG tk I (hb s [] I.kIn (rd.length.symm.trans (F.many _ _ _ _ h))) rd h
def cGK (sp : Sp) (W : WX) (gV : List V → List V → List V) (t u : TA) : TE := fun σ H Q => t σ H fun vs H1 => u σ H1 fun zs H2 => sp (gV vs zs) H2 Q (WE W σ)
theorem pg_callK {kws : List Keyword} {u : TA} {ks : List Str} {g : List Value → List Value → List Value} {gV : List V → List V → List V} (F : FnG X.prog X.w X.K X.mg X.base k f fd ps sp) (hr : Room k X.A) (hG : X.A.guards = some []) (tk : L2N.Takes X W) (gl : Gl X x)
    (at_ : X.mg x = some (.ref f)) (kp : PySem.W.keepIn X.K (.ref f) = true) (hb : KBinds X.K fd ps ks g gV) (ha : PA X (e :: es) t) (hk : PK X kws u)
    (k1 : (backToKw pos (keywordEach kws X.env)).all (·.1.isSome) = true := by rfl) (k2 : (backToKw pos (keywordEach kws X.env)).filterMap (·.1) = ks := by rfl) (n1 : (x == ("__debug__" : Str)) = false := by decide)
    (n2 : starEach (e :: es) X.env = (false, eval e X.env) :: starEach es X.env := by rfl)
    (n3 : ((backTo pos (starEach (e :: es) X.env)).any (·.1) || (backToKw pos (keywordEach kws X.env)).any (·.1.isNone)) = false := by rfl) : PE X (.Call (.Name x p) (e :: es) kws pos) (cGK sp W gV t u) := by
  constructor
  intro pins s σ H Q I h
  refine wpAny_Call_Name_kw (ld_glob I gl at_ ?_ n1)
  refine PySem.W.callWith_KW (h₀ := X.base) I.ok.mod.kin kp k1 (thn (ha.run pos pins s σ H _ I h) ?_) n3 n2
  rintro us s1 ⟨vs, H1, I1, r, q⟩
  refine thn (hk.run pos pins s1 σ H1 _ I1 q) ?_
  rintro ws s2 ⟨zs, H2, I2, rz, q2⟩
  refine ⟨I2.kIn, ?_⟩
  rw [k2]
  have rd := hb.rel r rz
  exact goG F hr hG tk I2 (hb.to s2 us ws I2.kIn (rd.length.symm.trans (F.many _ _ _ _ q2))) rd q2
def mG (C : Addr) (m : Str) (sp : Sp) (W : WX) (dvs : List V) (ta : TE) (t : TA) : TE := fun σ H Q => ta σ H fun y H1 => ∃ a dx fs, y = .ref a ∧ H1 a = some (.ins C dx fs) ∧ fs.lookup m = none ∧
  t σ H1 fun vs H2 => sp (y :: (vs ++ dvs)) H2 Q (WE W σ)
theorem pg_meth {pl : Sem Bool} {dvs : List V} {ds : List Value} (he : PE X o ta) (c : Cls X.K C) (hm : Meth X.K C m f) (F : FnG X.prog X.w X.K X.mg X.base k f fd ps sp) (hr : Room k X.A) (hG : X.A.guards = some []) (tk : L2N.Takes X W)
    (hb : Binds X.K fd ps ds) (hd : Vals dvs ds) (ha : PA X (e :: es) t) (n2 : starEach (e :: es) X.env = (false, eval e X.env) :: starEach es X.env := by rfl) (n3 : (backTo pos (starEach es X.env)).any (·.1) = false := by rfl)
    (look : eval (.Call (.Attribute o m apos) (e :: es) [] pos) X.env = (do
      let ov ← eval o X.env
      standAt apos.atName
      let (f, first) ← holding [ov] (getMethod ov m pl)
      callWith pos f first (backTo pos (starEach (e :: es) X.env)) (backToKw pos (keywordEach [] X.env))) := by rfl) : PE X (.Call (.Attribute o m apos) (e :: es) [] pos) (mG C m sp W dvs ta t) := by
  constructor
  intro pins s σ H Q I h
  refine PySem.W.methodCall_KW (pl := pl) (thn (he.run pins s σ H _ I h) ?_) look
  rintro v s1 ⟨y, H1, I1, ry, a, dx, fs, rfl, ia, nl, q⟩
  obtain rfl : v = Value.ref a := ry
  refine getmeth_ok I1 ia c hm nl ?_
  refine PySem.W.callWith_K (first := [.ref a]) (h₀ := X.base) I.ok.mod.kin hm.kp (thn (ha.run pos pins s1 σ H1 _ I1 q) ?_) n2 n3
  rintro us s2 ⟨vs, H2, I2, r, q2⟩
  refine ⟨I2.kIn, ?_⟩
  have rd : Vals (V.ref a :: (vs ++ dvs)) (Value.ref a :: (us ++ ds)) := .cons rfl (r.append hd)
  exact goG F hr hG tk I2 (hb s2 (.ref a :: us) I2.kIn (rd.length.symm.trans (F.many _ _ _ _ q2))) rd q2
theorem pg_meth0 {pl : Sem Bool} {dvs : List V} {ds : List Value} (he : PE X o ta) (c : Cls X.K C) (hm : Meth X.K C m f) (F : FnG X.prog X.w X.K X.mg X.base k f fd ps sp) (hr : Room k X.A) (hG : X.A.guards = some []) (tk : L2N.Takes X W)
    (hb : Binds X.K fd ps ds) (hd : Vals dvs ds)
    (look : eval (.Call (.Attribute o m apos) [] [] pos) X.env = (do
      let ov ← eval o X.env
      standAt apos.atName
      let (f, first) ← holding [ov] (getMethod ov m pl)
      callWith pos f first (backTo pos (starEach [] X.env)) (backToKw pos (keywordEach [] X.env))) := by rfl) : PE X (.Call (.Attribute o m apos) [] [] pos) (mG C m sp W dvs ta tNil) := by
  constructor
  intro pins s σ H Q I h
  refine PySem.W.methodCall_KW (pl := pl) (thn (he.run pins s σ H _ I h) ?_) look
  rintro v s1 ⟨y, H1, I1, ry, a, dx, fs, rfl, ia, nl, q⟩
  obtain rfl : v = Value.ref a := ry
  refine getmeth_ok I1 ia c hm nl (PySem.W.callWith_K0 (first := [.ref a]) I1.kIn hm.kp ?_)
  have rd : Vals (V.ref a :: ([] ++ dvs)) (Value.ref a :: ([] ++ ds)) := .cons rfl hd
  exact goG F hr hG tk I1 (hb s1 [.ref a] I1.kIn (rd.length.symm.trans (F.many _ _ _ _ q))) rd q
def nG (C : Addr) (sp : Sp) (W : WX) (dvs : List V) (t : TA) : TE := fun σ H Q => t σ H fun vs H1 => ∀ y dx, H1 y = none → H1 dx = none → dx ≠ y →
  sp (.ref y :: (vs ++ dvs)) (upd (upd H1 dx (.own y)) y (.ins C dx [])) (fun v H2 => v = .non ∧ Q (.ref y) H2) (WE W σ)
theorem goMake {pins : List (Addr × Obj)} {σ : Sig} {H : Hp} {s : Shared} {Q : VK} {us : List Value} {vs dvs : List V} {ds : List Value} (Mk : Mk X.K C f) (F : FnG X.prog X.w X.K X.mg X.base k f fd ps sp) (hr : Room (k + 1) X.A) (hG : X.A.guards = some []) (tk : L2N.Takes X W)
    (hb : Binds X.K fd ps ds) (hd : Vals dvs ds) (I : Inv X pins σ H s) (r : Vals vs us)
    (h : ∀ y dx, H y = none → H dx = none → dx ≠ y → sp (.ref y :: (vs ++ dvs)) (upd (upd H dx (.own y)) y (.ins C dx [])) (fun v H2 => v = .non ∧ Q (.ref y) H2) (WE W σ)) :
    wpAny (model X.prog X.w) X.A (call (.ref C) us) (EP X pins σ Q) X.xe s := by
  have wish := h (s.heap.objs.size + 1) s.heap.objs.size (I.hok.fresh (Nat.le_succ _)) (I.hok.fresh (Nat.le_refl _)) (Nat.ne_of_lt (Nat.lt_succ_self _))
  have J := Inv.made (C := C) I
  have rd : Vals (V.ref (s.heap.objs.size + 1) :: (vs ++ dvs)) (Value.ref (s.heap.objs.size + 1) :: (us ++ ds)) := .cons rfl (r.append hd)
  have bt := hb _ (Value.ref (s.heap.objs.size + 1) :: us) J.kIn (rd.length.symm.trans (F.many _ _ _ _ wish))
  have runs := F.goes _ X.stack _ _ ⟨Value.ref (s.heap.objs.size + 1) :: us, []⟩ _ _ _ (WE W σ) (hr.make C us []) (guards_make hG) (J.env0.make C us []) bt rd wish
  refine wpAny_call (make_map (f := f) I.kIn Mk.makes Mk.init (beq_iff_eq.mp Mk.fn) (codeAny_mono runs fun res s' got => ?_))
  have q := end_of tk J got
  cases res with
  | error z => exact q
  | ok fl => cases fl with
    | ret u =>
      obtain ⟨v, H', I3, rv, ev, q3⟩ := q
      subst ev
      exact ⟨rv, V.ref (s.heap.objs.size + 1), H', I3, rfl, q3⟩
    | next => exact q.elim
    | brk => exact q.elim
    | cont => exact q.elim
theorem pg_make {dvs : List V} {ds : List Value} (Mk : Mk X.K C f) (F : FnG X.prog X.w X.K X.mg X.base k f fd ps sp) (hr : Room (k + 1) X.A) (hG : X.A.guards = some []) (tk : L2N.Takes X W) (gl : Gl X x) (at_ : X.mg x = some (.ref C)) (hb : Binds X.K fd ps ds) (hd : Vals dvs ds)
    (ha : PA X (e :: es) t) (n1 : (x == ("__debug__" : Str)) = false := by decide) (n2 : starEach (e :: es) X.env = (false, eval e X.env) :: starEach es X.env := by rfl)
    (n3 : (backTo pos (starEach es X.env)).any (·.1) = false := by rfl) : PE X (.Call (.Name x p) (e :: es) [] pos) (nG C sp W dvs t) := by
  constructor
  intro pins s σ H Q I h
  refine wpAny_Call_Name_kw (ld_glob I gl at_ ?_ n1)
  refine PySem.W.callWith_K (h₀ := X.base) I.ok.mod.kin Mk.kp (thn (ha.run pos pins s σ H _ I h) ?_) n2 n3
  rintro us s1 ⟨vs, H1, I1, r, q⟩
  exact ⟨I1.kIn, goMake Mk F hr hG tk hb hd I1 r q⟩
end
end Pu
set_option Elab.async false
set_option linter.all false
set_option maxRecDepth 100000
namespace Pu
open PySem PySem.Spec PyProof.Rows L2
theorem Slot.un_ne : ∀ w, Slot.un ≠ .own w := fun _ z => nomatch z
theorem M.ret_bind {α β : Type} (a : α) (f : α → M β) : (M.ret a).bind f = f a := rfl
section
variable {K : PySem.W.Frag} {W : WX} {B : Bg} {F F' H H' : Hp} {e : Ev} {σ : Sig}
theorem Own.unset {i : Nat} {s : Slot} {a : Addr} {o : Option V} (hs : ∀ v, s ≠ .own v) (h : Own (e.set i s) (σ.set i o) a) : Own e σ a := by
  obtain ⟨j, v, h1, h2⟩ := h
  rcases getset h1 with ⟨_, z, _⟩ | ⟨z, h1⟩
  · exact absurd z.symm (hs v)
  · rw [List.getElem?_set_ne z] at h2
    exact ⟨j, v, h1, h2⟩
theorem Cur.setDat {i : Nat} {v : Val} {u : V} (C : Cur K B F H e σ) (r : VR K F v u) : Cur K B F H (e.set i (.dat v)) (σ.set i (some u)) := by
  refine ⟨C.post, ⟨C.rel.sub, by rw [List.length_set, List.length_set]; exact C.rel.len, fun j q o a1 a2 => ?_, fun j k v' w a h1 h2 h3 h4 => ?_, C.rel.tb, C.rel.nt⟩, fun a q => C.own a (q.unset Slot.dat_ne), by rw [List.length_set]; exact C.ln, fun j v' hj h => ?_⟩
  · rcases getset a1 with ⟨z, z2, _⟩ | ⟨z, a1⟩
    · subst z z2
      rcases getset a2 with ⟨_, z2, _⟩ | ⟨z, _⟩
      · exact ⟨u, z2, r⟩
      · exact absurd rfl z
    · rw [List.getElem?_set_ne z] at a2
      exact C.rel.slot j q o a1 a2
  · rcases getset h1 with ⟨_, z, _⟩ | ⟨z1, h1⟩
    · cases z
    · rcases getset h2 with ⟨_, z, _⟩ | ⟨z2, h2⟩
      · cases z
      · rw [List.getElem?_set_ne z1] at h3
        rw [List.getElem?_set_ne z2] at h4
        exact C.rel.inj j k v' w a h1 h2 h3 h4
  · rcases getset h with ⟨_, z, _⟩ | ⟨z, h⟩
    · cases z
    · rw [List.getElem?_set_ne z]
      exact C.par j v' hj h
theorem Cur.setOwn {i : Nat} {v : Val} {t : Addr} (C : Cur K B F H e σ) (h1 : F t = none) (h2 : CellR K F H v t) (h3 : ¬ Own e σ t) (h4 : B.mine t) (hp : B.np ≤ i) : Cur K B F H (e.set i (.own v)) (σ.set i (some (.ref t))) := by
  have other : ∀ {j : Nat} {w : Val} {a : Addr}, (e.set i (.own v))[j]? = some (.own w) → (σ.set i (some (.ref t)))[j]? = some (some (.ref a)) → (i = j ∧ a = t) ∨ (i ≠ j ∧ e[j]? = some (.own w) ∧ σ[j]? = some (some (.ref a))) := fun {j w a} a1 a2 => by
    rcases getset a1 with ⟨z, _, _⟩ | ⟨z, a1⟩
    · rcases getset a2 with ⟨_, z2, _⟩ | ⟨z', _⟩
      · cases z2; exact .inl ⟨z, rfl⟩
      · exact absurd z z'
    · rw [List.getElem?_set_ne z] at a2
      exact .inr ⟨z, a1, a2⟩
  refine ⟨C.post, ⟨C.rel.sub, by rw [List.length_set, List.length_set]; exact C.rel.len, fun j q o a1 a2 => ?_, fun j k v' w a a1 a2 a3 a4 => ?_, C.rel.tb, C.rel.nt⟩, fun a q => ?_, by rw [List.length_set]; exact C.ln, fun j v' hj h => ?_⟩
  · rcases getset a1 with ⟨z, z2, _⟩ | ⟨z, a1⟩
    · subst z z2
      rcases getset a2 with ⟨_, z2, _⟩ | ⟨z, _⟩
      · exact ⟨t, z2, h1, h2⟩
      · exact absurd rfl z
    · rw [List.getElem?_set_ne z] at a2
      exact C.rel.slot j q o a1 a2
  · rcases other a1 a3 with ⟨z1, z2⟩ | ⟨z1, b1, b2⟩
    · rcases other a2 a4 with ⟨z3, _⟩ | ⟨_, c1, c2⟩
      · exact z1.symm.trans z3
      · exact absurd ⟨k, w, c1, z2 ▸ c2⟩ h3
    · rcases other a2 a4 with ⟨_, z4⟩ | ⟨_, c1, c2⟩
      · exact absurd ⟨j, v', b1, z4 ▸ b2⟩ h3
      · exact C.rel.inj j k v' w a b1 c1 b2 c2
  · obtain ⟨j, w, a1, a2⟩ := q
    rcases other a1 a2 with ⟨_, z2⟩ | ⟨_, b1, b2⟩
    · rw [z2]; exact h4
    · exact C.own a ⟨j, w, b1, b2⟩
  · rcases getset h with ⟨z, _, _⟩ | ⟨z, h⟩
    · omega
    · rw [List.getElem?_set_ne z]
      exact C.par j v' hj h
theorem RR.carry {F0 H0 : Hp} {e0 : Ev} {r : RV} {u : V} (h : RR K B F0 H0 e0 σ r u) {np : Nat} (c : Cur K (bg np F0 H0 e0 σ) F H e σ) : RR K B F H e σ r u := by
  cases r with
  | dat v => exact VR.mono c.post.sub h
  | bor i => exact h
  | tmp v =>
    obtain ⟨t, h1, h2, h3, h4, h5⟩ := h
    obtain ⟨o, ho, hp⟩ := h3.someP
    have no : ¬ (bg np F0 H0 e0 σ).mine t := fun z => by
      rcases z with z | z
      · exact h4 z
      · have z' : H0 t = none := z
        rw [ho] at z'; cases z'
    have hF : F t = none := by
      cases q : F t with
      | none => rfl
      | some x =>
        rcases c.post.nw t (by rw [q]; simp) with z | z
        · exact absurd h2 z
        · exact absurd z no
    exact ⟨t, h1, hF, h3.mono c.post.sub ((c.post.fr t o ho h4 (plainO_tbl hp)).trans ho.symm), fun z => no (c.own t z), h5⟩
end
end Pu
set_option Elab.async false
set_option linter.all false
set_option maxRecDepth 100000
namespace Pu
open PySem PySem.Spec PyProof.Rows L2
theorem PE.imp {X : Cx} {e : Expr} {t t' : TE} (h : PE X e t) (q : ∀ σ H Q, t' σ H Q → t σ H Q) : PE X e t' := ⟨fun pins s σ H Q I z => h.run pins s σ H Q I (q σ H Q z)⟩
theorem PT.imp {X : Cx} {e : Expr} {t t' : TT} (h : PT X e t) (q : ∀ σ H Q, t' σ H Q → t σ H Q) : PT X e t' := ⟨fun pins s σ H Q I z => h.run pins s σ H Q I (q σ H Q z)⟩
theorem PW.imp {X : Cx} {e : Expr} {t t' : TT} (h : PW X e t) (q : ∀ σ H Q, t' σ H Q → t σ H Q) : PW X e t' := ⟨fun w pins s σ H Q I z => h.run w pins s σ H Q I (q σ H Q z)⟩
theorem PA.imp {X : Cx} {es : List Expr} {t t' : TA} (h : PA X es t) (q : ∀ σ H Q, t' σ H Q → t σ H Q) : PA X es t' := ⟨fun p pins s σ H Q I z => h.run p pins s σ H Q I (q σ H Q z)⟩
theorem PS.imp {X : Cx} {st : Stmt} {t t' : TS} (h : PS X st t) (q : ∀ D σ H, t' D σ H → t D σ H) : PS X st t' := ⟨fun pins s σ H D I z => h.run pins s σ H D I (q D σ H z)⟩
theorem PSs.imp {X : Cx} {st : List Stmt} {t t' : TS} (h : PSs X st t) (q : ∀ D σ H, t' D σ H → t D σ H) : PSs X st t' := ⟨fun pins s σ H D I z => h.run pins s σ H D I (q D σ H z)⟩
abbrev SE (X : Cx) (W : WX) (e : Expr) (m : M RV) : Prop := PE X e (tE X.K W m)
abbrev ST (X : Cx) (W : WX) (e : Expr) (m : M Bool) : Prop := PT X e (tT X.K W m)
abbrev SW (X : Cx) (W : WX) (e : Expr) (m : M Bool) : Prop := PW X e (tT X.K W m)
abbrev SA (X : Cx) (W : WX) (es : List Expr) (m : M (List RV)) : Prop := PA X es (tA X.K W m)
section
variable {K : PySem.W.Frag} {W : WX} {B : Bg} {F F' H H' : Hp} {e : Ev} {σ : Sig} {u : V}
theorem Cur.grow {o : HO} {a : Addr} (C : Cur K B F H e σ) (h : H a = none) : Cur K B F (upd H a o) e σ ∧ ¬ Own e σ a ∧ F a = none ∧ B.mine a := by
  have hF : F a = none := by
    cases q : F a with
    | none => rfl
    | some x => rw [C.rel.sub a x q] at h; cases h
  have hO : ¬ Own e σ a := fun ⟨i, v, a1, a2⟩ => by
    obtain ⟨b, h1, h2, h3⟩ := C.rel.slot i _ _ a1 a2
    obtain ⟨o', h4⟩ := h3.some
    have e1 : V.ref a = V.ref b := Option.some.inj h1
    cases e1
    rw [h] at h4; cases h4
  refine ⟨⟨⟨C.post.sub, fun b o' q n t => ?_, C.post.nw, fun b q => ?_⟩, ⟨fun b o' q => ?_, C.rel.len, fun i s o' a1 a2 => ?_, C.rel.inj, Tabs.new C.rel.tb h, C.rel.nt⟩, C.own, C.ln, C.par⟩, hO, hF, .inr (C.post.kp a h)⟩
  · have z := C.post.fr b o' q n t
    rw [upd_ne (ne_of_none z h)]
    exact z
  · by_cases hb : b = a
    · rw [hb, upd_same] at q; cases q
    · rw [upd_ne hb] at q; exact C.post.kp b q
  · have z := C.rel.sub b o' q
    rw [upd_ne (ne_of_none z h)]
    exact z
  · have z := C.rel.slot i s o' a1 a2
    cases s with
    | un => trivial
    | dat v => exact z
    | own v =>
      obtain ⟨b, h1, h2, h3⟩ := z
      obtain ⟨o2, h4⟩ := h3.some
      exact ⟨b, h1, h2, h3.mono (Same.refl _) (upd_ne (ne_of_none h4 h))⟩
theorem Cur.growF {o : HO} {a : Addr} (C : Cur K B F H e σ) (h : H a = none) (ho : plainO o = true := by rfl) : Cur K B (Pu.frz F (upd H a o) a) (upd H a o) e σ ∧ Same F (Pu.frz F (upd H a o) a) ∧ Pu.frz F (upd H a o) a a = some o := by
  obtain ⟨C1, h1, h2, h3⟩ := C.grow (o := o) h
  exact ⟨C1.frz h2 h1 h3 (fun ps z => by rw [upd_same] at z; cases z; cases ho), frz_sub h2, by rw [frz_same, upd_same]⟩
end
section
variable {X : Cx} {W : WX}
theorem se_var (i : Nat) {x : Str} {pos : Pos} (hN : X.N[i]? = some x := by rfl) (hv : Vis X.env.scope x := by first | exact Or.inl rfl | exact Or.inr (Or.inl rfl) | exact Or.inr (Or.inr rfl)) (hd : (x == ("__debug__" : Str)) = false := by decide)
    (hcd : (x == ("__classdict__" : Str)) = false := by decide) : SE X W (.Name x pos) (mVar i) := by
  refine PE.imp (pe_var hN hv hd hcd) fun σ H Q h => ?_
  obtain ⟨np, F, e, R, h⟩ := h
  cases z : e[i]? with
  | none => unfold At mVar at h; simp only [z] at h
  | some s =>
    have il : i < σ.length := R.len ▸ (List.getElem?_eq_some_iff.mp z).1
    have ho : σ[i]? = some σ[i] := List.getElem?_eq_getElem il
    cases s with
    | un => unfold At mVar at h; simp only [z] at h
    | dat v =>
      obtain ⟨u, h1, h2⟩ := R.slot i _ _ z ho
      have C := Cur.refl (np := np) R
      exact ⟨u, by rw [ho, h1], h.ok (e' := e) (r := RV.dat v) (by unfold mVar; simp only [z]) C h2⟩
    | own v =>
      obtain ⟨a, h1, h2, h3⟩ := R.slot i _ _ z ho
      have C := Cur.refl (np := np) R
      exact ⟨.ref a, by rw [ho, h1], h.ok (e' := e) (r := RV.bor i) (by unfold mVar; simp only [z]) C (show σ[i]? = some (some (V.ref a)) by rw [ho, h1])⟩
theorem at_ret {v : Val} {u : V} {σ : Sig} {H : Hp} {Q : VK} (h : tE X.K W (mV v) σ H Q) (r : ∀ F, VR X.K F v u) : Q u H := by
  obtain ⟨np, F, e, R, h⟩ := h
  exact h.ok rfl (Cur.refl R) (r F)
theorem se_int {i : Int} {j pos} : SE X W (.Constant (.int i) j pos) (mV (.int i)) := PE.imp pe_int fun _ _ _ h => at_ret h fun _ => .int i
theorem se_bl {b : Bool} {j pos} : SE X W (.Constant (.bool b) j pos) (mV (.bl b)) := PE.imp pe_bl fun _ _ _ h => at_ret h fun _ => .bl b
theorem se_non {j pos} : SE X W (.Constant .none j pos) (mV .non) := PE.imp pe_non fun _ _ _ h => at_ret h fun _ => .non
theorem se_str {x : Str} {j pos} : SE X W (.Constant (.str x) j pos) (mV (.str x)) := PE.imp pe_str fun _ _ _ h => at_ret h fun _ => .str x
theorem se_glo {x : Str} {pos : Pos} (gl : Gl X x) (at_ : X.mg x = some (.ref (He.ga X.K x))) (hd : (x == ("__debug__" : Str)) = false := by decide) : SE X W (.Name x pos) (mV (.glo x)) :=
  PE.imp (pe_glob gl at_ (v := .ref (He.ga X.K x)) rfl hd) fun _ _ _ h => at_ret h fun _ => .glo x
theorem se_gloV {x : Str} {pos : Pos} {v : Val} {u : V} {w : Value} (gl : Gl X x) (at_ : X.mg x = some w) (r : RelV u w) (q : ∀ F, VR X.K F v u) (hd : (x == ("__debug__" : Str)) = false := by decide) : SE X W (.Name x pos) (mV v) :=
  PE.imp (pe_glob gl at_ r hd) fun _ _ _ h => at_ret h q
theorem se_ty {x : Str} {n : String} {pos : Pos} (gl : Gl X x) (fr : X.mg x = none) (hv : bootBuiltins x = some (.type n) := by decide +kernel) (hn : x ≠ "__name__" := by decide) (hd : (x == ("__debug__" : Str)) = false := by decide) : SE X W (.Name x pos) (mV (.ty n)) :=
  PE.imp (pe_bltn gl fr hv (v := .ty n) rfl hn hd) fun _ _ _ h => at_ret h fun _ => .ty n
end
def OpV (K : PySem.W.Frag) (W : WX) (f : Val → Val → M RV) (r : R2) : Prop := ∀ {B : Bg} {F H : Hp} {e : Ev} {σ : Sig} {v w : Val} {x y : V} {Q : VK}, Cur K B F H e σ → RdR K F H v x → RdR K F H w y → At K W (RR K) B (f v w) F e σ H Q → r x y H Q
section
variable {X : Cx} {W : WX} {a b c : Expr} {ma mb mc : M RV} {pos : Pos} {f g : Val → Val → M RV} {r : R2}
theorem two {K : PySem.W.Frag} (hv : OpV K W f r) {σ : Sig} {H : Hp} {Q : VK} (h : tE K W (mBin f ma mb) σ H Q) : tOp r (tE K W ma) (tE K W mb) σ H Q := by
  obtain ⟨np, F, e, R, h⟩ := h
  refine use (Cur.refl R) h fun r1 e1 F1 H1 x C1 q1 _ h1 => ?_
  refine use C1 h1 fun r2 e2 F2 H2 y C2 q2 c2 h2 => ?_
  obtain ⟨v, rv, h3⟩ := At.rd C2.rel (q1.carry c2) h2
  obtain ⟨w, rw_, h4⟩ := At.rd C2.rel q2 h3
  exact hv C2 rv rw_ h4
theorem se_bin {op : Operator} (ho : OpR X (binaryOp op) r) (hv : OpV X.K W f r) (ha : SE X W a ma) (hb : SE X W b mb) : SE X W (.BinOp a op b pos) (mBin f ma mb) :=
  PE.imp (pe_op ho ha hb) fun _ _ _ h => two hv h
theorem se_cmp {op : CmpOp} (ho : OpR X (compareOp op) r) (hv : OpV X.K W f r) (ha : SE X W a ma) (hb : SE X W b mb) (hm : behindInMarks op b = false := by first | exact nomark _ | rfl) : SE X W (.Compare a [op] [b] pos) (mBin f ma mb) :=
  PE.imp (pe_cmpR ho ha hb hm) fun _ _ _ h => two hv h
theorem tru_of {K : PySem.W.Frag} {B : Bg} {F H : Hp} {e : Ev} {σ : Sig} {v : Val} {x : V} {Q : Bool → Hp → Prop} (C : Cur K B F H e σ) (rv : RdR K F H v x) (h : At K W (fun _ _ _ _ _ (b c : Bool) => b = c) B (truV v) F e σ H Q) : ∃ k, TruV K x H k ∧ Q k H := by
  cases v with
  | bl b => rw [rv.bl]; exact ⟨b, rfl, h.ok rfl C rfl⟩
  | int i => rw [rv.int]; exact ⟨_, rfl, h.ok rfl C rfl⟩
  | non => rw [rv.non]; exact ⟨_, rfl, h.ok rfl C rfl⟩
  | str z =>
    rw [rv.str]
    by_cases hz : z.length ≤ sizeLine
    · exact ⟨_, ⟨hz, rfl⟩, h.ok (by unfold truV; simp only [hz, if_true]) C rfl⟩
    · unfold At truV at h; simp only [hz, if_false] at h
  | lst xs =>
    obtain ⟨p, us, rfl, h1, h2⟩ := rv.lst C.rel.sub
    exact ⟨_, .inl ⟨us, .inl h1, rfl⟩, h.ok rfl C (by rw [h2.empty])⟩
  | tup xs =>
    obtain ⟨p, us, rfl, h1, h2⟩ := rv.tup C.rel.sub
    exact ⟨_, .inr (.inl ⟨us, h1, rfl⟩), h.ok rfl C (by rw [h2.empty])⟩
  | _ => exact h.elim
theorem st_val (ha : SE X W a ma) (he : ∀ whole, isTrue a X.env whole = (do let v ← whole; standAt a.pos; holding [v] (truthy v)) := by intro _; rfl) : ST X W a (mTru ma) := by
  refine PT.imp (pt_truth ha he) fun σ H Q h => ?_
  obtain ⟨np, F, e, R, h⟩ := h
  refine use (Cur.refl R) h fun r1 e1 F1 H1 x C1 q1 _ h1 => ?_
  obtain ⟨v, rv, h2⟩ := At.rd C1.rel q1 h1
  exact tru_of C1 rv h2
theorem st_cmp {op : CmpOp} (ho : OpR X (compareOp op) r) (hv : OpV X.K W f r) (hb2 : ∀ v w e r' e', f v w e = .ok r' e' → ∃ b, r' = .dat (.bl b)) (ha : SE X W a ma) (hb : SE X W b mb) (hm : behindInMarks op b = false := by first | exact nomark _ | rfl) : ST X W (.Compare a [op] [b] pos) (mTru (mBin f ma mb)) := by
  refine PT.imp (pt_cmpR ho ha hb hm) fun σ H Q h => ?_
  refine two (r := r) (f := f) hv ?_
  obtain ⟨np, F, e, R, h⟩ := h
  refine ⟨np, F, e, R, ?_⟩
  unfold At mTru M.bind at h
  unfold At
  cases z : mBin f ma mb e with
  | bad => rw [z] at h; exact h
  | rs x e' => rw [z] at h; exact h
  | ok r' e' =>
    rw [z] at h
    intro F' H' u C q
    have hr : ∃ b, r' = .dat (.bl b) := by
      unfold mBin M.bind M.rd at z
      cases z1 : ma e with
      | ok r1 e1 =>
        simp only [z1] at z
        cases z2 : mb e1 with
        | ok r2 e2 =>
          simp only [z2] at z
          cases z3 : Pu.rd r1 e2 with
          | none => simp only [z3] at z; cases z
          | some v =>
            simp only [z3] at z
            cases z4 : Pu.rd r2 e2 with
            | none => simp only [z4] at z; cases z
            | some w =>
              simp only [z4] at z
              exact hb2 _ _ _ _ _ z
        | rs _ _ => simp only [z2] at z; cases z
        | bad => simp only [z2] at z; cases z
      | rs _ _ => simp only [z1] at z; cases z
      | bad => simp only [z1] at z; cases z
    obtain ⟨b, rfl⟩ := hr
    have eu : u = .bl b := by cases q; rfl
    subst eu
    exact ⟨b, rfl, h F' H' b C rfl⟩
end
section
variable {X : Cx} {W : WX} {a b c : Expr} {rest : List Expr} {ma mb : M RV} {ta tb : M Bool} {pos : Pos}
theorem sw_and1 (ha : ST X W a ta) : SW X W (.BoolOp .And [a] pos) ta := pw_and1 ha
theorem sw_or1 (ha : ST X W a ta) : SW X W (.BoolOp .Or [a] pos) ta := pw_or1 ha
theorem sw_and (ha : ST X W a ta) (hb : SW X W (.BoolOp .And (b :: rest) pos) tb) : SW X W (.BoolOp .And (a :: b :: rest) pos) (mAnd ta tb) := by
  refine PW.imp (pw_and ha hb) fun σ H Q h => ?_
  obtain ⟨np, F, e, R, h⟩ := h
  refine use (Cur.refl R) h fun k e1 F1 H1 k' C1 q1 _ h1 => ?_
  have ek : k = k' := q1
  subst ek
  cases k with
  | true => exact use1 C1 h1
  | false => exact h1.ok rfl C1 rfl
theorem sw_or (ha : ST X W a ta) (hb : SW X W (.BoolOp .Or (b :: rest) pos) tb) : SW X W (.BoolOp .Or (a :: b :: rest) pos) (mOr ta tb) := by
  refine PW.imp (pw_or ha hb) fun σ H Q h => ?_
  obtain ⟨np, F, e, R, h⟩ := h
  refine use (Cur.refl R) h fun k e1 F1 H1 k' C1 q1 _ h1 => ?_
  have ek : k = k' := q1
  subst ek
  cases k with
  | false => exact use1 C1 h1
  | true => exact h1.ok rfl C1 rfl
theorem st_w {t : M Bool} (h : SW X W a t) : ST X W a t := h.pt
theorem st_not (ha : ST X W a ta) : ST X W (.UnaryOp .Not a pos) (mNot ta) := by
  refine PT.imp (pt_not ha) fun σ H Q h => ?_
  obtain ⟨np, F, e, R, h⟩ := h
  refine use (Cur.refl R) h fun k e1 F1 H1 k' C1 q1 _ h1 => ?_
  have ek : k = k' := q1
  subst ek
  exact h1.ok rfl C1 rfl
theorem se_ifE (hc : ST X W c ta) (ha : SE X W a ma) (hb : SE X W b mb) : SE X W (.IfExp c a b pos) (mIfE ta ma mb) := by
  refine PE.imp (pe_ifExp hc ha hb) fun σ H Q h => ?_
  obtain ⟨np, F, e, R, h⟩ := h
  refine use (Cur.refl R) h fun k e1 F1 H1 k' C1 q1 _ h1 => ?_
  have ek : k = k' := q1
  subst ek
  cases k with
  | true => exact use1 C1 h1
  | false => exact use1 C1 h1
theorem se_one {op} (ha : SE X W a ma) : SE X W (.BoolOp op [a] pos) ma := pe_one ha
theorem se_and (ha : SE X W a ma) (hb : SE X W (.BoolOp .And (b :: rest) pos) mb) : SE X W (.BoolOp .And (a :: b :: rest) pos) (mAndV ma mb) := by
  refine PE.imp (pe_and ha hb) fun σ H Q h => ?_
  obtain ⟨np, F, e, R, h⟩ := h
  refine use (Cur.refl R) h fun r1 e1 F1 H1 x C1 q1 _ h1 => ?_
  obtain ⟨v, rv, h2⟩ := At.rd C1.rel q1 h1
  cases v with
  | bl k =>
    refine ⟨k, rv.bl, ?_⟩
    cases k with
    | true => exact use1 C1 h2
    | false => exact h2.ok rfl C1 (VR.bl false)
  | _ => exact h2.elim
theorem se_or (ha : SE X W a ma) (hb : SE X W (.BoolOp .Or (b :: rest) pos) mb) : SE X W (.BoolOp .Or (a :: b :: rest) pos) (mOrV ma mb) := by
  refine PE.imp (pe_or ha hb) fun σ H Q h => ?_
  obtain ⟨np, F, e, R, h⟩ := h
  refine use (Cur.refl R) h fun r1 e1 F1 H1 x C1 q1 _ h1 => ?_
  obtain ⟨v, rv, h2⟩ := At.rd C1.rel q1 h1
  cases v with
  | bl k =>
    refine ⟨k, rv.bl, ?_⟩
    cases k with
    | false => exact use1 C1 h2
    | true => exact h2.ok rfl C1 (VR.bl true)
  | _ => exact h2.elim
theorem se_not (ha : SE X W a ma) : SE X W (.UnaryOp .Not a pos) (mNotV ma) := by
  refine PE.imp (pe_not ha) fun σ H Q h => ?_
  obtain ⟨np, F, e, R, h⟩ := h
  refine use (Cur.refl R) h fun r1 e1 F1 H1 x C1 q1 _ h1 => ?_
  obtain ⟨v, rv, h2⟩ := At.rd C1.rel q1 h1
  cases v with
  | bl k => exact ⟨k, rv.bl, h2.ok rfl C1 (VR.bl _)⟩
  | _ => exact h2.elim
end
section
variable {X : Cx} {W : WX} {a : Expr} {es : List Expr} {ma : M RV} {mr : M (List RV)} {pos : Pos}
theorem sa_nil : SA X W [] mNil := PA.imp pa_nil fun σ H Q h => by
  obtain ⟨np, F, e, R, h⟩ := h
  exact h.ok rfl (Cur.refl R) .nil
theorem RRs.mem_tmp {K : PySem.W.Frag} {B : Bg} {F H : Hp} {e : Ev} {σ : Sig} {rs : List RV} {us : List V} (h : RRs K B F H e σ rs us) : ∀ {j : Nat} {w : Val} {u : V}, rs[j]? = some (.tmp w) → us[j]? = some u → RR K B F H e σ (.tmp w) u := by
  induction h with
  | nil => intro j w u a; simp at a
  | cons r d t ih =>
    intro j w u a b
    cases j with
    | zero => simp at a b; subst a b; exact r
    | succ j => exact ih (by simpa using a) (by simpa using b)
theorem sa_cons (ha : SE X W a ma) (hr : SA X W es mr) (hs : starEach (a :: es) X.env = (false, eval a X.env) :: starEach es X.env := by rfl) : SA X W (a :: es) (mCons ma mr) := by
  refine PA.imp (pa_cons ha hr hs) fun σ H Q h => ?_
  obtain ⟨np, F, e, R, h⟩ := h
  refine use (Cur.refl R) h fun r1 e1 F1 H1 x C1 q1 _ h1 => ?_
  refine useS (R1 := RRs X.K) C1 h1 fun rs e2 F2 H2 xs C2 q2 c2 h2 => ?_
  refine h2.ok rfl C2 (.cons (q1.carry c2) (fun v e3 j w e4 e5 => ?_) (Carry.out C1 q2))
  subst e3
  obtain ⟨t, z1, z2, z3, z4, z5⟩ := q1
  obtain ⟨o, z6⟩ := z3.some
  subst z1
  obtain ⟨t', y1, y2, y3, y4, y5⟩ := q2.mem_tmp e4 e5
  cases y1
  rcases y5 with y5 | y5
  · exact z4 y5
  · have y6 : H1 t = none := y5
    rw [z6] at y6; cases y6
theorem se_tup {k} (hr : SA X W es mr) : SE X W (.Tuple es k pos) (mTup mr) := by
  refine PE.imp (pe_tup hr) fun σ H Q h => ?_
  obtain ⟨np, F, e, R, h⟩ := h
  refine use (Cur.refl R) h fun rs e1 F1 H1 xs C1 q1 _ h1 => ?_
  obtain ⟨F2, e2, vs, C2, _, r2, h2⟩ := At.dts C1 q1 h1
  by_cases hz : vs.length ≤ sizeLine
  · rw [if_pos hz] at h2
    refine ⟨r2.length ▸ hz, fun p hp => ?_⟩
    obtain ⟨C3, s3, e3⟩ := C2.growF (o := .tup xs) hp
    exact h2.ok rfl C3 (VR.tup (SqT.of e3) (r2.mono s3))
  · rw [if_neg hz] at h2
    exact h2.elim
theorem se_lst (hr : SA X W es mr) : SE X W (.List es pos) (mLst mr) := by
  refine PE.imp (pe_lst hr) fun σ H Q h => ?_
  obtain ⟨np, F, e, R, h⟩ := h
  refine use (Cur.refl R) h fun rs e1 F1 H1 xs C1 q1 _ h1 => ?_
  obtain ⟨F2, e2, vs, C2, _, r2, h2⟩ := At.dts C1 q1 h1
  by_cases hz : vs.length ≤ sizeLine
  · rw [if_pos hz] at h2
    refine ⟨r2.length ▸ hz, fun p hp => ?_⟩
    obtain ⟨C3, n3, f3, m3⟩ := C2.grow (o := .lst xs) hp
    exact h2.ok (r := RV.tmp (.lst vs)) rfl C3 ⟨p, rfl, f3, ⟨xs, upd_same, r2⟩, n3, m3⟩
  · rw [if_neg hz] at h2
    exact h2.elim
end
end Pu
set_option Elab.async false
set_option linter.all false
set_option maxRecDepth 100000
namespace Pu
open PySem PySem.Spec PyProof.Rows L2
def big : Int := 1606938044258990275541962092341162602522202993782792835301376
section
variable {K : PySem.W.Frag} {W : WX}
theorem opv_I {g : Int → Int → Val} {g' : Int → Int → V} (hg : ∀ F i j, VR K F (g i j) (g' i j)) : OpV K W (oI g) (rI0 g') := by
  intro B F H e σ v w x y Q C rv rw_ h
  unfold oI at h
  split at h
  · exact ⟨_, _, rv.int, rw_.int, h.ok rfl C (hg _ _ _)⟩
  · exact h.elim
theorem opv_IC {c : Int → Int → Prop} [∀ i j, Decidable (c i j)] {d : Int → Int → Prop} {g : Int → Int → Val} {g' : Int → Int → V} (hc : ∀ i j, c i j → d i j) (hg : ∀ F i j, VR K F (g i j) (g' i j)) : OpV K W (oIC c g) (rI d g') := by
  intro B F H e σ v w x y Q C rv rw_ h
  unfold oIC at h
  split at h
  · rename_i i j
    by_cases hh : c i j
    · rw [if_pos hh] at h
      exact ⟨_, _, rv.int, rw_.int, hc _ _ hh, h.ok rfl C (hg _ _ _)⟩
    · rw [if_neg hh] at h
      exact h.elim
  · exact h.elim
theorem natAbs_lt {i : Int} {n : Nat} (a : -(n : Int) < i) (b : i < (n : Int)) : i.natAbs < n := by omega
theorem mulD {i j : Int} (h : cMul i j) : CMul i j ∨ CMulW i j := by
  rcases h with h | h | ⟨⟨h1, h2⟩, h3, h4⟩
  · exact .inl (.inl h)
  · exact .inl (.inr h)
  · exact .inr (wide_mul (a := 200) (b := 200) (natAbs_lt (by simpa using h1) (by simpa using h2)) (natAbs_lt (by simpa using h3) (by simpa using h4)) (by decide) (by decide) (by decide))
theorem op_mulP {X : Cx} : OpR X (binaryOp .Mult) (rI (fun i j => CMul i j ∨ CMulW i j) fun i j => .int (i * j)) := by
  intro pins s σ H x y v u Q I rx ry h
  obtain ⟨i, j, rfl, rfl, c, q⟩ := h
  rcases c with c | c
  · exact op_mul pins s σ H _ _ v u Q I rx ry ⟨i, j, rfl, rfl, c, q⟩
  · exact op_mulW pins s σ H _ _ v u Q I rx ry ⟨i, j, rfl, rfl, c, q⟩
theorem divD {i j : Int} (h : cDiv i j) : CDivW i j := wide_div h.1 (b := 200) (natAbs_lt (by have := h.1; simp; omega) (by simpa using h.2)) (by decide) (by decide)
theorem v_sub : OpV K W oSub (rI0 fun i j => .int (i - j)) := opv_I fun _ _ _ => .int _
theorem v_mul : OpV K W oMul (rI (fun i j => CMul i j ∨ CMulW i j) fun i j => .int (i * j)) := opv_IC (fun _ _ h => mulD h) fun _ _ _ => .int _
theorem v_div : OpV K W oDiv (rI CDivW fun i j => .int (i / j)) := opv_IC (fun _ _ h => divD h) fun _ _ _ => .int _
theorem v_mod : OpV K W oMod (rI (fun _ j => 0 < j) fun i j => .int (i % j)) := opv_IC (fun _ _ h => h) fun _ _ _ => .int _
theorem powD {i j : Int} (h : cPow i j) : CPow i j := ⟨h.1, by have := h.2.1; omega, natAbs_lt (by simpa using h.2.2.1) (by simpa using h.2.2.2)⟩
theorem v_pow : OpV K W oPow (rI CPow fun i j => .int (i ^ j.toNat)) := opv_IC (fun _ _ h => powD h) fun _ _ _ => .int _
theorem v_lt : OpV K W oLt (rI0 fun i j => .bl (decide (i < j))) := opv_I fun _ _ _ => .bl _
theorem v_le : OpV K W oLe (rI0 fun i j => .bl (decide (i ≤ j))) := opv_I fun _ _ _ => .bl _
theorem v_gt : OpV K W oGt (rI0 fun i j => .bl (decide (j < i))) := opv_I fun _ _ _ => .bl _
theorem v_ge : OpV K W oGe (rI0 fun i j => .bl (decide (j ≤ i))) := opv_I fun _ _ _ => .bl _
theorem b_I {p : Int → Int → Bool} : ∀ v w e r' e', oI (fun i j => .bl (p i j)) v w e = .ok r' e' → ∃ b, r' = .dat (.bl b) := by
  intro v w e r' e' h
  unfold oI at h
  split at h
  · unfold mV M.ret at h; cases h; exact ⟨_, rfl⟩
  · cases h
def rCatR : R2 := fun x y H Q => ∃ l b xs zs, x = .ref l ∧ y = .ref b ∧ Rd H l (.lst xs) ∧ Rd H b (.lst zs) ∧ xs.length + zs.length ≤ sizeLine ∧ ∀ p, H p = none → Q (.ref p) (upd H p (.lst (xs ++ zs)))
theorem op_catR {X : Cx} : OpR X (binaryOp .Add) rCatR := by
  intro pins s σ H x y v u Q I rx ry h
  obtain ⟨l, b, xs, zs, rfl, rfl, h1, h2, hz, q⟩ := h
  obtain rfl : v = Value.ref l := rx
  obtain rfl : u = Value.ref b := ry
  obtain ⟨z1, its, n, r, e1⟩ := h1.ok I.hok
  obtain ⟨z2, jts, m, r2, e2⟩ := h2.ok I.hok
  have l1 := r.length
  have l2 := r2.length
  refine PySem.P.add_list e1 e2 ?_ (by simp only [List.size_toArray]; omega)
  have ea : its.toArray ++ jts.toArray = (its ++ jts).toArray := by simp
  rw [ea]
  refine ⟨.ref s.heap.objs.size, _, I.laid (t' := s.toks) (o := .lst (xs ++ zs)) (fun _ _ z => Heap.get?_push_of_some _ z) (Nat.le_refl _) ?_, rfl, q _ (I.hok.fresh (Nat.le_refl _))⟩
  exact ⟨by rw [List.length_append]; exact hz, its ++ jts, 0, r.append r2, Heap.get?_push_size _ rfl⟩
def rAddA (K : PySem.W.Frag) : R2 := fun x y H Q => (rI0 fun i j => .int (i + j)) x y H Q ∨ (∃ i j, x = .str i ∧ y = .str j ∧ i.length + j.length ≤ sizeLine ∧ Q (.str (i ++ j)) H) ∨ rCatR x y H Q ∨ rCatA K x y H Q
theorem op_addA {X : Cx} : OpR X (binaryOp .Add) (rAddA X.K) := OpR.or op_add (OpR.or op_add_str (OpR.or op_catR op_catA))
theorem v_add : OpV K W oAdd (rAddA K) := by
  intro B F H e σ v w x y Q C rv rw_ h
  unfold oAdd at h
  split at h
  · exact .inl ⟨_, _, rv.int, rw_.int, h.ok rfl C (VR.int _)⟩
  · rename_i a b
    by_cases hz : a.length + b.length ≤ sizeLine
    · rw [if_pos hz] at h
      exact .inr (.inl ⟨_, _, rv.str, rw_.str, hz, h.ok rfl C (VR.str _)⟩)
    · rw [if_neg hz] at h
      exact h.elim
  · rename_i a b
    by_cases hz : a.length + b.length ≤ sizeLine
    · rw [if_pos hz] at h
      obtain ⟨p, us, rfl, h1, h2⟩ := rv.lst C.rel.sub
      obtain ⟨q, ws, rfl, h3, h4⟩ := rw_.lst C.rel.sub
      refine .inr (.inr (.inl ⟨p, q, us, ws, rfl, rfl, h1, h3, by rw [← h2.length, ← h4.length]; exact hz, fun t ht => ?_⟩))
      obtain ⟨C3, n3, f3, m3⟩ := C.grow (o := .lst (us ++ ws)) ht
      exact h.ok (r := RV.tmp (.lst (a ++ b))) rfl C3 ⟨t, rfl, f3, ⟨_, upd_same, h2.append h4⟩, n3, m3⟩
    · rw [if_neg hz] at h
      exact h.elim
  · rename_i a b
    by_cases hz : a.length + b.length ≤ sizeLine
    · rw [if_pos hz] at h
      obtain ⟨p, us, rfl, h1, h2⟩ := rv.tup C.rel.sub
      obtain ⟨q, ws, rfl, h3, h4⟩ := rw_.tup C.rel.sub
      refine .inr (.inr (.inr ⟨p, q, us, ws, rfl, rfl, h1, h3, by rw [← h2.length, ← h4.length]; exact hz, fun z => ?_, fun _ z => ?_, fun _ _ t ht => ?_⟩))
      · have ea : a = [] := h2.ne.mp z
        subst ea
        rw [List.nil_append] at h
        refine h.ok rfl C ?_
        rcases rw_ with rw_ | ⟨t, _, z⟩
        · exact rw_
        · exact z.elim
      · have eb : b = [] := h4.ne.mp z
        subst eb
        rw [List.append_nil] at h
        refine h.ok rfl C ?_
        rcases rv with rv | ⟨t, _, z⟩
        · exact rv
        · exact z.elim
      · obtain ⟨C3, s3, e3⟩ := C.growF (o := .tup (us ++ ws)) ht
        exact h.ok rfl C3 (VR.tup (SqT.of e3) ((h2.append h4).mono s3))
    · rw [if_neg hz] at h
      exact h.elim
  · exact h.elim
end
end Pu
set_option Elab.async false
set_option linter.all false
set_option maxRecDepth 100000
namespace Pu
open PySem PySem.Spec PyProof.Rows L2
mutual
def iOk : Val → Bool
  | .int i => decide (-1606938044258990275541962092341162602522202993782792835301376 < i ∧ i < 1606938044258990275541962092341162602522202993782792835301376)
  | .tup xs => iOks xs
  | .lst xs => iOks xs
  | .non => true
  | .bl _ => true
  | .str _ => true
  | .ty _ => true
  | .glo _ => true
  | .obj _ _ _ => true
  | .dct _ _ => true
def iOks : List Val → Bool
  | [] => true
  | x :: xs => iOk x && iOks xs
end
mutual
def rsz : Val → Nat
  | .non => 4
  | .bl _ => 5
  | .int _ => 202
  | .str x => 10 * x.length + 2
  | .tup xs => rszs xs + 3
  | .lst xs => rszs xs + 3
  | .ty _ => 4
  | .glo _ => 4
  | .obj _ _ _ => 4
  | .dct _ _ => 4
def rszs : List Val → Nat
  | [] => 0
  | x :: xs => rsz x + 2 + rszs xs
end
mutual
theorem canLay_of : ∀ v : Val, isD v = true → PyData.canLay0 (toP v) = true
  | .non, _ => rfl
  | .bl _, _ => rfl
  | .int _, _ => rfl
  | .str x, h => by simpa [isD, toP, PyData.canLay0] using h
  | .tup xs, h => by simpa [toP, PyData.canLay0] using canLays_of xs (by simpa [isD] using h)
  | .lst xs, h => by simpa [toP, PyData.canLay0] using canLays_of xs (by simpa [isD] using h)
  | .ty _, h => by simp [isD] at h
  | .glo _, h => by simp [isD] at h
  | .obj _ _ _, h => by simp [isD] at h
  | .dct _ _, h => by simp [isD] at h
theorem canLays_of : ∀ xs : List Val, isDs xs = true → PyData.canLayAll0 (toPs xs) = true
  | [], _ => rfl
  | x :: xs, h => by
    have h' : isD x = true ∧ isDs xs = true := by simpa [isDs] using h
    simp [toPs, PyData.canLayAll0, canLay_of x h'.1, canLays_of xs h'.2]
end
mutual
theorem depth_of : ∀ v : Val, (toP v).depth = dep v
  | .non => by simp [toP, PyData.depth, dep]
  | .bl _ => by simp [toP, PyData.depth, dep]
  | .int _ => by simp [toP, PyData.depth, dep]
  | .str x => by simp [toP, PyData.depth, dep]
  | .tup xs => by simp [toP, PyData.depth, dep, depths_of xs]
  | .lst xs => by simp [toP, PyData.depth, dep, depths_of xs]
  | .ty _ => by simp [toP, PyData.depth, dep]
  | .glo _ => by simp [toP, PyData.depth, dep]
  | .obj _ _ _ => by simp [toP, PyData.depth, dep]
  | .dct _ _ => by simp [toP, PyData.depth, PyData.depthKv, dep]
theorem depths_of : ∀ xs : List Val, PyData.depthAll (toPs xs) = deps xs
  | [] => by simp [toPs, PyData.depthAll, deps]
  | x :: xs => by simp [toPs, PyData.depthAll, deps, depth_of x, depths_of xs]
end
theorem shaped_of {v : Val} (h : isD v = true) (d : dep v ≤ 60) : SeqAt.shaped (toP v) = true := by
  unfold SeqAt.shaped
  rw [canLay_of v h, depth_of v]
  simp; omega
section
variable {K : PySem.W.Frag} {W : WX} {B : Bg} {F H : Hp} {e : Ev} {σ : Sig}
mutual
theorem VR.dp (s : Same F H) : ∀ (v : Val) (u : V), VR K F v u → isD v = true → Dp K H u (toP v)
  | .non, _, h, _ => by cases h; exact .non
  | .bl b, _, h, _ => by cases h; exact .bl b
  | .int i, _, h, _ => by cases h; exact .int i
  | .str x, _, h, _ => by cases h; exact .str x
  | .tup xs, _, h, d => by
    cases h with
    | tup h1 h2 => exact .tup (sqT_mono s h1) (VRs.dp s xs _ h2 (by simpa [isD] using d))
  | .lst xs, _, h, d => by
    cases h with
    | lst h1 h2 => exact .lst (.inl (rd_mono s h1)) (VRs.dp s xs _ h2 (by simpa [isD] using d))
  | .ty _, _, _, d => by simp [isD] at d
  | .glo _, _, _, d => by simp [isD] at d
  | .obj _ _ _, _, _, d => by simp [isD] at d
  | .dct _ _, _, _, d => by simp [isD] at d
theorem VRs.dp (s : Same F H) : ∀ (xs : List Val) (us : List V), VRs K F xs us → isDs xs = true → DpAll K H us (toPs xs)
  | [], _, h, _ => by cases h; exact .nil
  | x :: xs, _, h, d => by
    have h' : isD x = true ∧ isDs xs = true := by simpa [isDs] using d
    cases h with
    | cons h1 h2 => exact .cons (VR.dp s x _ h1 h'.1) (VRs.dp s xs _ h2 h'.2)
end
theorem RdR.dp {v : Val} {u : V} (s : Same F H) (h : RdR K F H v u) (d : isD v = true) : Dp K H u (toP v) := by
  rcases h with h | ⟨t, e, h⟩
  · exact VR.dp s v u h d
  · subst e
    cases v with
    | lst xs =>
      obtain ⟨us, h1, h2⟩ := h
      exact .lst (.inl (.inl h1)) (VRs.dp s xs _ h2 (by simpa [isD] using d))
    | obj _ _ _ => simp [isD] at d
    | dct _ _ => simp [isD] at d
    | _ => exact h.elim
def rEqA (K : PySem.W.Frag) : R2 := fun x y H Q => rEqD K x y H Q ∨ rEq x y H Q
def rNeA (K : PySem.W.Frag) : R2 := fun x y H Q => rNeD K x y H Q ∨ rNe x y H Q
theorem op_eqA {X : Cx} (hu : X.A.units + 64 < cLine) : OpR X (compareOp .Eq) (rEqA X.K) := OpR.or (op_eqD hu) op_eq
theorem op_neA {X : Cx} (hu : X.A.units + 64 < cLine) : OpR X (compareOp .NotEq) (rNeA X.K) := OpR.or (op_neD hu) op_ne
theorem str_dec {a b : Str} : decide (V.str a = V.str b) = decide (a = b) := by
  by_cases h : a = b
  · rw [decide_eq_true h, decide_eq_true (by rw [h])]
  · rw [decide_eq_false h, decide_eq_false (fun z => h (by cases z; rfl))]
theorem v_eq : OpV K W oEq (rEqA K) := by
  intro B F H e σ v w x y Q C rv rw_ h
  unfold oEq at h
  split at h
  · rename_i a b
    refine .inr ?_
    rw [rv.str, rw_.str]
    exact ⟨rfl, h.ok rfl C (by rw [str_dec]; exact VR.bl _)⟩
  · by_cases hh : (dOk v && dOk w) = true
    · rw [if_pos hh] at h
      simp only [dOk, Bool.and_eq_true, decide_eq_true_eq] at hh
      exact .inl ⟨toP v, toP w, rv.dp C.rel.sub hh.1.1, rw_.dp C.rel.sub hh.2.1, shaped_of hh.1.1 hh.1.2, shaped_of hh.2.1 hh.2.2, h.ok rfl C (VR.bl _)⟩
    · rw [if_neg hh] at h
      exact h.elim
theorem v_ne : OpV K W oNe (rNeA K) := by
  intro B F H e σ v w x y Q C rv rw_ h
  unfold oNe at h
  split at h
  · rename_i a b
    refine .inr ?_
    rw [rv.str, rw_.str]
    exact ⟨rfl, h.ok rfl C (by rw [str_dec]; exact VR.bl _)⟩
  · by_cases hh : (dOk v && dOk w) = true
    · rw [if_pos hh] at h
      simp only [dOk, Bool.and_eq_true, decide_eq_true_eq] at hh
      exact .inl ⟨toP v, toP w, rv.dp C.rel.sub hh.1.1, rw_.dp C.rel.sub hh.2.1, shaped_of hh.1.1 hh.1.2, shaped_of hh.2.1 hh.2.2, h.ok rfl C (VR.bl _)⟩
    · rw [if_neg hh] at h
      exact h.elim
theorem b_eq : ∀ v w e r' e', oEq v w e = .ok r' e' → ∃ b, r' = .dat (.bl b) := by
  intro v w e r' e' h
  unfold oEq at h
  split at h
  · cases h; exact ⟨_, rfl⟩
  · split at h
    · unfold mV M.ret at h; cases h; exact ⟨_, rfl⟩
    · cases h
theorem b_ne : ∀ v w e r' e', oNe v w e = .ok r' e' → ∃ b, r' = .dat (.bl b) := by
  intro v w e r' e' h
  unfold oNe at h
  split at h
  · cases h; exact ⟨_, rfl⟩
  · split at h
    · unfold mV M.ret at h; cases h; exact ⟨_, rfl⟩
    · cases h
theorem isNon_of {v : Val} {x : V} (r : RdR K F H v x) : decide (x = .non) = isNon v := by
  rcases r with r | ⟨t, e, _⟩
  · cases r <;> simp [isNon]
  · rename_i h
    subst e
    cases v <;> first | exact h.elim | rfl
theorem v_is : OpV K W oIs (fun x y H Q => y = .non ∧ Q (.bl (decide (x = .non))) H) := by
  intro B F H e σ v w x y Q C rv rw_ h
  unfold oIs at h
  cases w with
  | non =>
    have h : At K W (RR K) B (mV (.bl (isNon v))) F e σ H Q := h
    exact ⟨rw_.non, h.ok rfl C (by rw [isNon_of rv]; exact VR.bl _)⟩
  | _ => exact h.elim
theorem v_isN : OpV K W oIsN (fun x y H Q => y = .non ∧ Q (.bl (!decide (x = .non))) H) := by
  intro B F H e σ v w x y Q C rv rw_ h
  unfold oIsN at h
  cases w with
  | non =>
    have h : At K W (RR K) B (mV (.bl (!isNon v))) F e σ H Q := h
    exact ⟨rw_.non, h.ok rfl C (by rw [isNon_of rv]; exact VR.bl _)⟩
  | _ => exact h.elim
theorem b_is : ∀ v w e r' e', oIs v w e = .ok r' e' → ∃ b, r' = .dat (.bl b) := by
  intro v w e r' e' h
  unfold oIs at h
  split at h
  · unfold mV M.ret at h; cases h; exact ⟨_, rfl⟩
  · cases h
theorem b_isN : ∀ v w e r' e', oIsN v w e = .ok r' e' → ∃ b, r' = .dat (.bl b) := by
  intro v w e r' e' h
  unfold oIsN at h
  split at h
  · unfold mV M.ret at h; cases h; exact ⟨_, rfl⟩
  · cases h
def items? : Val → Option (List Val)
  | .lst xs => some xs
  | .tup xs => some xs
  | _ => none
theorem flat_of {v : Val} {u : V} (r : VR K F v u) (f : flat v = true) : flatV u = true := by cases r <;> first | rfl | (exfalso; simp [flat] at f; done)
theorem eqV_of {v w : Val} {x y : V} (r : VR K F v x) (q : VR K F w y) (f : flat v = true) (g : flat w = true) : eqV x y = veq v w := by
  cases r <;> cases q <;> first | rfl | (exfalso; simp [flat] at f; done) | (exfalso; simp [flat] at g; done)
theorem flats_of {vs : List Val} {us : List V} (r : VRs K F vs us) (f : vs.all flat = true) : us.all flatV = true := by
  induction vs generalizing us with
  | nil => cases r; rfl
  | cons v vs ih =>
    cases r with
    | cons a b =>
      simp only [List.all_cons, Bool.and_eq_true] at f ⊢
      exact ⟨flat_of a f.1, ih b f.2⟩
theorem inV_of {v : Val} {x : V} (r : VR K F v x) (g : flat v = true) {vs : List Val} {us : List V} (q : VRs K F vs us) (f : vs.all flat = true) : inV x us = inF v vs := by
  unfold inV inF
  induction vs generalizing us with
  | nil => cases q; rfl
  | cons w vs ih =>
    cases q with
    | cons a b =>
      simp only [List.all_cons, Bool.and_eq_true] at f
      rw [List.any_cons, List.any_cons, eqV_of a r f.1 g, ih b f.2]
theorem v_in (n : Bool) : OpV K W (oInG n) (rIn K n) := by
  intro B F H e σ v w x y Q C rv rw_ h
  unfold oInG at h
  split at h
  · rename_i xs
    by_cases hh : (Pu.flat v && xs.all Pu.flat) = true
    · rw [if_pos hh] at h
      rw [Bool.and_eq_true] at hh
      obtain ⟨p, us, rfl, h1, h2⟩ := rw_.lst C.rel.sub
      have q := rv.flat hh.1
      refine ⟨p, us, rfl, .inl (.inl h1), flat_of q hh.1, flats_of h2 hh.2, h.ok rfl C ?_⟩
      rw [inV_of q hh.1 h2 hh.2]
      exact VR.bl _
    · rw [if_neg hh] at h
      exact h.elim
  · rename_i xs
    by_cases hh : (Pu.flat v && xs.all Pu.flat) = true
    · rw [if_pos hh] at h
      rw [Bool.and_eq_true] at hh
      obtain ⟨p, us, rfl, h1, h2⟩ := rw_.tup C.rel.sub
      have q := rv.flat hh.1
      refine ⟨p, us, rfl, .inr h1, flat_of q hh.1, flats_of h2 hh.2, h.ok rfl C ?_⟩
      rw [inV_of q hh.1 h2 hh.2]
      exact VR.bl _
    · rw [if_neg hh] at h
      exact h.elim
  · exact h.elim
theorem b_in {n : Bool} : ∀ v w e r' e', oInG n v w e = .ok r' e' → ∃ b, r' = .dat (.bl b) := by
  intro v w e r' e' h
  unfold oInG at h
  split at h
  · split at h
    · unfold mV M.ret at h; cases h; exact ⟨_, rfl⟩
    · cases h
  · split at h
    · unfold mV M.ret at h; cases h; exact ⟨_, rfl⟩
    · cases h
  · cases h
theorem atI_of {vs : List Val} {us : List V} (r : VRs K F vs us) {i : Int} {v : Val} (h : atI vs i = some v) : ∃ u, atI us i = some u ∧ VR K F v u := by
  unfold atI at h ⊢
  rw [← r.length]
  cases q : ixN vs.length i with
  | none => rw [q] at h; cases h
  | some j =>
    rw [q] at h
    exact r.get h
theorem v_ix : OpV K W oIx (rIx K) := by
  intro B F H e σ v w x y Q C rv rw_ h
  unfold oIx at h
  split at h
  · rename_i xs i
    split at h
    · rename_i z hz
      obtain ⟨p, us, rfl, h1, h2⟩ := rv.lst C.rel.sub
      obtain ⟨u, h3, h4⟩ := atI_of h2 hz
      exact .inl ⟨p, us, i, u, rfl, rw_.int, .inl h1, h3, h.ok rfl C h4⟩
    · exact h.elim
  · rename_i xs i
    split at h
    · rename_i z hz
      obtain ⟨p, us, rfl, h1, h2⟩ := rv.tup C.rel.sub
      obtain ⟨u, h3, h4⟩ := atI_of h2 hz
      exact .inr (.inl ⟨p, us, i, u, rfl, rw_.int, h1, h3, h.ok rfl C h4⟩)
    · exact h.elim
  · rename_i z i
    by_cases hz : z.length ≤ sizeLine
    · rw [if_pos hz] at h
      split at h
      · rename_i c hc
        exact .inr (.inr ⟨z, i, c, rv.str, rw_.int, hz, hc, h.ok rfl C (VR.str _)⟩)
      · exact h.elim
    · rw [if_neg hz] at h
      exact h.elim
  · exact h.elim
end
section
variable {X : Cx} {W : WX} {a b : Expr} {ma mb : M RV} {pos : Pos}
theorem se_ix (ha : SE X W a ma) (hb : SE X W b mb) (hs : PlainIx b := by exact fun _ _ => rfl) : SE X W (.Subscript a b pos) (mBin oIx ma mb) :=
  PE.imp (pe_ix ix_seq ha hb hs) fun _ _ _ h => two v_ix h
end
end Pu
set_option Elab.async false
set_option linter.all false
set_option maxRecDepth 100000
namespace Pu
open PySem PySem.Spec PyProof.Rows L2
theorem CallR.or {X : Cx} {f : Value} {r r' : List V → Hp → VK → Prop} (h : CallR X f r) (h' : CallR X f r') : CallR X f (fun xs H Q => r xs H Q ∨ r' xs H Q) := by
  intro pins s σ H xs us Q I rs q
  rcases q with q | q
  · exact h pins s σ H xs us Q I rs q
  · exact h' pins s σ H xs us Q I rs q
def FnV (K : PySem.W.Frag) (W : WX) (f : List Val → M RV) (r : List V → Hp → VK → Prop) : Prop := ∀ {B : Bg} {F H : Hp} {e : Ev} {σ : Sig} {vs : List Val} {us : List V} {Q : VK}, Cur K B F H e σ → RdRs K F H vs us → At K W (RR K) B (f vs) F e σ H Q → r us H Q
section
variable {X : Cx} {W : WX} {a : Expr} {es : List Expr} {ms : M (List RV)} {x : Str} {p pos : Pos} {f : List Val → M RV} {r : List V → Hp → VK → Prop} {id T : String}
theorem cb {K : PySem.W.Frag} (hv : FnV K W f r) {σ : Sig} {H : Hp} {Q : VK} (h : tE K W (mCB f ms) σ H Q) : tCB r (tA K W ms) σ H Q := by
  obtain ⟨np, F, e, R, h⟩ := h
  refine use (Cur.refl R) h fun rs e1 F1 H1 us C1 q1 _ h1 => ?_
  obtain ⟨vs, rv, h2⟩ := At.rds C1.rel q1 h1
  exact hv C1 rv h2
theorem se_callB (hc : CallR X (.builtin id) r) (hv : FnV X.K W f r) (gl : Gl X x) (fr : X.mg x = none) (ha : SA X W (a :: es) ms) (hb : bootBuiltins x = some (.builtin id) := by decide +kernel) (hn : x ≠ "__name__" := by decide) (hd : (x == ("__debug__" : Str)) = false := by decide)
    (h1 : starEach (a :: es) X.env = (false, eval a X.env) :: starEach es X.env := by rfl) (h2 : (backTo pos (starEach es X.env)).any (·.1) = false := by rfl) : SE X W (.Call (.Name x p) (a :: es) [] pos) (mCB f ms) :=
  PE.imp (pe_callB hc gl fr hb ha hn hd h1 h2) fun _ _ _ h => cb hv h
theorem se_callT (hc : CallR X (.type T) r) (hv : FnV X.K W f r) (gl : Gl X x) (fr : X.mg x = none) (ha : SA X W (a :: es) ms) (hb : bootBuiltins x = some (.type T) := by decide +kernel) (hn : x ≠ "__name__" := by decide) (hd : (x == ("__debug__" : Str)) = false := by decide)
    (h1 : starEach (a :: es) X.env = (false, eval a X.env) :: starEach es X.env := by rfl) (h2 : (backTo pos (starEach es X.env)).any (·.1) = false := by rfl) : SE X W (.Call (.Name x p) (a :: es) [] pos) (mCB f ms) :=
  PE.imp (pe_callTy hc gl fr hb ha hn hd h1 h2) fun _ _ _ h => cb hv h
end
def maxL : List Int → Int
  | [] => 0
  | [i] => i
  | i :: r => max i (maxL r)
def minL : List Int → Int
  | [] => 0
  | [i] => i
  | i :: r => min i (minL r)
def fMaxL (vs : List Val) : M RV := match vs with
  | [.lst xs] => match ints? xs with
    | some (i :: is) => mV (.int (maxL (i :: is)))
    | _ => M.bad
  | _ => M.bad
def fMinL (vs : List Val) : M RV := match vs with
  | [.lst xs] => match ints? xs with
    | some (i :: is) => mV (.int (minL (i :: is)))
    | _ => M.bad
  | _ => M.bad
def fSum (vs : List Val) : M RV := match vs with
  | [.lst xs] => match ints? xs with
    | some is => mV (.int is.sum)
    | _ => M.bad
  | _ => M.bad
def fAny (vs : List Val) : M RV := match vs with
  | [.lst xs] => match bls? xs with
    | some bs => mV (.bl (bs.any id))
    | _ => M.bad
  | _ => M.bad
def fBool (vs : List Val) : M RV := match vs with
  | [.int i] => mV (.bl (i != 0))
  | [.bl b] => mV (.bl b)
  | _ => M.bad
def shownV (v : Val) : Str := (toP v).shown
def rOk (v : Val) : Bool := isD v && decide (dep v ≤ 60) && iOk v && decide (rsz v ≤ 16000000)
def fRepr (vs : List Val) : M RV := match vs with
  | [v] => if rOk v then mV (.str (shownV v)) else M.bad
  | _ => M.bad
section
variable {K : PySem.W.Frag} {W : WX}
theorem RdRs.two {F H : Hp} {v w : Val} {us : List V} (h : RdRs K F H [v, w] us) : ∃ u z, us = [u, z] ∧ RdR K F H v u ∧ RdR K F H w z := by
  cases h with
  | cons a b => cases b with
    | cons c d => cases d; exact ⟨_, _, rfl, a, c⟩
theorem ints_of : ∀ {xs : List Val} {is : List Int} {F : Hp} {us : List V}, ints? xs = some is → VRs K F xs us → us = is.map V.int
  | [], is, F, us, h, r => by
    cases r
    cases h
    rfl
  | v :: xs, is, F, us, h, r => by
    cases v with
    | int i =>
      cases q : ints? xs with
      | none => simp only [ints?, q] at h; cases h
      | some js =>
        simp only [ints?, q] at h
        cases h
        cases r with
        | cons a b =>
          cases a
          rw [ints_of q b]
          rfl
    | _ => cases h
theorem bls_of : ∀ {xs : List Val} {is : List Bool} {F : Hp} {us : List V}, bls? xs = some is → VRs K F xs us → us = is.map V.bl
  | [], is, F, us, h, r => by
    cases r
    cases h
    rfl
  | v :: xs, is, F, us, h, r => by
    cases v with
    | bl i =>
      cases q : bls? xs with
      | none => simp only [bls?, q] at h; cases h
      | some js =>
        simp only [bls?, q] at h
        cases h
        cases r with
        | cons a b =>
          cases a
          rw [bls_of q b]
          rfl
    | _ => cases h
theorem maxL_eq : ∀ (i : Int) (is : List Int) (m : Int), m ∈ i :: is → (∀ y, y ∈ i :: is → y ≤ m) → maxL (i :: is) = m
  | i, [], m, h, g => by
    have e : m = i := by simpa using h
    rw [e]; rfl
  | i, j :: r, m, h, g => by
    have e : maxL (i :: j :: r) = max i (maxL (j :: r)) := rfl
    rw [e]
    have up : ∀ (k : Int) (l : List Int), maxL (k :: l) ∈ k :: l := by
      intro k l
      induction l generalizing k with
      | nil => simp [maxL]
      | cons a l ih =>
        have e : maxL (k :: a :: l) = max k (maxL (a :: l)) := rfl
        rw [e]
        have q := ih a
        rcases Int.le_total k (maxL (a :: l)) with z | z
        · rw [Int.max_eq_right z]; exact List.mem_cons_of_mem _ q
        · rw [Int.max_eq_left z]; exact List.mem_cons_self
    rcases List.mem_cons.mp h with h | h
    · subst h
      exact Int.max_eq_left (g _ (List.mem_cons_of_mem _ (up j r)))
    · rw [maxL_eq j r m h fun y hy => g y (List.mem_cons_of_mem _ hy)]
      exact Int.max_eq_right (g i List.mem_cons_self)
theorem minL_eq : ∀ (i : Int) (is : List Int) (m : Int), m ∈ i :: is → (∀ y, y ∈ i :: is → m ≤ y) → minL (i :: is) = m
  | i, [], m, h, g => by
    have e : m = i := by simpa using h
    rw [e]; rfl
  | i, j :: r, m, h, g => by
    have e : minL (i :: j :: r) = min i (minL (j :: r)) := rfl
    rw [e]
    have up : ∀ (k : Int) (l : List Int), minL (k :: l) ∈ k :: l := by
      intro k l
      induction l generalizing k with
      | nil => simp [minL]
      | cons a l ih =>
        have e : minL (k :: a :: l) = min k (minL (a :: l)) := rfl
        rw [e]
        have q := ih a
        rcases Int.le_total k (minL (a :: l)) with z | z
        · rw [Int.min_eq_left z]; exact List.mem_cons_self
        · rw [Int.min_eq_right z]; exact List.mem_cons_of_mem _ q
    rcases List.mem_cons.mp h with h | h
    · subst h
      exact Int.min_eq_left (g _ (List.mem_cons_of_mem _ (up j r)))
    · rw [minL_eq j r m h fun y hy => g y (List.mem_cons_of_mem _ hy)]
      exact Int.min_eq_right (g i List.mem_cons_self)
abbrev rLenA (K : PySem.W.Frag) : List V → Hp → VK → Prop := fun xs H Q => (∃ p ys, xs = [.ref p] ∧ (SqL K H p ys ∨ SqT K H p ys) ∧ Q (.int ys.length) H) ∨ (∃ z, xs = [.str z] ∧ z.length ≤ sizeLine ∧ Q (.int z.length) H)
theorem c_len {X : Cx} : CallR X (.builtin "len") (rLenA X.K) := CallR.or call_len_seq call_len_str
theorem v_len : FnV K W fLen (rLenA K) := by
  intro B F H e σ vs us Q C r h
  unfold fLen at h
  split at h
  · obtain ⟨u, rfl, q⟩ := r.one
    obtain ⟨a, us, rfl, h1, h2⟩ := q.lst C.rel.sub
    exact .inl ⟨a, us, rfl, .inl (.inl h1), h.ok rfl C (by rw [← h2.length]; exact VR.int _)⟩
  · obtain ⟨u, rfl, q⟩ := r.one
    obtain ⟨a, us, rfl, h1, h2⟩ := q.tup C.rel.sub
    exact .inl ⟨a, us, rfl, .inr h1, h.ok rfl C (by rw [← h2.length]; exact VR.int _)⟩
  · rename_i x
    obtain ⟨u, rfl, q⟩ := r.one
    by_cases hz : x.length ≤ sizeLine
    · rw [if_pos hz] at h
      exact .inr ⟨x, by rw [q.str], hz, h.ok rfl C (VR.int _)⟩
    · rw [if_neg hz] at h
      exact h.elim
  · exact h.elim
theorem v_abs : FnV K W fAbs (fun xs H Q => ∃ i, xs = [.int i] ∧ Q (.int (if i < 0 then -i else i)) H) := by
  intro B F H e σ vs us Q C r h
  unfold fAbs at h
  split at h
  · obtain ⟨u, rfl, q⟩ := r.one
    exact ⟨_, by rw [q.int], h.ok rfl C (VR.int _)⟩
  · exact h.elim
theorem v_int : FnV K W fInt (fun xs H Q => (∃ i, xs = [.int i] ∧ Q (.int i) H) ∨ ∃ k, xs = [.bl k] ∧ Q (.int (if k then 1 else 0)) H) := by
  intro B F H e σ vs us Q C r h
  unfold fInt at h
  split at h
  · obtain ⟨u, rfl, q⟩ := r.one
    exact .inl ⟨_, by rw [q.int], h.ok rfl C (VR.int _)⟩
  · obtain ⟨u, rfl, q⟩ := r.one
    exact .inr ⟨_, by rw [q.bl], h.ok rfl C (VR.int _)⟩
  · exact h.elim
theorem v_bool : FnV K W fBool (fun xs H Q => (∃ i, xs = [.int i] ∧ Q (.bl (i != 0)) H) ∨ ∃ k, xs = [.bl k] ∧ Q (.bl k) H) := by
  intro B F H e σ vs us Q C r h
  unfold fBool at h
  split at h
  · obtain ⟨u, rfl, q⟩ := r.one
    exact .inl ⟨_, by rw [q.int], h.ok rfl C (VR.bl _)⟩
  · obtain ⟨u, rfl, q⟩ := r.one
    exact .inr ⟨_, by rw [q.bl], h.ok rfl C (VR.bl _)⟩
  · exact h.elim
theorem v_max2 : FnV K W fMax2 (fun xs H Q => ∃ i j, xs = [.int i, .int j] ∧ Q (.int (if j > i then j else i)) H) := by
  intro B F H e σ vs us Q C r h
  unfold fMax2 at h
  split at h
  · obtain ⟨u, z, rfl, q1, q2⟩ := r.two
    exact ⟨_, _, by rw [q1.int, q2.int], h.ok rfl C (VR.int _)⟩
  · exact h.elim
theorem v_min2 : FnV K W fMin2 (fun xs H Q => ∃ i j, xs = [.int i, .int j] ∧ Q (.int (if j < i then j else i)) H) := by
  intro B F H e σ vs us Q C r h
  unfold fMin2 at h
  split at h
  · obtain ⟨u, z, rfl, q1, q2⟩ := r.two
    exact ⟨_, _, by rw [q1.int, q2.int], h.ok rfl C (VR.int _)⟩
  · exact h.elim
theorem v_maxL : FnV K W fMaxL (rMax K) := by
  intro B F H e σ vs us Q C r h
  unfold fMaxL at h
  split at h
  · split at h
    · rename_i xs i is hq
      obtain ⟨u, rfl, q⟩ := r.one
      obtain ⟨a, us, rfl, h1, h2⟩ := q.lst C.rel.sub
      refine ⟨a, i :: is, rfl, .inl (by rw [← ints_of hq h2]; exact h1), by simp, fun m h3 h4 => ?_⟩
      rw [← maxL_eq i is m h3 h4]
      exact h.ok rfl C (VR.int _)
    · exact h.elim
  · exact h.elim
theorem v_minL : FnV K W fMinL (rMin K) := by
  intro B F H e σ vs us Q C r h
  unfold fMinL at h
  split at h
  · split at h
    · rename_i xs i is hq
      obtain ⟨u, rfl, q⟩ := r.one
      obtain ⟨a, us, rfl, h1, h2⟩ := q.lst C.rel.sub
      refine ⟨a, i :: is, rfl, .inl (by rw [← ints_of hq h2]; exact h1), by simp, fun m h3 h4 => ?_⟩
      rw [← minL_eq i is m h3 h4]
      exact h.ok rfl C (VR.int _)
    · exact h.elim
  · exact h.elim
theorem v_sum : FnV K W fSum (rSum K) := by
  intro B F H e σ vs us Q C r h
  unfold fSum at h
  split at h
  · split at h
    · rename_i xs is hq
      obtain ⟨u, rfl, q⟩ := r.one
      obtain ⟨a, us, rfl, h1, h2⟩ := q.lst C.rel.sub
      exact ⟨a, is, rfl, .inl (by rw [← ints_of hq h2]; exact h1), h.ok rfl C (VR.int _)⟩
    · exact h.elim
  · exact h.elim
theorem v_all : FnV K W fAll (rAll K) := by
  intro B F H e σ vs us Q C r h
  unfold fAll at h
  split at h
  · split at h
    · rename_i xs is hq
      obtain ⟨u, rfl, q⟩ := r.one
      obtain ⟨a, us, rfl, h1, h2⟩ := q.lst C.rel.sub
      exact ⟨a, is, rfl, .inl (by rw [← bls_of hq h2]; exact h1), h.ok rfl C (VR.bl _)⟩
    · exact h.elim
  · exact h.elim
theorem v_any : FnV K W fAny (rAny K) := by
  intro B F H e σ vs us Q C r h
  unfold fAny at h
  split at h
  · split at h
    · rename_i xs is hq
      obtain ⟨u, rfl, q⟩ := r.one
      obtain ⟨a, us, rfl, h1, h2⟩ := q.lst C.rel.sub
      exact ⟨a, is, rfl, .inl (by rw [← bls_of hq h2]; exact h1), h.ok rfl C (VR.bl _)⟩
    · exact h.elim
  · exact h.elim
theorem v_tup : FnV K W fTup (fun xs H Q => ∃ p ys, xs = [.ref p] ∧ ((SqL K H p ys ∧ ∀ l, H l = none → Q (.ref l) (upd H l (.tup ys))) ∨ (SqT K H p ys ∧ Q (.ref p) H))) := by
  intro B F H e σ vs us Q C r h
  unfold fTup at h
  split at h
  · obtain ⟨u, rfl, q⟩ := r.one
    obtain ⟨a, us, rfl, h1, h2⟩ := q.lst C.rel.sub
    refine ⟨a, us, rfl, .inl ⟨.inl h1, fun l hl => ?_⟩⟩
    obtain ⟨C3, s3, e3⟩ := C.growF (o := .tup us) hl
    exact h.ok rfl C3 (VR.tup (SqT.of e3) (h2.mono s3))
  · obtain ⟨u, rfl, q⟩ := r.one
    have q' := q
    obtain ⟨a, us, rfl, h1, h2⟩ := q.tup C.rel.sub
    refine ⟨a, us, rfl, .inr ⟨h1, h.ok rfl C ?_⟩⟩
    rcases q' with z | ⟨_, _, z⟩
    · exact z
    · exact z.elim
  · exact h.elim
theorem v_lst : FnV K W fLst (fun xs H Q => ∃ p ys, xs = [.ref p] ∧ (SqL K H p ys ∨ SqT K H p ys) ∧ ∀ l, H l = none → Q (.ref l) (upd H l (.lst ys))) := by
  intro B F H e σ vs us Q C r h
  unfold fLst at h
  split at h
  · rename_i xs
    obtain ⟨u, rfl, q⟩ := r.one
    obtain ⟨a, us, rfl, h1, h2⟩ := q.lst C.rel.sub
    refine ⟨a, us, rfl, .inl (.inl h1), fun l hl => ?_⟩
    obtain ⟨C3, n3, f3, m3⟩ := C.grow (o := .lst us) hl
    exact h.ok (r := RV.tmp (.lst xs)) rfl C3 ⟨l, rfl, f3, ⟨us, upd_same, h2⟩, n3, m3⟩
  · rename_i xs
    obtain ⟨u, rfl, q⟩ := r.one
    obtain ⟨a, us, rfl, h1, h2⟩ := q.tup C.rel.sub
    refine ⟨a, us, rfl, .inr h1, fun l hl => ?_⟩
    obtain ⟨C3, n3, f3, m3⟩ := C.grow (o := .lst us) hl
    exact h.ok (r := RV.tmp (.lst xs)) rfl C3 ⟨l, rfl, f3, ⟨us, upd_same, h2⟩, n3, m3⟩
  · exact h.elim
end
theorem int_small {i : Int} (h : -1606938044258990275541962092341162602522202993782792835301376 < i ∧ i < 1606938044258990275541962092341162602522202993782792835301376) : i.natAbs.log2 < 200 :=
  PySem.Flt.log2_lt_of (by decide) (show i.natAbs < 2 ^ 200 from natAbs_lt (by simpa using h.1) (by simpa using h.2))
mutual
theorem show_ok : ∀ v : Val, isD v = true → iOk v = true → (toP v).showable = true ∧ (toP v).hasDict = false ∧ (toP v).shown.length ≤ rsz v
  | .non, _, _ => ⟨by simp [toP, PyData.showable], by simp [toP, PyData.hasDict], by simp only [toP, PyData.shown, rsz]; decide⟩
  | .bl b, _, _ => ⟨by simp [toP, PyData.showable], by simp [toP, PyData.hasDict], by simp only [toP, PyData.shown, rsz]; cases b <;> decide⟩
  | .int i, _, h => by
    have h' : i.natAbs.log2 < 200 := int_small (by simpa [iOk] using h)
    refine ⟨by simp only [toP, PyData.showable, decide_eq_true_eq]; omega, by simp [toP, PyData.hasDict], ?_⟩
    simp only [toP, PyData.shown, rsz]
    have q := int_text_length_le (a := i) (k := 200) (by decide) h'
    have e : (Str.ofString (toString i)).length = (toString i).length := PySem.ofString_length _
    show (Str.ofString (toString i)).length ≤ 202
    omega
  | .str x, d, _ => by
    refine ⟨by simp [toP, PyData.showable], by simp [toP, PyData.hasDict], ?_⟩
    simp only [toP, PyData.shown, rsz]
    refine StrLaws.reprText_len x fun c hc => ?_
    have d' : x.cps.all (· < 0x110000) = true := d
    rw [Array.all_eq_true_iff_forall_mem] at d'
    have q := d' c (Array.mem_toList_iff.mp hc)
    simp at q
    omega
  | .tup xs, d, h => by
    obtain ⟨a, b, c, e⟩ := shows_ok xs (by simpa [isD] using d) (by simpa [iOk] using h)
    refine ⟨by simpa [toP, PyData.showable] using a, by simpa [toP, PyData.hasDict] using b, ?_⟩
    simp only [toP, PyData.shown, rsz]
    have q := tupleText_len_le (PyData.shownAll (toPs xs))
    omega
  | .lst xs, d, h => by
    obtain ⟨a, b, c, e⟩ := shows_ok xs (by simpa [isD] using d) (by simpa [iOk] using h)
    refine ⟨by simpa [toP, PyData.showable] using a, by simpa [toP, PyData.hasDict] using b, ?_⟩
    simp only [toP, PyData.shown, rsz]
    have q := listText_len_le (PyData.shownAll (toPs xs))
    omega
  | .ty _, d, _ => by simp [isD] at d
  | .glo _, d, _ => by simp [isD] at d
  | .obj _ _ _, d, _ => by simp [isD] at d
  | .dct _ _, d, _ => by simp [isD] at d
theorem shows_ok : ∀ xs : List Val, isDs xs = true → iOks xs = true → PyData.showableAll (toPs xs) = true ∧ PyData.hasDictAll (toPs xs) = false ∧ ((PyData.shownAll (toPs xs)).map (·.length)).sum + 2 * (PyData.shownAll (toPs xs)).length ≤ rszs xs ∧ True
  | [], _, _ => ⟨by simp [toPs, PyData.showableAll], by simp [toPs, PyData.hasDictAll], by simp [toPs, PyData.shownAll, rszs], trivial⟩
  | x :: xs, d, h => by
    have d' : isD x = true ∧ isDs xs = true := by simpa [isDs] using d
    have h' : iOk x = true ∧ iOks xs = true := by simpa [iOks] using h
    obtain ⟨a1, b1, c1⟩ := show_ok x d'.1 h'.1
    obtain ⟨a2, b2, c2, _⟩ := shows_ok xs d'.2 h'.2
    refine ⟨by simp [toPs, PyData.showableAll, a1, a2], by simp [toPs, PyData.hasDictAll, b1, b2], ?_, trivial⟩
    simp only [toPs, PyData.shownAll, List.map_cons, List.sum_cons, List.length_cons, rszs]
    omega
end
def rRepr (K : PySem.W.Frag) : List V → Hp → VK → Prop := fun xs H Q => ∃ x d, xs = [x] ∧ Dp K H x d ∧ d.showable = true ∧ d.hasDict = false ∧ d.depth ≤ 60 ∧ d.shown.length ≤ sizeLine ∧ Q (.str d.shown) H
theorem c_repr {X : Cx} {k : Nat} (hr : Room k X.A) (hG : X.A.guards = some []) : CallR X (.builtin "repr") (rRepr X.K) := by
  intro pins s σ H xs us Q I rs h
  obtain ⟨x, d, rfl, hd, h1, h2, h3, h4, q⟩ := h
  obtain ⟨u, rfl, ru⟩ := vals1 rs
  obtain ⟨as, hreads⟩ := Dp.reads I d x u hd ru
  have un := hr.units
  cases hd with
  | non =>
    cases ru
    exact PySem.P.repr_of_none ⟨V.str _, H, I.tok _, ⟨_, rfl⟩, q⟩
  | bl b =>
    cases ru
    exact PySem.P.repr_of_bool ⟨V.str _, H, I.tok _, ⟨_, by cases b <;> rfl⟩, q⟩
  | int i =>
    obtain ⟨t, rfl⟩ := ru
    exact PySem.P.repr_of_int (by simpa [PyData.showable] using h1) ⟨V.str _, H, I.tok _, ⟨_, rfl⟩, q⟩
  | str y =>
    obtain ⟨t, rfl⟩ := ru
    exact PySem.P.repr_of_str ⟨V.str _, H, I.tok _, ⟨_, rfl⟩, q⟩ h4
  | lst hs ha =>
    cases ru
    exact repr_of_reads' hreads h1 (fun z => by rw [h2] at z; cases z) hG (by omega) (fun _ _ e => e) (fun h' u tk kk => ⟨V.str _, H, I.kept kk, ⟨_, rfl⟩, q⟩) h4
  | tup hs ha =>
    cases ru
    exact repr_of_reads' hreads h1 (fun z => by rw [h2] at z; cases z) hG (by omega) (fun _ _ e => e) (fun h' u tk kk => ⟨V.str _, H, I.kept kk, ⟨_, rfl⟩, q⟩) h4
theorem v_repr {K : PySem.W.Frag} {W : WX} : FnV K W fRepr (rRepr K) := by
  intro B F H e σ vs us Q C r h
  unfold fRepr at h
  split at h
  · rename_i v
    obtain ⟨u, rfl, q⟩ := r.one
    by_cases hh : rOk v = true
    · rw [if_pos hh] at h
      simp only [rOk, Bool.and_eq_true, decide_eq_true_eq] at hh
      obtain ⟨⟨⟨h1, h2⟩, h3⟩, h4⟩ := hh
      obtain ⟨a, b, c⟩ := show_ok v h1 h3
      exact ⟨u, toP v, rfl, q.dp C.rel.sub h1, a, b, by rw [depth_of]; exact h2, by rw [sizeLine_eq]; omega, h.ok rfl C (VR.str _)⟩
    · rw [if_neg hh] at h
      exact h.elim
  · exact h.elim
end Pu
set_option Elab.async false
set_option linter.all false
set_option maxRecDepth 100000
namespace Pu
open PySem PySem.Spec PyProof.Rows L2
def tS (K : PySem.W.Frag) (W : WX) (np : Nat) (m : S) : TS := fun D σ H => ∃ F e, Rel K F H e σ ∧ AtS K W (bg np F H e σ) m F e σ H D
abbrev SS (X : Cx) (W : WX) (np : Nat) (st : Stmt) (m : S) : Prop := PS X st (tS X.K W np m)
abbrev SB (X : Cx) (W : WX) (np : Nat) (b : List Stmt) (m : S) : Prop := PSs X b (tS X.K W np m)
section
variable {K : PySem.W.Frag} {W : WX} {α β : Type} {R1 : Bg → Hp → Hp → Ev → Sig → α → β → Prop} {B : Bg} {F F' H H' : Hp} {e e' : Ev} {σ σ' : Sig} {D : Ends}
theorem useX [Carry K R1] {m : M α} {f : α → S} {G : β → Hp → Prop} (C : Cur K B F H e σ) (h : AtS K W B (m.bind f) F e σ H D)
    (k : ∀ r e1 F1 H1 x, Cur K B F1 H1 e1 σ → R1 B F1 H1 e1 σ r x → Cur K (bg B.np F H e σ) F1 H1 e1 σ → AtS K W B (f r) F1 e1 σ H1 D → G x H1) : tM K W R1 m σ H G := by
  refine ⟨B.np, F, e, C.rel, ?_⟩
  unfold AtS M.bind at h
  unfold At
  cases hm : m e with
  | bad => rw [hm] at h; exact h
  | rs x e' =>
    rw [hm] at h
    intro F' H' cls d C' X'
    exact h F' H' σ cls d (C.trans C') X'
  | ok r e' =>
    rw [hm] at h
    intro F' H' u C' r'
    exact k r e' F' H' u (C.trans C') (Carry.out C r') C' h
theorem AtS.to {m : S} (C : Cur K B F H e σ) (h : AtS K W B m F e σ H D) : tS K W B.np m D σ H := ⟨F, e, C.rel, h.base C⟩
end
end Pu
set_option Elab.async false
set_option linter.all false
set_option maxRecDepth 100000
namespace Pu
open PySem PySem.Spec PyProof.Rows L2
structure Good (X : Cx) (k : Nat) (W : WX) : Prop where
  nd : X.N.Nodup
  calm : X.calm = true
  room : Room k X.A
  gd : X.A.guards = some []
  tk : L2N.Takes X W
  po : PassesOwn (model X.prog X.w) X.A X.env X.xe
def mRetN : S := fun e => .ok (.rt (.dat .non)) e
def mBk : S := fun e => .ok .bk e
def mSetP (i : Nat) (m : M RV) : S := m.bind fun r => (M.dt r).bind fun v => fun e => .ok .nx (e.set i (.dat v))
section
variable {K : PySem.W.Frag} {W : WX} {B : Bg} {F F' H H' : Hp} {e e' : Ev} {σ σ' : Sig} {D : Ends}
theorem st_ok {i : Nat} {r : RV} {u : V} (hp : B.np ≤ i) (C : Cur K B F H e σ) (q : RR K B F H e σ r u) (h : AtS K W B (stR i r) F e σ H D) : D.nx (σ.set i (some u)) H := by
  cases r with
  | dat v => exact h.nx rfl (C.setDat q)
  | tmp v =>
    obtain ⟨t, rfl, h2, h3, h4, h5⟩ := q
    exact h.nx rfl (C.setOwn h2 h3 h4 h5 hp)
  | bor j =>
    obtain ⟨F1, e1, v, C1, _, r1, h1, _⟩ := AtS.dt C q h
    exact h1.nx rfl (C1.setDat r1)
end
section
variable {X : Cx} {W : WX} {np k : Nat} {st : Stmt} {rest a b : List Stmt} {ma mb : S} {x c : Expr} {m : M RV} {mc : M Bool} {pos : Pos}
theorem sb_nil : SB X W np [] mSkip := PSs.imp pss_nil fun D σ H ⟨F, e, R, h⟩ => h.nx rfl (Cur.refl R)
theorem sb_one (h : SS X W np st ma) : SB X W np [st] ma := pss_one h
theorem sb_cons (h1 : SS X W np st ma) (h2 : SB X W np rest mb) : SB X W np (st :: rest) (mSeq ma mb) := by
  refine PSs.imp (pss_cons h1 h2) fun D σ H h => ?_
  obtain ⟨F, e, R, h⟩ := h
  refine ⟨F, e, R, ?_⟩
  unfold AtS mSeq at h
  unfold AtS
  cases z : ma e with
  | bad => rw [z] at h; exact h
  | rs x e' => rw [z] at h; exact h
  | ok o e' =>
    rw [z] at h
    cases o with
    | nx =>
      intro F' H' σ' C
      exact AtS.to C (show AtS X.K W (bg np F H e σ) mb F' e' σ' H' D from h)
    | bk => exact h
    | ct => exact h
    | rt r => exact h
theorem ss_expr (hm : SE X W x m) (hs : swapsWith x none pos.line X.env = pure false := by rfl) : SS X W np (.Expr x pos) (mEx m) := by
  refine PS.imp (ps_expr hm hs) fun D σ H h => ?_
  obtain ⟨F, e, R, h⟩ := h
  exact useX (R1 := RR X.K) (Cur.refl R) h fun r e1 F1 H1 u C1 q1 _ h1 => h1.nx rfl C1
theorem ss_ret (hm : SE X W x m) : SS X W np (.Return (some x) pos) (mRet m) := by
  refine PS.imp (ps_ret hm) fun D σ H h => ?_
  obtain ⟨F, e, R, h⟩ := h
  exact useX (R1 := RR X.K) (Cur.refl R) h fun r e1 F1 H1 u C1 q1 _ h1 => h1.rt rfl C1 q1
theorem ss_retN : SS X W np (.Return none pos) mRetN := PS.imp ps_retN fun D σ H ⟨F, e, R, h⟩ => h.rt rfl (Cur.refl R) VR.non
theorem ss_pass : SS X W np (.Pass pos) mSkip := PS.imp ps_pass fun D σ H ⟨F, e, R, h⟩ => h.nx rfl (Cur.refl R)
theorem ss_doc {z j pos'} : SS X W np (.Expr (.Constant (.str z) j pos) pos') mSkip := PS.imp ps_doc fun D σ H ⟨F, e, R, h⟩ => h.nx rfl (Cur.refl R)
theorem ss_brk : SS X W np (.Break pos) mBk := PS.imp ps_break fun D σ H ⟨F, e, R, h⟩ => by
  unfold AtS mBk at h
  exact h F H σ (Cur.refl R)
theorem ss_ct : SS X W np (.Continue pos) mCt := PS.imp ps_continue fun D σ H ⟨F, e, R, h⟩ => by
  unfold AtS mCt at h
  exact h F H σ (Cur.refl R)
theorem ss_if (hc : ST X W c mc) (ha : SB X W np a ma) (hb : SB X W np b mb) : SS X W np (.If c a b pos) (mIf mc ma mb) := by
  refine PS.imp (ps_if hc ha hb) fun D σ H h => ?_
  obtain ⟨F, e, R, h⟩ := h
  refine useX (R1 := fun _ _ _ _ _ (b c : Bool) => b = c) (Cur.refl R) h fun r e1 F1 H1 u C1 q1 _ h1 => ?_
  have eu : r = u := q1
  subst eu
  cases r with
  | true => exact AtS.to C1 h1
  | false => exact AtS.to C1 h1
theorem ss_set (i : Nat) {y : Str} {pos' : Pos} (G : Good X k W) (hm : SE X W x m) (hp : np ≤ i := by decide) (hi : X.N[i]? = some y := by rfl) (hx : Loc X.env.scope y := by first | exact Or.inl rfl | exact Or.inr rfl) (hs : swapsWith x (some (.Name y pos')) pos.line X.env = pure false := by rfl)
    (hf : X.fn y = true ∨ X.env.scope.names.lookup y = some .local := by first | exact .inl rfl | exact .inr rfl) : SS X W np (.Assign [.Name y pos'] x pos) (mSet i m) := by
  refine PS.imp (ps_set G.nd hi hx hm hs hf) fun D σ H h => ?_
  obtain ⟨F, e, R, h⟩ := h
  exact useX (R1 := RR X.K) (Cur.refl R) h fun r e1 F1 H1 u C1 q1 _ h1 => st_ok hp C1 q1 h1
theorem ss_setP (i : Nat) {y : Str} {pos' : Pos} (G : Good X k W) (hm : SE X W x m) (hi : X.N[i]? = some y := by rfl) (hx : Loc X.env.scope y := by first | exact Or.inl rfl | exact Or.inr rfl) (hs : swapsWith x (some (.Name y pos')) pos.line X.env = pure false := by rfl)
    (hf : X.fn y = true ∨ X.env.scope.names.lookup y = some .local := by first | exact .inl rfl | exact .inr rfl) : SS X W np (.Assign [.Name y pos'] x pos) (mSetP i m) := by
  refine PS.imp (ps_set G.nd hi hx hm hs hf) fun D σ H h => ?_
  obtain ⟨F, e, R, h⟩ := h
  refine useX (R1 := RR X.K) (Cur.refl R) h fun r e1 F1 H1 u C1 q1 _ h1 => ?_
  obtain ⟨F2, e2, v, C2, _, r2, h2, _⟩ := AtS.dt C1 q1 h1
  exact h2.nx rfl (C2.setDat r2)
end
def tG (K : PySem.W.Frag) (W : WX) (ws : List Nat) (m : Val → M Unit) : TG := fun u σ H Q => ∃ np F e v, Rel K F H e σ ∧ VR K F v u ∧ AtG K W ws (bg np F H e σ) (m v) e σ Q
def tGs (K : PySem.W.Frag) (W : WX) (ws : List Nat) (m : List Val → M Unit) : TGs := fun us σ H Q => ∃ np F e vs, Rel K F H e σ ∧ VRs K F vs us ∧ AtG K W ws (bg np F H e σ) (m vs) e σ Q
abbrev SG (X : Cx) (W : WX) (ws : List Nat) (tg : Expr) (m : Val → M Unit) : Prop := PG X tg (tG X.K W ws m)
abbrev SGs (X : Cx) (W : WX) (ws : List Nat) (tg : List Expr) (m : List Val → M Unit) : Prop := PGs X tg (tGs X.K W ws m)
def gL (n : Nat) (ms : List Val → M Unit) (v : Val) : M Unit := match v with
  | .lst xs => if xs.length = n then ms xs else M.bad
  | _ => M.bad
theorem PG.imp {X : Cx} {e : Expr} {t t' : TG} (h : PG X e t) (q : ∀ u σ H Q, t' u σ H Q → t u σ H Q) : PG X e t' := ⟨fun pins s σ H v u Q I r z => h.run pins s σ H v u Q I r (q v σ H Q z)⟩
theorem PGs.imp {X : Cx} {e : List Expr} {t t' : TGs} (h : PGs X e t) (q : ∀ u σ H Q, t' u σ H Q → t u σ H Q) : PGs X e t' := ⟨fun pins s σ H v u Q I r z => h.run pins s σ H v u Q I r (q v σ H Q z)⟩
section
variable {X : Cx} {W : WX} {ws : List Nat} {np k : Nat} {x : Expr} {es : List Expr} {mg : Val → M Unit} {ms : List Val → M Unit} {pos : Pos} {m : M RV}
theorem sg_name (i : Nat) {y : Str} (nd : X.N.Nodup) (hw : i ∈ ws := by decide) (hi : X.N[i]? = some y := by rfl) (hx : Loc X.env.scope y := by first | exact Or.inl rfl | exact Or.inr rfl) (hf : X.fn y = true ∨ X.env.scope.names.lookup y = some .local := by first | exact .inl rfl | exact .inr rfl) : SG X W ws (.Name y pos) (gN i) :=
  PG.imp (pg_name nd hi hx hf) fun u σ H Q ⟨np, F, e, v, R, r, h⟩ => h.go rfl ((Cur.refl R).setDat r) (Upd.set hw)
theorem sgs_nil : SGs X W ws [] gsN := PGs.imp pgs_nil fun us σ H Q ⟨np, F, e, vs, R, r, h⟩ => by
  cases r with
  | nil => exact ⟨rfl, h.go rfl (Cur.refl R) Upd.refl⟩
  | cons _ _ => exact h.elim
theorem sgs_cons (h1 : SG X W ws x mg) (h2 : SGs X W ws es ms) (hs : (assignEach (x :: es) X.env).map (·.2) = assign x X.env :: (assignEach es X.env).map (·.2) := by rfl) : SGs X W ws (x :: es) (gsC mg ms) := by
  refine PGs.imp (pgs_cons h1 h2 hs) fun us σ H Q h => ?_
  obtain ⟨np, F, e, vs, R, r, h⟩ := h
  cases r with
  | nil => exact h.elim
  | cons a b =>
    rename_i v u vs us
    refine ⟨u, us, rfl, np, F, e, v, R, a, ?_⟩
    unfold AtG gsC M.bind at h
    unfold AtG
    cases z : mg v e with
    | bad => simp only [z] at h
    | rs x e' => simp only [z] at h; exact h
    | ok _ e' =>
      simp only [z] at h
      intro F' H' σ' C u1
      refine ⟨np, F', e', vs, C.rel, b.mono C.post.sub, ?_⟩
      unfold AtG
      cases z2 : ms vs e' with
      | bad => simp only [z2] at h
      | rs x e' => simp only [z2] at h; exact fun F2 H2 σ2 cls d C2 => h F2 H2 σ2 cls d (C.trans C2)
      | ok _ e2 => simp only [z2] at h; exact fun F2 H2 σ2 C2 u2 => h F2 H2 σ2 (C.trans C2) (u1.trans u2)
theorem PG.imp2 {X : Cx} {e : Expr} {t1 t2 t' : TG} (h1 : PG X e t1) (h2 : PG X e t2) (q : ∀ u σ H Q, t' u σ H Q → t1 u σ H Q ∨ t2 u σ H Q) : PG X e t' := ⟨fun pins s σ H v u Q I r z => (q v σ H Q z).elim (h1.run pins s σ H v u Q I r) (h2.run pins s σ H v u Q I r)⟩
theorem sg_tup {j n : Nat} (hc : X.calm = true) (h : SGs X W ws es ms) (hn : (assignEach es X.env).length = n := by rfl) (hst : (assignEach es X.env).findIdx? (·.1) = none := by rfl) : SG X W ws (.Tuple es j pos) (gT n ms) := by
  refine PG.imp2 (pg_tup hc h hn hst) (pg_lst hc h hn hst) fun u σ H Q h => ?_
  obtain ⟨np, F, e, v, R, r, h⟩ := h
  unfold gT at h
  split at h
  · rename_i xs
    by_cases hl : xs.length = n
    · rw [if_pos hl] at h
      cases r with
      | tup h1 h2 => exact .inl ⟨_, _, rfl, sqT_mono R.sub h1, by rw [← h2.length]; exact hl, np, F, e, xs, R, h2, h⟩
    · rw [if_neg hl] at h
      exact h.elim
  · rename_i xs
    by_cases hl : xs.length = n
    · rw [if_pos hl] at h
      cases r with
      | lst h1 h2 => exact .inr ⟨_, _, rfl, .inl (rd_mono R.sub h1), by rw [← h2.length]; exact hl, np, F, e, xs, R, h2, h⟩
    · rw [if_neg hl] at h
      exact h.elim
  · exact h.elim
theorem sg_lst {j n : Nat} (hc : X.calm = true) (h : SGs X W ws es ms) (hn : (assignEach es X.env).length = n := by rfl) (hst : (assignEach es X.env).findIdx? (·.1) = none := by rfl) : SG X W ws (.Tuple es j pos) (gL n ms) := by
  refine PG.imp (pg_lst hc h hn hst) fun u σ H Q h => ?_
  obtain ⟨np, F, e, v, R, r, h⟩ := h
  unfold gL at h
  split at h
  · rename_i xs
    by_cases hl : xs.length = n
    · rw [if_pos hl] at h
      cases r with
      | lst h1 h2 => exact ⟨_, _, rfl, .inl (rd_mono R.sub h1), by rw [← h2.length]; exact hl, np, F, e, xs, R, h2, h⟩
    · rw [if_neg hl] at h
      exact h.elim
  · exact h.elim
theorem AtS.gt {K : PySem.W.Frag} {B : Bg} {F H : Hp} {e : Ev} {σ : Sig} {D : Ends} {m : M Unit} (C : Cur K B F H e σ) (h : AtS K W B (m.bind fun _ => mSkip) F e σ H D) : AtG K W ws (bg B.np F H e σ) m e σ D.nx := by
  unfold AtS M.bind mSkip at h
  unfold AtG
  cases z : m e with
  | bad => simp only [z] at h
  | rs x e' => simp only [z] at h; exact fun F' H' σ' cls d C' => h F' H' σ' cls d (C.trans C')
  | ok _ e' => simp only [z] at h; exact fun F' H' σ' C' _ => h F' H' σ' (C.trans C')
theorem ss_asg {tg : Expr} (hm : SE X W x m) (hg : SG X W ws tg mg) (hs : swapsWithSole [tg] x pos.line X.env = pure false := by rfl) (hw : swappedStores [tg] x X.env = pure none := by rfl)
    (h1 : (assignEach [tg] X.env).map (·.2) = [assign tg X.env] := by rfl) : SS X W np (.Assign [tg] x pos) (mAsg mg m) := by
  refine PS.imp (ps_asg hm hg hs hw h1) fun D σ H h => ?_
  obtain ⟨F, e, R, h⟩ := h
  refine useX (R1 := RR X.K) (Cur.refl R) h fun r e1 F1 H1 u C1 q1 _ h1 => ?_
  obtain ⟨F2, e2, v, C2, _, r2, h2, _⟩ := AtS.dt C1 q1 h1
  exact ⟨np, F2, e2, v, C2.rel, r2, AtS.gt C2 h2⟩
end
def RI (K : PySem.W.Frag) (B : Bg) (F H : Hp) (e : Ev) (σ : Sig) (vs : List Val) (J : It) : Prop :=
  ∃ (G : Hp → Prop) (Y : Nat → Hp → V → Hp → Prop), L2.Walk J vs.length G Y ∧ (∀ H, Same F H → G H) ∧
    ∀ (i : Nat) (v : Val) (B1 : Bg) (F1 H1 : Hp) (e1 : Ev) (σ1 : Sig) (x : V) (H' : Hp), vs[i]? = some v → Cur K B1 F1 H1 e1 σ1 → Same F F1 → Y i H1 x H' → ∃ F', Cur K B1 F' H' e1 σ1 ∧ Same F1 F' ∧ VR K F' v x
instance {K : PySem.W.Frag} : Carry K (RI K) := ⟨fun _ h => h⟩
abbrev SI (X : Cx) (W : WX) (tg iter : Expr) (m : M (List Val)) : Prop := PI X tg iter (tM X.K W (RI X.K) m)
theorem PI.imp {X : Cx} {tg e : Expr} {t t' : TI} (h : PI X tg e t) (q : ∀ σ H R, t' σ H R → t σ H R) : PI X tg e t' := ⟨fun pins s σ H R I z => h.run pins s σ H R I (q σ H R z)⟩
section
variable {X : Cx} {W : WX} {np k : Nat} {tg iter c : Expr} {body : List Stmt} {mi : M (List Val)} {mt : Val → M Unit} {mb : S} {mc : M Bool} {pos : Pos}
theorem ss_for {ws : List Nat} (G : Good X k W) (hi : SI X W tg iter mi) (hg : SG X W ws tg mt) (hb : SB X W np body mb) (hs : ∀ x, foldedSetIterable iter X.env x = pure x := by intro _; rfl) : SS X W np (.For tg iter body [] pos) (mFor mi mt mb) := by
  refine PS.imp (ps_for G.po G.calm hi hg hb hs) fun D σ H h => ?_
  obtain ⟨F, e, R, h⟩ := h
  refine useX (R1 := RI X.K) (Cur.refl R) h fun vs e1 F1 H1 J C1 q1 _ h1 => ?_
  obtain ⟨Gd, Y, wk, still, gives⟩ := q1
  refine for_it wk (fun i σ' H' => ∃ F' e', Cur X.K (bg np F H e σ) F' H' e' σ' ∧ Same F1 F' ∧ AtS X.K W (bg np F H e σ) (loopS mt mb (vs.drop i)) F' e' σ' H' D) ⟨F1, e1, C1, Same.refl _, h1⟩ ?_ ?_ ?_
  · rintro i σ' H' _ ⟨F', e', C', s', _⟩
    exact still H' (s'.trans C'.rel.sub)
  · rintro i x σ' H' H2 hi ⟨F', e', C', s', h'⟩ y
    have hv : vs[i]? = some vs[i] := List.getElem?_eq_getElem hi
    obtain ⟨F2, C2, s2, r2⟩ := gives i _ _ _ _ _ _ _ _ hv C' s' y
    refine ⟨np, F2, e', vs[i], C2.rel, r2, ?_⟩
    rw [List.drop_eq_getElem_cons hi] at h'
    unfold AtS loopS at h'
    unfold AtG
    cases z : mt vs[i] e' with
    | bad => simp only [z] at h'
    | rs x2 e2 =>
      simp only [z] at h'
      exact fun F' H' σ' cls d C' => h' F' H' σ' cls d (C2.trans C')
    | ok _ e2 =>
      simp only [z] at h'
      intro F3 H3 σ3 C3 _
      refine ⟨F3, e2, C3.rel, ?_⟩
      unfold AtS
      have C23 := C2.trans C3
      have s3 : Same F1 F3 := s'.trans (s2.trans C3.post.sub)
      cases z2 : mb e2 with
      | bad => simp only [z2] at h'
      | rs x3 e3 =>
        simp only [z2] at h'
        exact fun F' H' σ' cls d C' => h' F' H' σ' cls d (C23.trans C')
      | ok o e3 =>
        cases o with
        | nx =>
          simp only [z2] at h'
          intro F4 H4 σ4 C4
          exact ⟨F4, e3, C23.trans C4, s3.trans C4.post.sub, h'⟩
        | ct =>
          simp only [z2] at h'
          intro F4 H4 σ4 C4
          exact ⟨F4, e3, C23.trans C4, s3.trans C4.post.sub, h'⟩
        | bk =>
          simp only [z2] at h'
          exact fun F4 H4 σ4 C4 => h' F4 H4 σ4 (C23.trans C4)
        | rt r =>
          simp only [z2] at h'
          exact fun F4 H4 σ4 u C4 q4 => h' F4 H4 σ4 u (C23.trans C4) (q4.out C23)
  · rintro σ' H' ⟨F', e', C', s', h'⟩
    rw [List.drop_length] at h'
    exact h'.nx rfl C'
def whileS (c : M Bool) (b : S) : Nat → S
  | 0 => fun _ => .bad
  | n + 1 => fun e => match c e with
    | .ok true e1 => match b e1 with
      | .ok .nx e2 => whileS c b n e2
      | .ok .ct e2 => whileS c b n e2
      | .ok .bk e2 => .ok .nx e2
      | .ok (.rt x) e2 => .ok (.rt x) e2
      | .rs x e2 => .rs x e2
      | .bad => .bad
    | .ok false e1 => .ok .nx e1
    | .rs x e1 => .rs x e1
    | .bad => .bad
theorem ss_while (n : Nat) (G : Good X k W) (hc : ST X W c mc) (hb : SB X W np body mb) : SS X W np (.While c body [] pos) (whileS mc mb n) := by
  refine PS.imp (ps_while G.po hc hb) fun D σ H h => ?_
  obtain ⟨F, e, R, h⟩ := h
  refine ⟨fun m σ' H' => ∃ F' e', Cur X.K (bg np F H e σ) F' H' e' σ' ∧ AtS X.K W (bg np F H e σ) (whileS mc mb m) F' e' σ' H' D, ⟨n, F, e, Cur.refl R, h⟩, ?_⟩
  rintro m σ' H' ⟨F', e', C', h'⟩
  cases m with
  | zero => exact h'.elim
  | succ m =>
    refine ⟨np, F', e', C'.rel, ?_⟩
    unfold AtS whileS at h'
    unfold At
    cases z : mc e' with
    | bad => simp only [z] at h'
    | rs x e2 =>
      simp only [z] at h'
      exact fun F' H' cls d C2 => h' F' H' _ cls d (C'.trans C2)
    | ok b e2 =>
      cases b with
      | false =>
        simp only [z] at h'
        intro F2 H2 b' C2 eb
        subst eb
        exact h' F2 H2 _ (C'.trans C2)
      | true =>
        simp only [z] at h'
        intro F2 H2 b' C2 eb
        subst eb
        refine ⟨fun σ4 H4 => ∃ F4 e4, Cur X.K (bg np F H e σ) F4 H4 e4 σ4 ∧ AtS X.K W (bg np F H e σ) (whileS mc mb m) F4 e4 σ4 H4 D, fun σ4 H4 q => ⟨m, Nat.lt_succ_self m, q⟩, F2, e2, C2.rel, ?_⟩
        have C12 := C'.trans C2
        unfold AtS
        cases z2 : mb e2 with
        | bad => simp only [z2] at h'
        | rs x3 e3 =>
          simp only [z2] at h'
          exact fun F' H' σ' cls d C' => h' F' H' σ' cls d (C12.trans C')
        | ok o e3 =>
          cases o with
          | nx =>
            simp only [z2] at h'
            exact fun F4 H4 σ4 C4 => ⟨F4, e3, C12.trans C4, h'⟩
          | ct =>
            simp only [z2] at h'
            exact fun F4 H4 σ4 C4 => ⟨F4, e3, C12.trans C4, h'⟩
          | bk =>
            simp only [z2] at h'
            exact fun F4 H4 σ4 C4 => h' F4 H4 σ4 (C12.trans C4)
          | rt r =>
            simp only [z2] at h'
            exact fun F4 H4 σ4 u C4 q4 => h' F4 H4 σ4 u (C12.trans C4) (q4.out C12)
end
end Pu
set_option Elab.async false
set_option linter.all false
set_option maxRecDepth 100000
namespace Pu
open PySem PySem.Spec PyProof.Rows L2
section
variable {K : PySem.W.Frag} {W : WX} {α α' β β' : Type} {R1 : Bg → Hp → Hp → Ev → Sig → α → β → Prop} {R2 : Bg → Hp → Hp → Ev → Sig → α' → β' → Prop} {B : Bg} {F H : Hp} {e : Ev} {σ : Sig}
theorem useQ [Carry K R1] {m : M α} {f : α → M α'} {Q : β' → Hp → Prop} {G : β → Hp → Prop} (C : Cur K B F H e σ) (h : At K W R2 B (m.bind f) F e σ H Q)
    (k : ∀ r e1 F1 H1 x, m e = .ok r e1 → Cur K B F1 H1 e1 σ → R1 B F1 H1 e1 σ r x → Cur K (bg B.np F H e σ) F1 H1 e1 σ → At K W R2 B (f r) F1 e1 σ H1 Q → G x H1) : tM K W R1 m σ H G := by
  refine ⟨B.np, F, e, C.rel, ?_⟩
  unfold At M.bind at h
  unfold At
  cases hm : m e with
  | bad => rw [hm] at h; exact h
  | rs x e' =>
    rw [hm] at h
    intro F' H' cls d C' X'
    exact h F' H' cls d (C.trans C') X'
  | ok r e' =>
    rw [hm] at h
    intro F' H' u C' r'
    exact k r e' F' H' u hm (C.trans C') (Carry.out C r') C' h
end
section
variable {X : Cx} {W : WX} {tg a b : Expr} {ma mb : M RV} {p pos : Pos}
theorem ri_list {K : PySem.W.Frag} {B : Bg} {F H : Hp} {e : Ev} {σ : Sig} {xs : List Val} {a : Addr} {us : List V} (h1 : Rd F a (.lst us)) (h2 : VRs K F xs us) : RI K B F H e σ xs (Itl K a) := by
  have e1 := h2.length
  refine ⟨_, _, by rw [e1]; exact walk_list (K := K) (a := a) (xs := us), fun H s => Or.inl (rd_mono s h1), ?_⟩
  rintro i v B1 F1 H1 e1 σ1 x H' hv C s ⟨rfl, hx⟩
  obtain ⟨v', h3, h4⟩ := h2.get' hx
  rw [hv] at h3; cases h3
  exact ⟨F1, C, Same.refl _, h4.mono s⟩
theorem ri_tup {K : PySem.W.Frag} {B : Bg} {F H : Hp} {e : Ev} {σ : Sig} {xs : List Val} {a : Addr} {us : List V} (h1 : SqT K F a us) (h2 : VRs K F xs us) : RI K B F H e σ xs (Itt K a) := by
  have e1 := h2.length
  refine ⟨_, _, by rw [e1]; exact walk_tup (K := K) (a := a) (xs := us), fun H s => sqT_mono s h1, ?_⟩
  rintro i v B1 F1 H1 e1 σ1 x H' hv C s ⟨rfl, hx⟩
  obtain ⟨v', h3, h4⟩ := h2.get' hx
  rw [hv] at h3; cases h3
  exact ⟨F1, C, Same.refl _, h4.mono s⟩
theorem ri_rng {K : PySem.W.Frag} {B : Bg} {F H : Hp} {e : Ev} {σ : Sig} {lo hi : Int} : RI K B F H e σ (rangeV lo hi) (Itr lo (hi - lo).toNat) := by
  refine ⟨_, _, by rw [show (rangeV lo hi).length = (hi - lo).toNat by simp [rangeV]]; exact walk_range (lo := lo), fun _ _ => trivial, ?_⟩
  rintro i v B1 F1 H1 e1 σ1 x H' hv C s ⟨rfl, hx⟩
  unfold rangeV at hv
  rw [List.getElem?_map] at hv
  cases q : (List.range (hi - lo).toNat)[i]? with
  | none => rw [q] at hv; cases hv
  | some j =>
    rw [q] at hv
    have ej : j = i := by
      have := List.getElem?_eq_some_iff.mp q
      obtain ⟨h, e⟩ := this
      rw [← e]; exact (List.getElem_range h)
    cases hv
    subst hx ej
    exact ⟨F1, C, Same.refl _, VR.int _⟩
theorem si_seq (ha : SE X W a ma) : SI X W tg a (mItems ma) := by
  constructor
  intro pins s σ H R I h
  obtain ⟨np, F, e, Rl, h⟩ := h
  have stop : ∀ {P : Prop}, (∀ r e1 v e2, ma e = .ok r e1 → M.dt r e1 = .ok v e2 → (∃ xs, v = .lst xs) ∨ (∃ xs, v = .tup xs) → P) → ((∃ x e1, ma e = .rs x e1) → P) → P := fun {P} k k2 => by
    unfold At mItems M.bind at h
    cases z : ma e with
    | bad => simp only [z] at h
    | rs x e1 => exact k2 ⟨x, e1, z⟩
    | ok r e1 =>
      simp only [z] at h
      cases z2 : M.dt r e1 with
      | bad => simp only [z2] at h
      | rs x e2 => exact (dt_some _ _ z2).elim
      | ok v e2 =>
        simp only [z2] at h
        refine k r e1 v e2 z z2 ?_
        cases v with
        | lst xs => exact .inl ⟨xs, rfl⟩
        | tup xs => exact .inr ⟨xs, rfl⟩
        | _ => exact h.elim
  have asL : ((∀ r e1 v e2, ma e = .ok r e1 → M.dt r e1 = .ok v e2 → ∃ xs, v = .lst xs)) → iList X.K (tE X.K W ma) σ H R := fun only => by
    refine useQ (R1 := RR X.K) (Cur.refl Rl) h fun r e1 F1 H1 x hm C1 q1 _ h1 => ?_
    cases z2 : M.dt r e1 with
    | rs x e2 => exact (dt_some _ _ z2).elim
    | bad => unfold At M.bind at h1; simp only [z2] at h1
    | ok v e2 =>
      obtain ⟨xs, rfl⟩ := only r e1 v e2 hm z2
      obtain ⟨F2, C2, s2, r2, _⟩ := dt_go C1 q1 z2
      unfold At M.bind at h1
      simp only [z2, itemsV, M.ret] at h1
      cases r2 with
      | lst h3 h4 => exact ⟨_, rfl, ⟨_, .inl (rd_mono C2.rel.sub h3)⟩, h1 _ _ _ C2 (ri_list h3 h4)⟩
  have asT : ((∀ r e1 v e2, ma e = .ok r e1 → M.dt r e1 = .ok v e2 → ∃ xs, v = .tup xs)) → iTup X.K (tE X.K W ma) σ H R := fun only => by
    refine useQ (R1 := RR X.K) (Cur.refl Rl) h fun r e1 F1 H1 x hm C1 q1 _ h1 => ?_
    cases z2 : M.dt r e1 with
    | rs x e2 => exact (dt_some _ _ z2).elim
    | bad => unfold At M.bind at h1; simp only [z2] at h1
    | ok v e2 =>
      obtain ⟨xs, rfl⟩ := only r e1 v e2 hm z2
      obtain ⟨F2, C2, s2, r2, _⟩ := dt_go C1 q1 z2
      unfold At M.bind at h1
      simp only [z2, itemsV, M.ret] at h1
      cases r2 with
      | tup h3 h4 => exact ⟨_, rfl, ⟨_, sqT_mono C2.rel.sub h3⟩, h1 _ _ _ C2 (ri_tup h3 h4)⟩
  refine stop (fun r e1 v e2 z1 z2 kind => ?_) fun ⟨x, e1, z1⟩ => ?_
  · rcases kind with ⟨xs, rfl⟩ | ⟨xs, rfl⟩
    · refine (pi_list ha).run pins s σ H R I (asL fun r' e1' v' e2' y1 y2 => ?_)
      rw [z1] at y1; cases y1
      rw [z2] at y2; cases y2
      exact ⟨xs, rfl⟩
    · refine (pi_tup ha).run pins s σ H R I (asT fun r' e1' v' e2' y1 y2 => ?_)
      rw [z1] at y1; cases y1
      rw [z2] at y2; cases y2
      exact ⟨xs, rfl⟩
  · refine (pi_list ha).run pins s σ H R I (asL fun r' e1' v' e2' y1 y2 => ?_)
    rw [z1] at y1; cases y1
theorem sa_1 {K : PySem.W.Frag} {B : Bg} {F H : Hp} {e : Ev} {σ : Sig} {α β : Type} {R2 : Bg → Hp → Hp → Ev → Sig → α → β → Prop} {m : M RV} {f : RV → M α} {Q : β → Hp → Prop} {G : List V → Hp → Prop} (C : Cur K B F H e σ) (h : At K W R2 B (m.bind f) F e σ H Q)
    (k : ∀ r e1 F1 H1 x, Cur K B F1 H1 e1 σ → RR K B F1 H1 e1 σ r x → At K W R2 B (f r) F1 e1 σ H1 Q → G [x] H1) : tA K W (mCons m mNil) σ H G := by
  refine ⟨B.np, F, e, C.rel, ?_⟩
  unfold At M.bind at h
  unfold At mCons mNil M.bind M.ret
  cases z : m e with
  | bad => simp only [z] at h
  | rs x e1 => simp only [z] at h; exact fun F' H' cls d C' => h F' H' cls d (C.trans C')
  | ok r e1 =>
    simp only [z] at h
    intro F1 H1 us C1 q1
    cases q1 with
    | cons a b c =>
      cases c
      exact k r e1 F1 H1 _ (C.trans C1) (a.out C) h
theorem si_rng1 (gl : Gl X "range") (fr : X.mg "range" = none) (ha : SE X W a ma) (hs : starEach [a] X.env = [(false, eval a X.env)] := by rfl) : SI X W tg (.Call (.Name "range" p) [a] [] pos) (mRng1 ma) := by
  refine PI.imp (pi_range1 gl fr (sa_cons ha sa_nil hs) hs) fun σ H R h => ?_
  obtain ⟨np, F, e, Rl, h⟩ := h
  refine sa_1 (Cur.refl Rl) h fun r e1 F1 H1 x C1 q1 h1 => ?_
  obtain ⟨v, rv, h2⟩ := At.rd C1.rel q1 h1
  split at h2
  · rename_i j
    by_cases hj : -4611686018427387904 ≤ j ∧ j < 4611686018427387904
    · rw [if_pos hj] at h2
      refine ⟨j, by rw [rv.int], by omega, by omega, h2.ok rfl C1 ?_⟩
      have e3 : (j - 0).toNat = j.toNat := by simp
      rw [← e3]
      exact ri_rng
    · rw [if_neg hj] at h2
      exact h2.elim
  · exact h2.elim
theorem si_rng2 (gl : Gl X "range") (fr : X.mg "range" = none) (ha : SE X W a ma) (hb : SE X W b mb) (hs : starEach [a, b] X.env = [(false, eval a X.env), (false, eval b X.env)] := by rfl) (hs2 : starEach [b] X.env = [(false, eval b X.env)] := by rfl)
    (hs3 : starEach [a, b] X.env = (false, eval a X.env) :: starEach [b] X.env := by rfl) : SI X W tg (.Call (.Name "range" p) [a, b] [] pos) (mRng2 ma mb) := by
  refine PI.imp (pi_range2 gl fr (pa_cons ha (sa_cons hb sa_nil hs2) hs3) hs hs2) fun σ H R h => ?_
  obtain ⟨np, F, e, Rl, h⟩ := h
  refine use (R1 := RR X.K) (Cur.refl Rl) h fun r e1 F1 H1 x C1 q1 _ h1 => ?_
  have q0 := q1
  refine ⟨np, F1, e1, C1.rel, ?_⟩
  unfold At M.bind at h1
  unfold At mCons mNil M.bind M.ret
  cases z : mb e1 with
  | bad => simp only [z] at h1
  | rs x e1 => simp only [z] at h1; exact fun F' H' cls d C' => h1 F' H' cls d (C1.trans C')
  | ok s e2 =>
    simp only [z] at h1
    intro F2 H2 us C2 q2
    cases q2 with
    | cons a2 b2 c2 =>
      cases c2
      rename_i y
      have C12 := C1.trans C2
      have h2 : At X.K W (RI X.K) (bg np F H e σ) ((M.rd r).bind fun v => (M.rd s).bind fun w => match v, w with
        | .int i, .int j => if -4611686018427387904 ≤ i ∧ i < 4611686018427387904 ∧ -4611686018427387904 ≤ j ∧ j < 4611686018427387904 then M.ret (rangeV i j) else M.bad
        | _, _ => M.bad) F2 e2 σ H2 R := h1
      obtain ⟨v, rv, h3⟩ := At.rd C12.rel (q1.carry C2) h2
      obtain ⟨w, rw_, h4⟩ := At.rd C12.rel (a2.out C1) h3
      split at h4
      · rename_i i j
        by_cases hj : -4611686018427387904 ≤ i ∧ i < 4611686018427387904 ∧ -4611686018427387904 ≤ j ∧ j < 4611686018427387904
        · rw [if_pos hj] at h4
          exact ⟨i, j, by rw [rv.int, rw_.int], ⟨by omega, by omega, by omega, by omega⟩, h4.ok rfl C12 ri_rng⟩
        · rw [if_neg hj] at h4
          exact h4.elim
      · exact h4.elim
end
end Pu
set_option Elab.async false
set_option linter.all false
set_option maxRecDepth 100000
namespace Pu
open PySem PySem.Spec PyProof.Rows L2
abbrev STs (X : Cx) (W : WX) (cs : List Expr) (m : M Bool) : Prop := PTs X cs (tT X.K W m)
def noW : WX := fun _ _ _ _ => False
section
variable {K : PySem.W.Frag} {W : WX} {B : Bg} {F F' H H' : Hp} {e e' : Ev} {σ σ' : Sig}
theorem Own.wiped {a : Addr} {τ τ' : Sig} : ∀ {ws : List Nat}, (∀ i, i ∉ ws → τ[i]? = τ'[i]?) → Own (wipeE e ws) τ a → Own (wipeE e ws) τ' a := fun {ws} h ⟨i, v, h1, h2⟩ => by
  have nm : ∀ {ws : List Nat} {e : Ev}, (wipeE e ws)[i]? = some (.own v) → i ∉ ws := by
    intro ws
    induction ws with
    | nil => intro e _; simp
    | cons w ws ih =>
      intro e q
      unfold wipeE at q
      rcases getset q with ⟨_, z, _⟩ | ⟨z, q⟩
      · cases z
      · simp only [List.mem_cons, not_or]
        exact ⟨fun z2 => z z2.symm, ih q⟩
  exact ⟨i, v, h1, by rw [← h i (nm h1)]; exact h2⟩
theorem wipeE_un : ∀ {ws : List Nat} {e : Ev} {i : Nat} {s : Slot}, (wipeE e ws)[i]? = some s → s = .un ∨ (i ∉ ws ∧ e[i]? = some s)
  | [], e, i, s, h => .inr ⟨by simp, h⟩
  | w :: ws, e, i, s, h => by
    unfold wipeE at h
    rcases getset h with ⟨_, z, _⟩ | ⟨z, h⟩
    · exact .inl z
    · rcases wipeE_un h with q | ⟨q1, q2⟩
      · exact .inl q
      · exact .inr ⟨by simp only [List.mem_cons, not_or]; exact ⟨fun z2 => z z2.symm, q1⟩, q2⟩
theorem wipeE_length (e : Ev) : ∀ ws : List Nat, (wipeE e ws).length = e.length
  | [] => rfl
  | w :: ws => by unfold wipeE; rw [List.length_set, wipeE_length e ws]
theorem wipe_out {i : Nat} : ∀ {ws : List Nat} {σ : Sig}, i ∉ ws → (wipe σ ws)[i]? = σ[i]?
  | [], σ, _ => rfl
  | w :: ws, σ, h => by
    simp only [List.mem_cons, not_or] at h
    unfold wipe
    rw [List.getElem?_set_ne (fun z => h.1 z.symm)]
    exact wipe_out h.2
theorem Cur.wiped {τ : Sig} {ws : List Nat} (C : Cur K B F H e σ) (hl : τ.length = σ.length) (h : ∀ i, i ∉ ws → τ[i]? = σ[i]?) : Cur K B F H (wipeE e ws) τ := by
  have own : ∀ {i : Nat} {v : Val}, (wipeE e ws)[i]? = some (.own v) → e[i]? = some (.own v) ∧ τ[i]? = σ[i]? := fun {i v} q => by
    rcases wipeE_un q with z | ⟨z1, z2⟩
    · cases z
    · exact ⟨z2, h i z1⟩
  refine ⟨C.post, ⟨C.rel.sub, by rw [wipeE_length, hl]; exact C.rel.len, fun i s o a1 a2 => ?_, fun i j v w a a1 a2 a3 a4 => ?_, C.rel.tb, C.rel.nt⟩, fun a ⟨i, v, a1, a2⟩ => ?_, by rw [wipeE_length]; exact C.ln, fun j v hj h' => ?_⟩
  · rcases wipeE_un a1 with z | ⟨z1, z2⟩
    · subst z; trivial
    · exact C.rel.slot i s o z2 (by rw [← h i z1]; exact a2)
  · obtain ⟨b1, b2⟩ := own a1
    obtain ⟨c1, c2⟩ := own a2
    exact C.rel.inj i j v w a b1 c1 (by rw [← b2]; exact a3) (by rw [← c2]; exact a4)
  · obtain ⟨b1, b2⟩ := own a1
    exact C.own a ⟨i, v, b1, by rw [← b2]; exact a2⟩
  · obtain ⟨b1, b2⟩ := own h'
    rw [b2]
    exact C.par j v hj b1
theorem wipe_in {i : Nat} : ∀ {ws : List Nat} {σ : Sig}, i ∈ ws → i < σ.length → (wipe σ ws)[i]? = some none
  | w :: ws, σ, h, hl => by
    unfold wipe
    by_cases hw : w = i
    · subst hw
      rw [List.getElem?_set_self (by rw [wipe_length]; exact hl)]
    · rw [List.getElem?_set_ne hw]
      refine wipe_in ?_ hl
      rcases List.mem_cons.mp h with q | q
      · exact absurd q.symm hw
      · exact q
theorem wipe_upd {ws : List Nat} {τ : Sig} (u : Upd ws (wipe σ ws) τ) : wipe τ ws = wipe σ ws := by
  have l1 : τ.length = σ.length := u.1.trans (wipe_length σ ws)
  refine List.ext_getElem? fun i => ?_
  by_cases hi : i ∈ ws
  · by_cases hl : i < σ.length
    · rw [wipe_in hi (by omega), wipe_in hi hl]
    · rw [List.getElem?_eq_none (by rw [wipe_length]; omega), List.getElem?_eq_none (by rw [wipe_length]; omega)]
  · rw [wipe_out hi, u.2 i hi]
theorem Cur.write {t : Addr} {o o' : HO} (C : Cur K B F H e σ) (h1 : F t = none) (h2 : ¬ Own e σ t) (h3 : B.mine t) (h4 : H t = some o) (h5 : plainO o = true := by rfl) : Cur K B F (upd H t o') e σ := by
  refine ⟨⟨C.post.sub, fun a o2 q n t5 => ?_, C.post.nw, fun a q => ?_⟩, ⟨fun b o2 q => ?_, C.rel.len, fun i s o2 a1 a2 => ?_, C.rel.inj, Tabs.put C.rel.tb h4 h5, C.rel.nt⟩, C.own, C.ln, C.par⟩
  · have ne : a ≠ t := fun z => by
      subst z
      rcases h3 with z | z
      · exact n z
      · rw [z] at q; cases q
    rw [upd_ne ne]
    exact C.post.fr a o2 q n t5
  · by_cases ha : a = t
    · rw [ha, upd_same] at q; cases q
    · rw [upd_ne ha] at q; exact C.post.kp a q
  · have ne : b ≠ t := fun z => by rw [z, h1] at q; cases q
    rw [upd_ne ne]
    exact C.rel.sub b o2 q
  · have z := C.rel.slot i s o2 a1 a2
    cases s with
    | un => trivial
    | dat v => exact z
    | own v =>
      obtain ⟨b, b1, b2, b3⟩ := z
      have ne : b ≠ t := fun z => h2 ⟨i, v, a1, by rw [a2, b1, z]⟩
      exact ⟨b, b1, b2, b3.mono (Same.refl _) (upd_ne ne)⟩
end
section
variable {X : Cx} {W : WX} {k : Nat} {elt tg iter : Expr} {ifs : List Expr} {scope : Scope} {own : List (Str × Nat)} {pos : Pos} {mi : M (List Val)} {mt : Val → M Unit} {mc : M Bool} {me : M RV}
theorem sts_nil : STs X W [] mYes := ⟨fun pins s σ H Q I ⟨np, F, e, R, h⟩ => (pts_nil (X := X)).run pins s σ H Q I (h.ok (e' := e) (r := true) rfl (Cur.refl R) rfl)⟩
theorem sts_one {c : Expr} {m : M Bool} (h : ST X W c m) : STs X W [c] m := pts_one h
theorem comp_ok {K : PySem.W.Frag} {ws : List Nat} {σ : Sig} {H : Hp} {Q : VK} (h : tE K W (mComp ws mi mt mc me) σ H Q) : tLc (tM K W (RI K) mi) (tG K noW ws mt) (tT K noW mc) (tE K noW me) ws σ H Q := by
  obtain ⟨np, F, e, R, h⟩ := h
  refine use (R1 := RI K) (Cur.refl R) h fun vs e1 F1 H1 J C1 q1 _ h1 => ?_
  obtain ⟨Gd, Y, wk, still, gives⟩ := q1
  intro D hD
  have lw : (wipe σ ws).length = σ.length := wipe_length σ ws
  -- what holds between two turns
  let Pv : Nat → Hp → Prop := fun i H' => ∃ F' e' acc us, Cur K (bg np F H e σ) F' H' (wipeE e' ws) (wipe σ ws) ∧ Same F1 F' ∧ F' D = none ∧ ¬ Own (wipeE e' ws) (wipe σ ws) D ∧ (bg np F H e σ).mine D ∧ H' D = some (.lst us) ∧ VRs K F' acc us ∧
    (match compS ws mt mc me (vs.drop i) acc (wipeE e' ws) with
      | .ok acc' e2 => ∀ F2 H2 t us2, Cur K (bg np F H e σ) F2 H2 e2 (wipe σ ws) → F2 t = none → H2 t = some (.lst us2) → VRs K F2 acc' us2 → ¬ Own e2 (wipe σ ws) t → (bg np F H e σ).mine t → (∃ e3, e2 = wipeE e3 ws) → Q (.ref t) H2
      | _ => False)
  refine lc_it wk Pv ?_ ?_ ?_ ?_
  · -- the start
    obtain ⟨C2, n2, f2, m2⟩ := C1.grow (o := .lst []) hD
    have C3 : Cur K (bg np F H e σ) F1 (upd H1 D (.lst [])) (wipeE e1 ws) (wipe σ ws) := C2.wiped lw fun i hi => wipe_out hi
    refine ⟨F1, e1, [], [], C3, Same.refl _, f2, fun z => n2 ?_, m2, upd_same, .nil, ?_⟩
    · obtain ⟨i, v, z1, z2⟩ := z
      rcases wipeE_un z1 with q | ⟨q1, q2⟩
      · cases q
      · exact ⟨i, v, q2, by rw [← wipe_out q1]; exact z2⟩
    · unfold At at h1
      rw [List.drop_zero]
      cases z : compS ws mt mc me vs [] (wipeE e1 ws) with
      | bad => simp only [z] at h1
      | rs x e2 =>
        -- never: a comprehension gives no exception
        exfalso
        have no : ∀ (vs acc : List Val) (e : Ev) x e2, compS ws mt mc me vs acc e ≠ .rs x e2 := by
          intro vs
          induction vs with
          | nil => intro acc e x e2 z; cases z
          | cons v r ih =>
            intro acc e x e2 z
            unfold compS at z
            split at z
            · split at z
              · split at z
                · split at z
                  · split at z
                    · exact ih _ _ _ _ z
                    · cases z
                  · cases z
                · cases z
              · exact ih _ _ _ _ z
              · cases z
            · cases z
        exact no _ _ _ _ _ z
      | ok acc' e2 =>
        simp only [z] at h1
        intro F2 H2 t us2 D1 d2 d3 d4 d5 d6 d7
        obtain ⟨e3, rfl⟩ := d7
        have D2 : Cur K (bg np F H e σ) F2 H2 (wipeE e3 ws) σ := by
          have z := D1.wiped (ws := ws) (τ := σ) lw.symm fun i hi => (wipe_out hi).symm
          have twice : wipeE (wipeE e3 ws) ws = wipeE e3 ws := by
            refine List.ext_getElem? fun i => ?_
            have l1 : (wipeE (wipeE e3 ws) ws).length = (wipeE e3 ws).length := wipeE_length _ _
            cases q : (wipeE (wipeE e3 ws) ws)[i]? with
            | none =>
              have := List.getElem?_eq_none_iff.mp q
              exact (List.getElem?_eq_none (by omega)).symm
            | some s =>
              rcases wipeE_un q with z | ⟨z1, z2⟩
              · have il : i < (wipeE e3 ws).length := by
                  have := (List.getElem?_eq_some_iff.mp q).1
                  omega
                by_cases hi : i ∈ ws
                · subst z
                  have un : ∀ {ws : List Nat} {e : Ev}, i ∈ ws → i < e.length → (wipeE e ws)[i]? = some .un := by
                    intro ws
                    induction ws with
                    | nil => intro e hm; cases hm
                    | cons w ws ih =>
                      intro e hm hl
                      unfold wipeE
                      by_cases hw : w = i
                      · subst hw
                        rw [List.getElem?_set_self (by rw [wipeE_length]; exact hl)]
                      · rw [List.getElem?_set_ne hw]
                        refine ih ?_ hl
                        rcases List.mem_cons.mp hm with q | q
                        · exact absurd q.symm hw
                        · exact q
                  exact (un hi (by rw [wipeE_length] at il; exact il)).symm
                · have keep : ∀ {ws : List Nat} {e : Ev}, i ∉ ws → (wipeE e ws)[i]? = e[i]? := by
                    intro ws
                    induction ws with
                    | nil => intro e _; rfl
                    | cons w ws ih =>
                      intro e hm
                      simp only [List.mem_cons, not_or] at hm
                      unfold wipeE
                      rw [List.getElem?_set_ne (fun z => hm.1 z.symm)]
                      exact ih hm.2
                  rw [keep hi] at q
                  exact q.symm
              · exact z2.symm
          rw [twice] at z
          exact z
        refine h1 F2 H2 (.ref t) D2 ⟨t, rfl, d2, ⟨us2, d3, d4⟩, fun ⟨i, v, z1, z2⟩ => d5 ?_, d6⟩
        rcases wipeE_un z1 with q | ⟨q1, q2⟩
        · cases q
        · exact ⟨i, v, z1, by rw [wipe_out q1]; exact z2⟩
  · rintro i H' _ ⟨F', e', acc, us, C', s', _⟩
    exact still H' (s'.trans C'.rel.sub)
  · -- a turn
    rintro i x H' H2 hi ⟨F', e', acc, us, C', s', fD, oD, mD, hD', ra, h'⟩ y
    have hv : vs[i]? = some vs[i] := List.getElem?_eq_getElem hi
    obtain ⟨F2, C2, s2, r2⟩ := gives i _ _ _ _ _ _ _ _ hv C' s' y
    rw [List.drop_eq_getElem_cons hi] at h'
    have keepD : ∀ {F3 H3 : Hp} {e3 : Ev} {σ3 : Sig}, Cur K (bg np F' H' (wipeE e' ws) (wipe σ ws)) F3 H3 e3 σ3 → F3 D = none ∧ H3 D = some (.lst us) ∧ ¬ Own e3 σ3 D := fun {F3 H3 e3 σ3} c => by
      have no : ¬ (bg np F' H' (wipeE e' ws) (wipe σ ws)).mine D := fun z => by
        rcases z with z | z
        · exact oD z
        · have z' : H' D = none := z
          rw [hD'] at z'; cases z'
      refine ⟨?_, c.post.fr D _ hD' oD (fun _ z => by cases z), fun z => no (c.own D z)⟩
      cases q : F3 D with
      | none => rfl
      | some o =>
        rcases c.post.nw D (by rw [q]; simp) with z | z
        · exact absurd fD z
        · exact absurd z no
    -- the walk itself gave the item: since the turn's beginning
    obtain ⟨F2', C2', s2', r2'⟩ := gives i _ (bg np F' H' (wipeE e' ws) (wipe σ ws)) _ _ _ _ _ _ hv (Cur.refl C'.rel) s' y
    refine ⟨np, F2', _, vs[i], C2'.rel, r2', ?_⟩
    unfold compS at h'
    unfold AtG
    cases z : mt vs[i] (wipeE e' ws) with
    | bad => simp only [z] at h'
    | rs x2 e2 => simp only [z] at h'
    | ok _ e2 =>
      simp only [z] at h'
      intro F3 H3 σ3 C3 up
      have D3 := C2'.trans C3
      have w3 : wipe σ3 ws = wipe σ ws := wipe_upd up
      refine ⟨w3, np, F3, e2, C3.rel, ?_⟩
      unfold At
      cases z2 : mc e2 with
      | bad => simp only [z2] at h'
      | rs x2 e2 => simp only [z2] at h'
      | ok b e3 =>
        intro F4 H4 b' C4 eb
        have eb' : b = b' := eb
        subst eb'
        have D4 := D3.trans C4
        cases b with
        | false =>
          simp only [z2] at h'
          obtain ⟨k1, k2, k3⟩ := keepD D4
          have D5 : Cur K (bg np F' H' (wipeE e' ws) (wipe σ ws)) F4 H4 (wipeE e3 ws) (wipe σ ws) := D4.wiped (by rw [← w3]; exact wipe_length _ _) fun i hi => by rw [← w3]; exact wipe_out hi
          obtain ⟨l1, l2, l3⟩ := keepD D5
          exact ⟨F4, e3, acc, us, C'.trans D5, s'.trans (D5.post.sub), l1, l3, mD, l2, ra.mono D5.post.sub, h'⟩
        | true =>
          simp only [z2] at h'
          refine ⟨np, F4, e3, C4.rel, ?_⟩
          unfold At
          cases z3 : me e3 with
          | bad => simp only [z3] at h'
          | rs x2 e2 => simp only [z3] at h'
          | ok x e4 =>
            simp only [z3] at h'
            intro F5 H5 u C5 q5
            have D5 := D4.trans C5
            have q5' : RR K (bg np F' H' (wipeE e' ws) (wipe σ ws)) F5 H5 e4 σ3 x u := q5.out D4
            cases z4 : M.dt x e4 with
            | bad => simp only [z4] at h'
            | rs x2 e2 => simp only [z4] at h'
            | ok w e5 =>
              simp only [z4] at h'
              obtain ⟨F6, C6, s6, r6, _⟩ := dt_go D5 q5' z4
              by_cases hl : acc.length < sizeLine
              · rw [if_pos hl] at h'
                have D6 : Cur K (bg np F' H' (wipeE e' ws) (wipe σ ws)) F6 H5 (wipeE e5 ws) (wipe σ ws) := C6.wiped (by rw [← w3]; exact wipe_length _ _) fun i hi => by rw [← w3]; exact wipe_out hi
                obtain ⟨l1, l2, l3⟩ := keepD D6
                refine ⟨us, l2, by rw [← ra.length]; exact hl, ?_⟩
                have D7 := C'.trans D6
                exact ⟨F6, e5, acc ++ [w], us ++ [u], D7.write l1 l3 mD l2, s'.trans D6.post.sub, l1, l3, mD, upd_same, (ra.mono D6.post.sub).append (.cons r6 .nil), h'⟩
              · rw [if_neg hl] at h'
                exact h'.elim
  · rintro H' ⟨F', e', acc, us, C', s', fD, oD, mD, hD', ra, h'⟩
    rw [List.drop_length] at h'
    exact h' F' H' D us C' fD hD' ra oD mD ⟨e', rfl⟩
theorem se_comp (hc : X.calm = true) (hN : X.N.Nodup) (hi : SI X W tg iter mi) (ok : BlkOk X.N X.env.scope scope own)
    (hg : ∀ (s : Shared) (H : Hp) (C : Addr) (cl : List (Str × Addr)) (fp : List Addr), SG (X.blk s H scope (compEnvC scope cl C X.env) fp) noW (own.map (·.2)) tg mt)
    (ht : ∀ (s : Shared) (H : Hp) (C : Addr) (cl : List (Str × Addr)) (fp : List Addr), STs (X.blk s H scope (compEnvC scope cl C X.env) fp) noW ifs mc)
    (he : ∀ (s : Shared) (H : Hp) (C : Addr) (cl : List (Str × Addr)) (fp : List Addr), SE (X.blk s H scope (compEnvC scope cl C X.env) fp) noW elt me) (hs : ∀ x, foldedSetIterable iter X.env x = pure x := by intro _; rfl) :
    SE X W (.ListComp elt [⟨tg, iter, ifs, 0⟩] scope pos) (mComp (own.map (·.2)) mi mt mc me) :=
  PE.imp (pe_lc (te := tE X.K noW me) (tt := tT X.K noW mc) (g := tG X.K noW (own.map (·.2)) mt) hc hN hi ok hg ht he hs) fun _ _ _ h => comp_ok h
theorem ss_comp (i : Nat) {np : Nat} {y : Str} {py spos : Pos} (G : Good X k W) (hi : SI X W tg iter mi) (ok : BlkOk X.N X.env.scope scope own)
    (hg : ∀ (s : Shared) (H : Hp) (C : Addr) (cl : List (Str × Addr)) (fp : List Addr), SG (X.blk s H scope (compEnvC scope cl C X.env) fp) noW (own.map (·.2)) tg mt)
    (ht : ∀ (s : Shared) (H : Hp) (C : Addr) (cl : List (Str × Addr)) (fp : List Addr), STs (X.blk s H scope (compEnvC scope cl C X.env) fp) noW ifs mc)
    (he : ∀ (s : Shared) (H : Hp) (C : Addr) (cl : List (Str × Addr)) (fp : List Addr), SE (X.blk s H scope (compEnvC scope cl C X.env) fp) noW elt me)
    (hsw : swapsWith (.ListComp elt [⟨tg, iter, ifs, 0⟩] scope pos) (some (.Name y py)) spos.line X.env = pure true) (hp : np ≤ i := by decide) (hy : X.N[i]? = some y := by rfl) (hyl : X.env.scope.names.lookup y = some .local := by rfl)
    (hs : ∀ x, foldedSetIterable iter X.env x = pure x := by intro _; rfl) :
    SS X W np (.Assign [.Name y py] (.ListComp elt [⟨tg, iter, ifs, 0⟩] scope pos) spos) (mSet i (mComp (own.map (·.2)) mi mt mc me)) := by
  refine PS.imp (ps_setLc (te := tE X.K noW me) (tt := tT X.K noW mc) (g := tG X.K noW (own.map (·.2)) mt) G.calm G.nd hy hyl hsw hi ok hg ht he hs) fun D σ H h => ?_
  refine comp_ok ?_
  obtain ⟨F, e, R, h⟩ := h
  exact useX (R1 := RR X.K) (Cur.refl R) h fun r e1 F1 H1 u C1 q1 _ h1 => st_ok hp C1 q1 h1
end
end Pu
set_option Elab.async false
set_option linter.all false
set_option maxRecDepth 100000
namespace Pu
open PySem PySem.Spec PyProof.Rows L2
theorem outE_len : ∀ e : Ev, (outE e).length = e.length
  | [] => rfl
  | .own v :: r => congrArg Nat.succ (outE_len r)
  | .un :: r => congrArg Nat.succ (outE_len r)
  | .dat _ :: r => congrArg Nat.succ (outE_len r)
theorem outE_get : ∀ {e : Ev} {i : Nat} {s : Slot}, (outE e)[i]? = some s → s = .un ∨ ∃ v, s = .own v ∧ e[i]? = some (.own v)
  | [], i, s, h => by simp [outE] at h
  | .own v :: r, 0, s, h => by
    simp only [outE, List.getElem?_cons_zero, Option.some.injEq] at h
    exact .inr ⟨v, h.symm, rfl⟩
  | .un :: r, 0, s, h => by
    simp only [outE, List.getElem?_cons_zero, Option.some.injEq] at h
    exact .inl h.symm
  | .dat _ :: r, 0, s, h => by
    simp only [outE, List.getElem?_cons_zero, Option.some.injEq] at h
    exact .inl h.symm
  | .own v :: r, i + 1, s, h => by
    simp only [outE, List.getElem?_cons_succ] at h ⊢
    exact outE_get h
  | .un :: r, i + 1, s, h => by
    simp only [outE, List.getElem?_cons_succ] at h ⊢
    exact outE_get h
  | .dat _ :: r, i + 1, s, h => by
    simp only [outE, List.getElem?_cons_succ] at h ⊢
    exact outE_get h
section
variable {K : PySem.W.Frag} {F F' H H' : Hp} {e e' : Ev} {σ σ' : Sig} {n np k : Nat}
theorem own_app {m : Nat} (hl : e.length = σ.length) (a : Addr) : Own (e ++ List.replicate m Slot.un) (σ ++ List.replicate k none) a ↔ Own e σ a := by
  constructor
  · rintro ⟨i, v, h1, h2⟩
    by_cases hi : i < e.length
    · rw [List.getElem?_append_left hi] at h1
      rw [List.getElem?_append_left (by omega)] at h2
      exact ⟨i, v, h1, h2⟩
    · rw [List.getElem?_append_right (by omega), List.getElem?_replicate] at h1
      split at h1 <;> cases h1
  · rintro ⟨i, v, h1, h2⟩
    have hi : i < e.length := (List.getElem?_eq_some_iff.mp h1).1
    exact ⟨i, v, by rw [List.getElem?_append_left hi]; exact h1, by rw [List.getElem?_append_left (by omega)]; exact h2⟩
theorem rel_app {m : Nat} (R : Rel K F H e σ) (hm : m = k) : Rel K F H (e ++ List.replicate m Slot.un) (σ ++ List.replicate k none) := by
  have l := R.len
  have low : ∀ {i : Nat} {v : Val}, (e ++ List.replicate m Slot.un)[i]? = some (.own v) → i < e.length ∧ e[i]? = some (.own v) := fun {i v} h => by
    by_cases hi : i < e.length
    · rw [List.getElem?_append_left hi] at h; exact ⟨hi, h⟩
    · rw [List.getElem?_append_right (by omega), List.getElem?_replicate] at h
      split at h <;> cases h
  refine ⟨R.sub, by simp [l, hm], fun i s o h1 h2 => ?_, fun i j v w a h1 h2 h3 h4 => ?_, R.tb, R.nt⟩
  · by_cases hi : i < e.length
    · rw [List.getElem?_append_left hi] at h1
      rw [List.getElem?_append_left (by omega)] at h2
      exact R.slot i s o h1 h2
    · rw [List.getElem?_append_right (by omega), List.getElem?_replicate] at h1
      split at h1
      · cases h1; trivial
      · cases h1
  · obtain ⟨a1, a2⟩ := low h1
    obtain ⟨b1, b2⟩ := low h2
    rw [List.getElem?_append_left (by omega)] at h3 h4
    exact R.inj i j v w a a2 b2 h3 h4
theorem out_cur {m : Nat} {x : Ev} (hl : e.length = n) (hs : σ.length = n) (C : Cur K (bg n F H (e ++ List.replicate m Slot.un) (σ ++ List.replicate k none)) F' H' e' σ') (hx : ∀ (i : Nat) (v : Val), x[i]? = some (Slot.own v) → e'[i]? = some (Slot.own v)) (lx : x.length = e'.length) :
    Cur K (bg np F H e σ) F' H' (outE (x.take n)) σ := by
  have low : ∀ {i : Nat} {v : Val}, (outE (x.take n))[i]? = some (.own v) → i < n ∧ e'[i]? = some (.own v) ∧ σ'[i]? = σ[i]? ∧ ∃ w, e[i]? = some (.own w) := fun {i v} h => by
    rcases outE_get h with z | ⟨w, z, h2⟩
    · cases z
    · cases z
      have hi : i < n := by
        have := (List.getElem?_eq_some_iff.mp h2).1
        rw [List.length_take] at this
        omega
      rw [List.getElem?_take_of_lt hi] at h2
      have h3 := hx i v h2
      obtain ⟨h4, w, h5⟩ := C.par i v hi h3
      have h4' : σ'[i]? = (σ ++ List.replicate k none)[i]? := h4
      have h5' : (e ++ List.replicate m Slot.un)[i]? = some (.own w) := h5
      rw [List.getElem?_append_left (by omega)] at h4' h5'
      exact ⟨hi, h3, h4', w, h5'⟩
  have len : (outE (x.take n)).length = n := by
    rw [outE_len, List.length_take, lx]
    have := C.ln
    have e1 : e'.length = (e ++ List.replicate m Slot.un).length := this
    rw [List.length_append] at e1
    omega
  have O : ∀ a, (bg n F H (e ++ List.replicate m Slot.un) (σ ++ List.replicate k none)).O a ↔ Own e σ a := fun a => own_app (by omega) a
  have mine : ∀ {a}, (bg n F H (e ++ List.replicate m Slot.un) (σ ++ List.replicate k none)).mine a → (bg np F H e σ).mine a := fun {a} h => by
    rcases h with h | h
    · exact .inl ((O a).mp h)
    · exact .inr h
  refine ⟨⟨C.post.sub, fun a o h1 h2 h5 => C.post.fr a o h1 (fun z => h2 ((O a).mp z)) h5, fun a h => ?_, C.post.kp⟩, ⟨C.rel.sub, by rw [len, hs], fun i s o h1 h2 => ?_, fun i j v w a h1 h2 h3 h4 => ?_, C.rel.tb, C.rel.nt⟩, fun a ⟨i, v, h1, h2⟩ => ?_, by rw [len]; exact hl.symm, fun i v _ h => ?_⟩
  · rcases C.post.nw a h with z | z
    · exact .inl z
    · exact .inr (mine z)
  · rcases outE_get h1 with z | ⟨w, z, h3⟩
    · subst z; trivial
    · subst z
      obtain ⟨a1, a2, a3, _⟩ := low h1
      exact C.rel.slot i _ o a2 (by rw [a3]; exact h2)
  · obtain ⟨a1, a2, a3, _⟩ := low h1
    obtain ⟨b1, b2, b3, _⟩ := low h2
    exact C.rel.inj i j v w a a2 b2 (by rw [a3]; exact h3) (by rw [b3]; exact h4)
  · obtain ⟨a1, a2, a3, _⟩ := low h1
    exact mine (C.own a ⟨i, v, a2, by rw [a3]; exact h2⟩)
  · obtain ⟨a1, a2, a3, a4⟩ := low h
    exact ⟨rfl, a4⟩
theorem take_own {x : Ev} {i : Nat} {v : Val} (h : (x.set k .un)[i]? = some (.own v)) : x[i]? = some (.own v) := by
  rcases getset h with ⟨_, z, _⟩ | ⟨_, z⟩
  · cases z
  · exact z
end
section
variable {P : Program} {w : World} {K : PySem.W.Frag} {mg : Str → Option Value} {base : Heap}
theorem fn_ok {x qual : Str} {params : Arguments} {body : List Stmt} {scope : Scope} {dvs : List V} {kws : List (Str × V)} {f : Addr} {fd : FuncData} {N ps : List Str} {k n nn : Nat} {mb : S} (D : FunD K x qual params body scope dvs kws f fd) (S : FnScope N ps scope)
    (h1 : ps.length = n) (h2 : N.length = nn)
    (hb : ∀ (cdv : Value) (A : Around) (outer : List Env) (s : Shared) (H : Hp) (E : XK), Good (cxOf (L2N.CX P w) P w K mg base N qual scope f cdv A outer s H E) k (fun c d _ H => E c d H) →
      SB (cxOf (L2N.CX P w) P w K mg base N qual scope f cdv A outer s H E) (fun c d _ H => E c d H) n body mb) : FnG P w K mg base (k + 1) f fd ps (spG K n (fnDen n nn mb)) := by
  refine fnG_of D S (fun vs H Q E h => h.1.trans h1.symm) fun cdv A outer s H vs Q E hr hG h => ?_
  have G : Good (cxOf (L2N.CX P w) P w K mg base N qual scope f cdv A outer s H E) k (fun c d _ H => E c d H) :=
    ⟨S.nd, rfl, hr, guards_deeper hG, L2N.takes_of rfl rfl rfl rfl, passes_of (K := fun e s'' => L2N.CX P w outer H s E e s'') rfl⟩
  refine ⟨_, hb cdv A outer s H E G, ?_⟩
  obtain ⟨hl, np, F, e, R, h⟩ := h
  have el : e.length = n := by rw [R.len, List.length_map, hl]
  have sl : (vs.map some).length = n := by rw [List.length_map, hl]
  have R0 := rel_app (m := nn - n) (k := N.length - vs.length) R (by rw [h2, hl])
  refine ⟨F, e ++ List.replicate (nn - n) Slot.un, (show Rel K F H (e ++ List.replicate (nn - n) Slot.un) (start N vs) from R0), ?_⟩
  unfold At fnDen at h
  rw [if_pos el] at h
  unfold AtS
  show match mb (e ++ List.replicate (nn - n) Slot.un) with
    | .ok .nx e' => _
    | .ok .bk e' => _
    | .ok .ct e' => _
    | .ok (.rt r) e' => _
    | .rs x e' => _
    | .bad => _
  cases z : mb (e ++ List.replicate (nn - n) Slot.un) with
  | bad => simp only [z] at h
  | rs y e' =>
    simp only [z] at h
    intro F' H' σ' cls d C X
    exact h F' H' cls d (out_cur el sl C (fun _ _ q => q) rfl) X
  | ok o e' =>
    cases o with
    | bk => simp only [z] at h
    | ct => simp only [z] at h
    | nx =>
      simp only [z] at h
      intro F' H' σ' C
      exact h F' H' .non (out_cur el sl C (fun _ _ q => q) rfl) VR.non
    | rt r =>
      simp only [z] at h
      intro F' H' σ' u C q
      cases r with
      | dat v => exact h F' H' u (out_cur el sl C (fun _ _ q => q) rfl) q
      | tmp v =>
        obtain ⟨t, rfl, q2, q3, q4, q5⟩ := q
        have C2 := out_cur (np := np) el sl C (fun _ _ q => q) rfl
        refine h F' H' (.ref t) C2 ⟨t, rfl, q2, q3, fun ⟨i, v', a1, a2⟩ => q4 ?_, ?_⟩
        · rcases outE_get a1 with z | ⟨w', z, a3⟩
          · cases z
          · cases z
            have hi : i < n := by
              have := (List.getElem?_eq_some_iff.mp a3).1
              rw [List.length_take] at this
              omega
            rw [List.getElem?_take_of_lt hi] at a3
            obtain ⟨h4, _⟩ := C.par i v' hi a3
            have h4' : σ'[i]? = (start N vs)[i]? := h4
            refine ⟨i, v', a3, ?_⟩
            rw [h4']
            unfold L2.start
            rw [List.getElem?_append_left (by omega)]
            exact a2
        · rcases q5 with q5 | q5
          · exact .inl ((own_app (by omega) t).mp q5)
          · exact .inr q5
      | bor i =>
        unfold retV at h
        dsimp only at h
        cases z2 : e'[i]? with
        | none => simp only [z2] at h
        | some sl' =>
          cases sl' with
          | un => simp only [z2] at h
          | dat v =>
            simp only [z2] at h
            obtain ⟨y, a1, a2⟩ := C.rel.slot i _ _ z2 q
            cases a1
            exact h F' H' u (out_cur el sl C (fun _ _ q => q) rfl) a2
          | own v =>
            simp only [z2] at h
            obtain ⟨t, a1, a2, a3⟩ := C.rel.slot i _ _ z2 q
            cases a1
            have C2 := out_cur (np := np) (x := e'.set i .un) el sl C (fun _ _ q => take_own q) (List.length_set)
            refine h F' H' (.ref t) C2 ⟨t, rfl, a2, a3, fun ⟨j, v', b1, b2⟩ => ?_, ?_⟩
            · rcases outE_get b1 with z | ⟨w', z, b3⟩
              · cases z
              · cases z
                have hi : j < n := by
                  have := (List.getElem?_eq_some_iff.mp b3).1
                  rw [List.length_take] at this
                  omega
                rw [List.getElem?_take_of_lt hi] at b3
                rcases getset b3 with ⟨_, z, _⟩ | ⟨ne, b3⟩
                · cases z
                · obtain ⟨h4, _⟩ := C.par j v' hi b3
                  have h4' : σ'[j]? = (start N vs)[j]? := h4
                  have b4 : σ'[j]? = some (some (V.ref t)) := by
                    rw [h4']
                    unfold L2.start
                    rw [List.getElem?_append_left (by omega)]
                    exact b2
                  exact ne (C.rel.inj i j v v' t z2 b3 q b4)
            · rcases C.own t ⟨i, v, z2, q⟩ with q5 | q5
              · exact .inl ((own_app (by omega) t).mp q5)
              · exact .inr q5
end
end Pu
set_option Elab.async false
set_option linter.all false
set_option maxRecDepth 100000
namespace Pu
open PySem PySem.Spec PyProof.Rows L2
section
variable {K : PySem.W.Frag} {W : WX} {B : Bg} {H : Hp} {σ : Sig}
def Src (e : Ev) (σ : Sig) (rs : List RV) (us : List V) (a : Addr) : Prop := Own e σ a ∨ ∃ (j : Nat) (w : Val), rs[j]? = some (.tmp w) ∧ us[j]? = some (.ref a)
theorem dt_more {F : Hp} {e e' : Ev} {r : RV} {u : V} {v : Val} (C : Cur K B F H e σ) (h : RR K B F H e σ r u) (q : M.dt r e = .ok v e') :
    ∃ F', Cur K B F' H e' σ ∧ Same F F' ∧ VR K F' v u ∧ (∀ r' u', RR K B F H e σ r' u' → (∀ v w, r = .tmp v → r' = .tmp w → u' ≠ u) → RR K B F' H e' σ r' u') ∧
      (∀ a, Own e' σ a → Own e σ a) ∧ ∀ a, F' a ≠ none → F a ≠ none ∨ Own e σ a ∨ ∃ w, r = .tmp w ∧ u = .ref a := by
  cases r with
  | dat w =>
    obtain ⟨F', a, b, c, d⟩ := dt_go C h q
    cases q
    exact ⟨F, C, Same.refl _, h, fun _ _ z _ => z, fun _ z => z, fun _ z => .inl z⟩
  | tmp w =>
    cases q
    obtain ⟨t, h1, h2, h3, h4, h5⟩ := h
    subst h1
    refine ⟨frz F H t, C.frz h2 h4 h5 h3.nt, frz_sub h2, h3.vr (frz_sub h2) frz_same, fun r' u' z d => ?_, fun _ z => z, fun a z => ?_⟩
    · cases r' with
      | dat v => exact VR.mono (frz_sub h2) z
      | bor i => exact z
      | tmp w' =>
        obtain ⟨t', a1, a2, a3, a4, a5⟩ := z
        have ne : t' ≠ t := fun z => d v w' rfl rfl (by rw [a1, z])
        exact ⟨t', a1, by rw [frz_ne ne]; exact a2, a3.mono (frz_sub h2) rfl, a4, a5⟩
    · by_cases ha : a = t
      · exact .inr (.inr ⟨v, rfl, by rw [ha]⟩)
      · rw [frz_ne ha] at z; exact .inl z
  | bor i =>
    have h' : σ[i]? = some (some u) := h
    have q0 := q
    unfold M.dt at q
    cases z : e[i]? with
    | none => simp only [z] at q; cases q
    | some s =>
      cases s with
      | un => simp only [z] at q; cases q
      | dat w =>
        obtain ⟨F', a, b, c, d⟩ := dt_go C h q0
        simp only [z] at q
        cases q
        refine ⟨F, C, Same.refl _, ?_, fun _ _ z _ => z, fun _ z => z, fun _ z => .inl z⟩
        obtain ⟨x, h1, h2⟩ := C.rel.slot i _ _ z h'
        rw [Option.some.inj h1]; exact h2
      | own w =>
        simp only [z] at q
        cases q
        obtain ⟨t, h1, h2, h3⟩ := C.rel.slot i _ _ z h'
        have eu : u = .ref t := Option.some.inj h1
        subst eu
        have no : ∀ {a}, Own (e.set i .un) σ a → a ≠ t := fun {a} ⟨j, w, b1, b2⟩ z2 => by
          rcases getset b1 with ⟨_, z3, _⟩ | ⟨z3, b1⟩
          · cases z3
          · rw [z2] at b2
            exact z3 (C.rel.inj i j v w t z b1 h' b2)
        have ot : Own e σ t := ⟨i, v, z, h'⟩
        have C2 := (C.forget (i := i)).frz h2 (fun z2 => no z2 rfl) (C.own t ot) h3.nt
        have C3 : Cur K B (Pu.frz F H t) H ((e.set i .un).set i (.dat v)) σ := C2.slot (fun _ z => nomatch z) fun o ho => by
          rw [h'] at ho; cases ho
          exact ⟨_, rfl, h3.vr (frz_sub h2) frz_same⟩
        rw [List.set_set] at C3
        refine ⟨_, C3, frz_sub h2, h3.vr (frz_sub h2) frz_same, fun r' u' zz d => ?_, fun a z => z.unset1 Slot.dat_ne, fun a z2 => ?_⟩
        · cases r' with
          | dat v => exact VR.mono (frz_sub h2) zz
          | bor i => exact zz
          | tmp w =>
            obtain ⟨t', a1, a2, a3, a4, a5⟩ := zz
            have ne : t' ≠ t := fun z3 => a4 (by rw [z3]; exact ot)
            exact ⟨t', a1, by rw [frz_ne ne]; exact a2, a3.mono (frz_sub h2) rfl, fun z4 => a4 (z4.unset1 Slot.dat_ne), a5⟩
        · by_cases ha : a = t
          · exact .inr (.inl (by rw [ha]; exact ot))
          · rw [frz_ne ha] at z2; exact .inl z2
theorem args_ok : ∀ {ms : List Bool} {rs : List RV} {us : List V} {pe e1 e : Ev} {F : Hp}, Cur K B F H e σ → RRs K B F H e σ rs us → argsE ms rs e = some (pe, e1) →
    ∃ F1, Cur K B F1 H e1 σ ∧ Same F F1 ∧ Rel K F1 H pe (us.map some) ∧ (∀ a, Own e1 σ a → Own e σ a) ∧ (∀ a, Own pe (us.map some) a → B.mine a ∧ ¬ Own e1 σ a ∧ Src e σ rs us a) ∧
      (∀ a, F1 a ≠ none → F a ≠ none ∨ Src e σ rs us a) ∧
      (∀ (j i : Nat), ms[j]? = some true → rs[j]? = some (.bor i) → i < B.np → σ[i]? = B.sg[i]? ∧ ∃ w, B.ev[i]? = some (.own w))
  | [], [], us, pe, e1, e, F, C, r, h => by
    cases r
    cases h
    refine ⟨F, C, Same.refl _, ⟨C.rel.sub, rfl, fun i s o h => by simp at h, fun i j v w a h => by simp at h, C.rel.tb, C.rel.nt⟩, fun _ z => z, fun a ⟨i, v, h, _⟩ => by simp at h, fun _ z => .inl z, fun j i h => by simp at h⟩
  | false :: ms, r :: rs, us, pe, e1, e, F, C, q, h => by
    cases q with
    | cons q1 d t =>
      rename_i u us
      unfold argsE at h
      cases z : M.dt r e with
      | bad => simp only [z] at h; cases h
      | rs x e' => exact (dt_some _ _ z).elim
      | ok v e' =>
        simp only [z] at h
        obtain ⟨F2, C2, s2, r2, keep, om, fm⟩ := dt_more C q1 z
        cases z2 : argsE ms rs e' with
        | none => simp only [z2] at h; cases h
        | some pr =>
          obtain ⟨p, e2⟩ := pr
          simp only [z2] at h
          cases h
          obtain ⟨F3, C3, s3, R3, o3, m3, f3, p3⟩ := args_ok C2 (RRs.tail_keep keep t d) z2
          have up : ∀ {a}, Src e' σ rs us a → Src e σ (r :: rs) (u :: us) a := fun {a} y => by
            rcases y with y | ⟨j, w, y1, y2⟩
            · exact .inl (om a y)
            · exact .inr ⟨j + 1, w, by simpa using y1, by simpa using y2⟩
          refine ⟨F3, C3, s2.trans s3, ⟨R3.sub, by simp [R3.len], fun i s o h1 h2 => ?_, fun i j v' w a h1 h2 h3 h4 => ?_, R3.tb, R3.nt⟩, fun a y => om a (o3 a y), fun a ⟨i, v', h1, h2⟩ => ?_, fun a y => ?_, fun j i y1 y2 => ?_⟩
          · cases i with
            | zero =>
              simp only [List.getElem?_cons_zero, Option.some.injEq, List.map_cons] at h1 h2
              subst h1 h2
              exact ⟨u, rfl, r2.mono s3⟩
            | succ i => exact R3.slot i s o (by simpa using h1) (by simpa using h2)
          · cases i with
            | zero => simp at h1
            | succ i => cases j with
              | zero => simp at h2
              | succ j => rw [R3.inj i j v' w a (by simpa using h1) (by simpa using h2) (by simpa using h3) (by simpa using h4)]
          · cases i with
            | zero => simp at h1
            | succ i =>
              obtain ⟨y1, y2, y3⟩ := m3 a ⟨i, v', by simpa using h1, by simpa using h2⟩
              exact ⟨y1, y2, up y3⟩
          · rcases f3 a y with y | y
            · rcases fm a y with y | y | ⟨w, y1, y2⟩
              · exact .inl y
              · exact .inr (.inl y)
              · exact .inr (.inr ⟨0, w, by rw [y1]; rfl, by rw [y2]; rfl⟩)
            · exact .inr (up y)
          · cases j with
            | zero => simp at y1
            | succ j => exact p3 j i (by simpa using y1) (by simpa using y2)
  | true :: ms, .dat v :: rs, us, pe, e1, e, F, C, q, h => by
    cases q with
    | cons q1 d t =>
      rename_i u us
      unfold argsE at h
      cases z2 : argsE ms rs e with
      | none => simp only [z2] at h; cases h
      | some pr =>
        obtain ⟨p, e2⟩ := pr
        simp only [z2] at h
        cases h
        obtain ⟨F3, C3, s3, R3, o3, m3, f3, p3⟩ := args_ok C t z2
        have up : ∀ {a}, Src e σ rs us a → Src e σ (.dat v :: rs) (u :: us) a := fun {a} y => by
          rcases y with y | ⟨j, w, y1, y2⟩
          · exact .inl y
          · exact .inr ⟨j + 1, w, by simpa using y1, by simpa using y2⟩
        refine ⟨F3, C3, s3, ⟨R3.sub, by simp [R3.len], fun i s o h1 h2 => ?_, fun i j v' w a h1 h2 h3 h4 => ?_, R3.tb, R3.nt⟩, o3, fun a ⟨i, v', h1, h2⟩ => ?_, fun a y => ?_, fun j i y1 y2 => ?_⟩
        · cases i with
          | zero =>
            simp only [List.getElem?_cons_zero, Option.some.injEq, List.map_cons] at h1 h2
            subst h1 h2
            exact ⟨u, rfl, VR.mono s3 q1⟩
          | succ i => exact R3.slot i s o (by simpa using h1) (by simpa using h2)
        · cases i with
          | zero => simp at h1
          | succ i => cases j with
            | zero => simp at h2
            | succ j => rw [R3.inj i j v' w a (by simpa using h1) (by simpa using h2) (by simpa using h3) (by simpa using h4)]
        · cases i with
          | zero => simp at h1
          | succ i =>
            obtain ⟨y1, y2, y3⟩ := m3 a ⟨i, v', by simpa using h1, by simpa using h2⟩
            exact ⟨y1, y2, up y3⟩
        · rcases f3 a y with y | y
          · exact .inl y
          · exact .inr (up y)
        · cases j with
          | zero => simp at y2
          | succ j => exact p3 j i (by simpa using y1) (by simpa using y2)
  | true :: ms, .tmp v :: rs, us, pe, e1, e, F, C, q, h => by
    cases q with
    | cons q1 d t =>
      rename_i u us
      unfold argsE at h
      cases z2 : argsE ms rs e with
      | none => simp only [z2] at h; cases h
      | some pr =>
        obtain ⟨p, e2⟩ := pr
        simp only [z2] at h
        cases h
        obtain ⟨F3, C3, s3, R3, o3, m3, f3, p3⟩ := args_ok C t z2
        obtain ⟨a0, x1, x2, x3, x4, x5⟩ := q1
        subst x1
        have ns : ¬ Src e σ rs us a0 := fun y => by
          rcases y with y | ⟨j, w, y1, y2⟩
          · exact x4 y
          · exact d v rfl j w y1 y2
        have fa : F3 a0 = none := by
          cases y : F3 a0 with
          | none => rfl
          | some o =>
            rcases f3 a0 (by rw [y]; simp) with y | y
            · exact absurd x2 y
            · exact absurd y ns
        have up : ∀ {a}, Src e σ rs us a → Src e σ (.tmp v :: rs) (.ref a0 :: us) a := fun {a} y => by
          rcases y with y | ⟨j, w, y1, y2⟩
          · exact .inl y
          · exact .inr ⟨j + 1, w, by simpa using y1, by simpa using y2⟩
        have other : ∀ {i : Nat} {w : Val}, p[i]? = some (.own w) → (us.map some)[i]? = some (some (.ref a0)) → False := fun {i w} y1 y2 => ns (m3 a0 ⟨i, w, y1, y2⟩).2.2
        refine ⟨F3, C3, s3, ⟨R3.sub, by simp [R3.len], fun i s o h1 h2 => ?_, fun i j v' w a h1 h2 h3 h4 => ?_, R3.tb, R3.nt⟩, o3, fun a ⟨i, v', h1, h2⟩ => ?_, fun a y => ?_, fun j i y1 y2 => ?_⟩
        · cases i with
          | zero =>
            simp only [List.getElem?_cons_zero, Option.some.injEq, List.map_cons] at h1 h2
            subst h1 h2
            exact ⟨a0, rfl, fa, x3.mono s3 rfl⟩
          | succ i => exact R3.slot i s o (by simpa using h1) (by simpa using h2)
        · cases i with
          | zero => cases j with
            | zero => rfl
            | succ j =>
              have e0 : V.ref a0 = V.ref a := by simpa using h3
              cases e0
              exact (other (by simpa using h2) (by simpa using h4)).elim
          | succ i => cases j with
            | zero =>
              have e0 : V.ref a0 = V.ref a := by simpa using h4
              cases e0
              exact (other (by simpa using h1) (by simpa using h3)).elim
            | succ j => rw [R3.inj i j v' w a (by simpa using h1) (by simpa using h2) (by simpa using h3) (by simpa using h4)]
        · cases i with
          | zero =>
            have e0 : V.ref a0 = V.ref a := by simpa using h2
            cases e0
            exact ⟨x5, fun y => x4 (o3 _ y), .inr ⟨0, v, rfl, rfl⟩⟩
          | succ i =>
            obtain ⟨y1, y2, y3⟩ := m3 a ⟨i, v', by simpa using h1, by simpa using h2⟩
            exact ⟨y1, y2, up y3⟩
        · rcases f3 a y with y | y
          · exact .inl y
          · exact .inr (up y)
        · cases j with
          | zero => simp at y2
          | succ j => exact p3 j i (by simpa using y1) (by simpa using y2)
  | true :: ms, .bor i0 :: rs, us, pe, e1, e, F, C, q, h => by
    cases q with
    | cons q1 d t =>
      rename_i u us
      unfold argsE at h
      have q1' : σ[i0]? = some (some u) := q1
      cases z : e[i0]? with
      | none => simp only [z] at h; cases h
      | some sl => cases sl with
        | un => simp only [z] at h; cases h
        | dat w => simp only [z] at h; cases h
        | own v =>
          simp only [z] at h
          cases z2 : argsE ms rs (e.set i0 .un) with
          | none => simp only [z2] at h; cases h
          | some pr =>
            obtain ⟨p, e2⟩ := pr
            simp only [z2] at h
            cases h
            obtain ⟨a0, x1, x2, x3⟩ := C.rel.slot i0 _ _ z q1'
            have eu : u = .ref a0 := Option.some.inj x1
            subst eu
            have oa : Own e σ a0 := ⟨i0, v, z, q1'⟩
            have no : ¬ Own (e.set i0 .un) σ a0 := fun ⟨j, w, b1, b2⟩ => by
              rcases getset b1 with ⟨_, z3, _⟩ | ⟨z3, b1⟩
              · cases z3
              · exact z3 (C.rel.inj i0 j v w a0 z b1 q1' b2)
            have t1 : RRs K B F H (e.set i0 .un) σ rs us := by
              refine RRs.tail_keep (r := .bor i0) (u := .ref a0) (fun r' u' y _ => ?_) t fun v y => nomatch y
              cases r' with
              | dat v => exact y
              | bor i => exact y
              | tmp w =>
                obtain ⟨t', a1, a2, a3, a4, a5⟩ := y
                exact ⟨t', a1, a2, a3, fun y2 => a4 (y2.unset1 Slot.un_ne), a5⟩
            obtain ⟨F3, C3, s3, R3, o3, m3, f3, p3⟩ := args_ok (C.forget (i := i0)) t1 z2
            have ns : ¬ Src (e.set i0 .un) σ rs us a0 := fun y => by
              rcases y with y | ⟨j, w, y1, y2⟩
              · exact no y
              · obtain ⟨t', a1, a2, a3, a4, a5⟩ := t.mem_tmp y1 y2
                cases a1
                exact a4 oa
            have fa : F3 a0 = none := by
              cases y : F3 a0 with
              | none => rfl
              | some o =>
                rcases f3 a0 (by rw [y]; simp) with y | y
                · exact absurd x2 y
                · exact absurd y ns
            have up : ∀ {a}, Src (e.set i0 .un) σ rs us a → Src e σ (.bor i0 :: rs) (.ref a0 :: us) a := fun {a} y => by
              rcases y with y | ⟨j, w, y1, y2⟩
              · exact .inl (y.unset1 Slot.un_ne)
              · exact .inr ⟨j + 1, w, by simpa using y1, by simpa using y2⟩
            have other : ∀ {i : Nat} {w : Val}, p[i]? = some (.own w) → (us.map some)[i]? = some (some (.ref a0)) → False := fun {i w} y1 y2 => ns (m3 a0 ⟨i, w, y1, y2⟩).2.2
            refine ⟨F3, C3, s3, ⟨R3.sub, by simp [R3.len], fun i s o h1 h2 => ?_, fun i j v' w a h1 h2 h3 h4 => ?_, R3.tb, R3.nt⟩, fun a y => (o3 a y).unset1 Slot.un_ne, fun a ⟨i, v', h1, h2⟩ => ?_, fun a y => ?_, fun j i y1 y2 y3 => ?_⟩
            · cases i with
              | zero =>
                simp only [List.getElem?_cons_zero, Option.some.injEq, List.map_cons] at h1 h2
                subst h1 h2
                exact ⟨a0, rfl, fa, x3.mono s3 rfl⟩
              | succ i => exact R3.slot i s o (by simpa using h1) (by simpa using h2)
            · cases i with
              | zero => cases j with
                | zero => rfl
                | succ j =>
                  have e0 : V.ref a0 = V.ref a := by simpa using h3
                  cases e0
                  exact (other (by simpa using h2) (by simpa using h4)).elim
              | succ i => cases j with
                | zero =>
                  have e0 : V.ref a0 = V.ref a := by simpa using h4
                  cases e0
                  exact (other (by simpa using h1) (by simpa using h3)).elim
                | succ j => rw [R3.inj i j v' w a (by simpa using h1) (by simpa using h2) (by simpa using h3) (by simpa using h4)]
            · cases i with
              | zero =>
                have e0 : V.ref a0 = V.ref a := by simpa using h2
                cases e0
                exact ⟨C.own _ oa, fun y => no (o3 _ y), .inl oa⟩
              | succ i =>
                obtain ⟨y1, y2, y3⟩ := m3 a ⟨i, v', by simpa using h1, by simpa using h2⟩
                exact ⟨y1, y2, up y3⟩
            · rcases f3 a y with y | y
              · exact .inl y
              · exact .inr (up y)
            · cases j with
              | zero =>
                have e0 : i0 = i := by simpa using y2
                subst e0
                exact C.par i0 v y3 z
              | succ j => exact p3 j i (by simpa using y1) (by simpa using y2) y3
theorem call_mid {F1 F' H' : Hp} {e1 pe p' : Ev} {σp : Sig} {np : Nat} (C1 : Cur K B F1 H e1 σ) (m : ∀ a, Own pe σp a → B.mine a ∧ ¬ Own e1 σ a) (C : Cur K (bg np F1 H pe σp) F' H' p' σp) : Cur K B F' H' e1 σ := by
  refine ⟨⟨C1.post.sub.trans C.post.sub, fun a o h1 h2 h5 => C.post.fr a o (C1.post.fr a o h1 h2 h5) (fun z => ?_) h5, fun a h => ?_, fun a h => C1.post.kp a (C.post.kp a h)⟩, ⟨C.rel.sub, C1.rel.len, fun i s o h1 h2 => ?_, C1.rel.inj, C.rel.tb, C.rel.nt⟩, C1.own, C1.ln, C1.par⟩
  · rcases (m a z).1 with y | y
    · exact h2 y
    · rw [y] at h1; cases h1
  · rcases C.post.nw a h with z | z
    · exact C1.post.nw a z
    · rcases z with z | z
      · exact .inr (m a z).1
      · exact .inr (.inr (C1.post.kp a z))
  · have q := C1.rel.slot i s o h1 h2
    cases s with
    | un => trivial
    | dat v =>
      obtain ⟨u, z1, z2⟩ := q
      exact ⟨u, z1, z2.mono C.post.sub⟩
    | own v =>
      obtain ⟨a, z1, z2, z3⟩ := q
      subst z1
      have oa : Own e1 σ a := ⟨i, v, h1, h2⟩
      obtain ⟨o, ho, hpl⟩ := z3.someP
      have no : ¬ Own pe σp a := fun y => (m a y).2 oa
      refine ⟨a, rfl, ?_, z3.mono C.post.sub ((C.post.fr a o ho no (plainO_tbl hpl)).trans ho.symm)⟩
      cases y : F' a with
      | none => rfl
      | some x =>
        rcases C.post.nw a (by rw [y]; simp) with y | y
        · exact absurd z2 y
        · rcases y with y | y
          · exact absurd y no
          · have y' : H a = none := y
            rw [ho] at y'; cases y'
theorem Cur.again {F : Hp} {e : Ev} {i : Nat} {v : Val} {t : Addr} (C : Cur K B F H e σ) (hi : σ[i]? = some (some (.ref t))) (h1 : F t = none) (h2 : CellR K F H v t) (h3 : ¬ Own e σ t) (h4 : B.mine t) (hp : i < B.np → σ[i]? = B.sg[i]? ∧ ∃ w, B.ev[i]? = some (.own w)) : Cur K B F H (e.set i (.own v)) σ := by
  have other : ∀ {j : Nat} {w : Val} {a : Addr}, (e.set i (.own v))[j]? = some (.own w) → σ[j]? = some (some (.ref a)) → (i = j ∧ a = t) ∨ (i ≠ j ∧ e[j]? = some (.own w) ∧ σ[j]? = some (some (.ref a))) := fun {j w a} a1 a2 => by
    rcases getset a1 with ⟨z, _, _⟩ | ⟨z, a1⟩
    · subst z
      rw [hi] at a2
      cases a2
      exact .inl ⟨rfl, rfl⟩
    · exact .inr ⟨z, a1, a2⟩
  refine ⟨C.post, ⟨C.rel.sub, by rw [List.length_set]; exact C.rel.len, fun j q o a1 a2 => ?_, fun j k v' w a a1 a2 a3 a4 => ?_, C.rel.tb, C.rel.nt⟩, fun a q => ?_, by rw [List.length_set]; exact C.ln, fun j v' hj h => ?_⟩
  · rcases getset a1 with ⟨z, z2, _⟩ | ⟨z, a1⟩
    · subst z z2
      rw [hi] at a2
      cases a2
      exact ⟨t, rfl, h1, h2⟩
    · exact C.rel.slot j q o a1 a2
  · rcases other a1 a3 with ⟨z1, z2⟩ | ⟨z1, b1, b2⟩
    · rcases other a2 a4 with ⟨z3, _⟩ | ⟨_, c1, c2⟩
      · exact z1.symm.trans z3
      · exact absurd ⟨k, w, c1, z2 ▸ c2⟩ h3
    · rcases other a2 a4 with ⟨_, z4⟩ | ⟨_, c1, c2⟩
      · exact absurd ⟨j, v', b1, z4 ▸ b2⟩ h3
      · exact C.rel.inj j k v' w a b1 c1 b2 c2
  · obtain ⟨j, w, a1, a2⟩ := q
    rcases other a1 a2 with ⟨_, z2⟩ | ⟨_, b1, b2⟩
    · rw [z2]; exact h4
    · exact C.own a ⟨j, w, b1, b2⟩
  · rcases getset h with ⟨z, _, _⟩ | ⟨z, h⟩
    · subst z; exact hp hj
    · exact C.par j v' hj h
def OwnB (p : Ev) (rs : List RV) (us : List V) (a : Addr) : Prop := ∃ (k : Nat) (v : Val) (i : Nat), p[k]? = some (.own v) ∧ us[k]? = some (.ref a) ∧ rs[k]? = some (.bor i)
theorem back_ok {F F0 H0 : Hp} {e0 : Ev} : ∀ {ms : List Bool} {rs : List RV} {us : List V} {p e : Ev}, Cur K B F H e σ → RRs K B F0 H0 e0 σ rs us →
    (∀ (j : Nat) (v : Val), p[j]? = some (.own v) → ∃ a, us[j]? = some (.ref a) ∧ F a = none ∧ CellR K F H v a ∧ B.mine a ∧ ¬ Own e σ a) →
    (∀ (i j : Nat) (v w : Val) (a : Addr), p[i]? = some (.own v) → p[j]? = some (.own w) → us[i]? = some (.ref a) → us[j]? = some (.ref a) → i = j) →
    (∀ (j i : Nat), ms[j]? = some true → rs[j]? = some (.bor i) → i < B.np → σ[i]? = B.sg[i]? ∧ ∃ w, B.ev[i]? = some (.own w)) →
    Cur K B F H (backE ms rs p e) σ ∧ ∀ a, Own (backE ms rs p e) σ a → Own e σ a ∨ OwnB p rs us a
  | [], _, _, _, _, C, _, _, _, _ => ⟨C, fun _ z => .inl z⟩
  | m :: ms, [], _, _, _, C, _, _, _, _ => by
    unfold backE
    cases m <;> exact ⟨C, fun _ z => .inl z⟩
  | m :: ms, r :: rs, us, [], e, C, _, _, _, _ => by
    have : backE (m :: ms) (r :: rs) [] e = e := by unfold backE; cases m <;> cases r <;> rfl
    rw [this]; exact ⟨C, fun _ z => .inl z⟩
  | m :: ms, r :: rs, us, s :: p, e, C, q, hp, hj, hb => by
    cases q with
    | cons q1 d t =>
      rename_i u us
      have plain : backE (m :: ms) (r :: rs) (s :: p) e = backE ms rs p e → Cur K B F H (backE (m :: ms) (r :: rs) (s :: p) e) σ ∧ ∀ a, Own (backE (m :: ms) (r :: rs) (s :: p) e) σ a → Own e σ a ∨ OwnB (s :: p) (r :: rs) (u :: us) a := fun z => by
        rw [z]
        obtain ⟨A1, A2⟩ := back_ok (us := us) (p := p) C t (fun j v h => by
          obtain ⟨a, z⟩ := hp (j + 1) v (by simpa using h)
          exact ⟨a, by simpa using z⟩) (fun i j v w a h1 h2 h3 h4 => by
          have := hj (i + 1) (j + 1) v w a (by simpa using h1) (by simpa using h2) (by simpa using h3) (by simpa using h4)
          omega) (fun j i h1 h2 => hb (j + 1) i (by simpa using h1) (by simpa using h2))
        refine ⟨A1, fun a y => ?_⟩
        rcases A2 a y with y | ⟨i, v, b, y1, y2, y3⟩
        · exact .inl y
        · exact .inr ⟨i + 1, v, b, by simpa using y1, by simpa using y2, by simpa using y3⟩
      cases m with
      | false => exact plain (by cases r <;> rfl)
      | true => cases r with
        | dat v => exact plain rfl
        | tmp v => exact plain rfl
        | bor i0 => cases s with
          | un => exact plain rfl
          | dat v => exact plain rfl
          | own v =>
            have q1' : σ[i0]? = some (some u) := q1
            obtain ⟨a0, x1, x2, x3, x4, x5⟩ := hp 0 v rfl
            have eu : u = .ref a0 := by simpa using x1
            subst eu
            have C' := C.again (i := i0) q1' x2 x3 x5 x4 (hb 0 i0 rfl rfl)
            have oe : ∀ {a}, Own (e.set i0 (.own v)) σ a → Own e σ a ∨ a = a0 := fun {a} ⟨j, w, y1, y2⟩ => by
              rcases getset y1 with ⟨z, _, _⟩ | ⟨z, y1⟩
              · subst z
                rw [q1'] at y2
                cases y2
                exact .inr rfl
              · exact .inl ⟨j, w, y1, y2⟩
            obtain ⟨A1, A2⟩ := back_ok (ms := ms) (us := us) (p := p) C' t (fun j w h => by
              obtain ⟨a, z1, z2, z3, z4, z5⟩ := hp (j + 1) w (by simpa using h)
              have z1' : us[j]? = some (.ref a) := by simpa using z1
              refine ⟨a, z1', z2, z3, z4, fun y => ?_⟩
              rcases oe y with y | y
              · exact z5 y
              · subst y
                have := hj 0 (j + 1) v w a rfl (by simpa using h) rfl (by simpa using z1)
                omega) (fun i j v w a h1 h2 h3 h4 => by
              have := hj (i + 1) (j + 1) v w a (by simpa using h1) (by simpa using h2) (by simpa using h3) (by simpa using h4)
              omega) (fun j i h1 h2 => hb (j + 1) i (by simpa using h1) (by simpa using h2))
            refine ⟨A1, fun a y => ?_⟩
            rcases A2 a y with y | ⟨i, w, b, y1, y2, y3⟩
            · rcases oe y with y | y
              · exact .inl y
              · exact .inr ⟨0, v, i0, rfl, by rw [y]; rfl, rfl⟩
            · exact .inr ⟨i + 1, w, b, by simpa using y1, by simpa using y2, by simpa using y3⟩
end
section
variable {K : PySem.W.Frag} {W : WX} {B : Bg} {H : Hp} {σ : Sig} {F : Hp} {e : Ev}
theorem argsE_len : ∀ {ms : List Bool} {rs : List RV} {e p e1 : Ev}, argsE ms rs e = some (p, e1) → ms.length = p.length := fun {ms} => by
  induction ms with
  | nil => intro rs e p e1 z; cases rs <;> simp [argsE] at z; rw [z.1]; rfl
  | cons m ms ih =>
    intro rs e p e1 z
    cases rs with
    | nil => cases m <;> simp [argsE] at z
    | cons r rs =>
      cases m with
      | false =>
        unfold argsE at z
        split at z
        · split at z
          · rename_i a b c
            cases z
            simp [ih c]
          · cases z
        · cases z
      | true => cases r with
        | dat v =>
          unfold argsE at z
          split at z
          · rename_i a b c
            cases z
            simp [ih c]
          · cases z
        | tmp v =>
          unfold argsE at z
          split at z
          · rename_i a b c
            cases z
            simp [ih c]
          · cases z
        | bor i =>
          unfold argsE at z
          split at z
          · split at z
            · rename_i a b c
              cases z
              simp [ih c]
            · cases z
          · cases z
theorem call_core {ms : List Bool} {rs : List RV} {us : List V} {pe e1 : Ev} (C : Cur K B F H e σ) (q : RRs K B F H e σ rs us) (za : argsE ms rs e = some (pe, e1)) :
    us.length = ms.length ∧ ∃ F1, Rel K F1 H pe (us.map some) ∧ ∀ F' H' p', Cur K (bg pe.length F1 H pe (us.map some)) F' H' p' (us.map some) → Cur K B F' H' (backE ms rs p' e1) σ ∧
      (∀ v u, RR K (bg pe.length F1 H pe (us.map some)) F' H' p' (us.map some) (.tmp v) u → RR K B F' H' (backE ms rs p' e1) σ (.tmp v) u) ∧
      (∀ (j : Nat) (v w : Val) (u : V), rs[j]? = some (.tmp w) → us[j]? = some u → p'[j]? = some (.own v) → RR K B F' H' (backE ms rs p' e1) σ (.tmp v) u) := by
  obtain ⟨F1, C1, s1, R1, o1, m1, f1, p1⟩ := args_ok C q za
  have lp : pe.length = us.length := by simpa using R1.len
  refine ⟨by rw [← lp, ← argsE_len za], F1, R1, fun F' H' p' C' => ?_⟩
  have up : ∀ {j : Nat} {o : V}, us[j]? = some o → (us.map some)[j]? = some (some o) := fun {j o} y => by simp [y]
  have at_ : ∀ (j : Nat) (v : Val), p'[j]? = some (.own v) → ∃ a, us[j]? = some (.ref a) ∧ F' a = none ∧ CellR K F' H' v a ∧ B.mine a ∧ ¬ Own e1 σ a := fun j v y => by
    have jl : j < us.length := by
      have := (List.getElem?_eq_some_iff.mp y).1
      have e1 : p'.length = pe.length := C'.ln
      omega
    have uj : us[j]? = some us[j] := List.getElem?_eq_getElem jl
    obtain ⟨a, a1, a2, a3⟩ := C'.rel.slot j _ _ y (up uj)
    have a1' : us[j]? = some (.ref a) := by rw [uj]; exact a1
    obtain ⟨_, w, b1⟩ := C'.par j v (by show j < pe.length; omega) y
    obtain ⟨c1, c2, _⟩ := m1 a ⟨j, w, b1, up a1'⟩
    exact ⟨a, a1', a2, a3, c1, c2⟩
  obtain ⟨D1, D2⟩ := back_ok (call_mid C1 (fun a y => ⟨(m1 a y).1, (m1 a y).2.1⟩) C') q at_ (fun i j v w a y1 y2 y3 y4 => C'.rel.inj i j v w a y1 y2 (up y3) (up y4)) p1
  refine ⟨D1, fun v u z => ?_, fun j v w u h1 h2 h3 => ?_⟩
  · obtain ⟨t, x1, x2, x3, x4, x5⟩ := z
    refine ⟨t, x1, x2, x3, fun y => ?_, ?_⟩
    · rcases D2 t y with y | ⟨k, v', i, y1, y2, y3⟩
      · rcases x5 with x5 | x5
        · exact (m1 t x5).2.1 y
        · obtain ⟨i, v', w1, w2⟩ := y
          obtain ⟨b, b1, b2, b3⟩ := C1.rel.slot i _ _ w1 w2
          cases b1
          obtain ⟨o, b4⟩ := b3.some
          have x5' : H t = none := x5
          rw [x5'] at b4; cases b4
      · exact x4 ⟨k, v', y1, up y2⟩
    · rcases x5 with x5 | x5
      · exact (m1 t x5).1
      · exact .inr (C1.post.kp t x5)
  · obtain ⟨a, a1, a2, a3, a4, a5⟩ := at_ j v h3
    rw [h2] at a1
    cases a1
    refine ⟨a, rfl, a2, a3, fun y => ?_, a4⟩
    rcases D2 a y with y | ⟨k, v', i, y1, y2, y3⟩
    · exact a5 y
    · have := C'.rel.inj j k v v' a h3 y1 (up h2) (up y2)
      subst this
      rw [h1] at y3
      cases y3
theorem call_ok {ms : List Bool} {f : M RV} {rs : List RV} {us : List V} {Q : VK} {n : Nat} (C : Cur K B F H e σ) (q : RRs K B F H e σ rs us) (h : At K W (RR K) B (runF ms f rs) F e σ H Q) (hn : ms.length = n) : spG K n f us H Q (WE W σ) := by
  unfold At runF at h
  cases za : argsE ms rs e with
  | none => simp only [za] at h
  | some pr =>
    obtain ⟨pe, e1⟩ := pr
    simp only [za] at h
    obtain ⟨len, F1, R1, mid⟩ := call_core C q za
    refine ⟨len.trans hn, pe.length, F1, pe, R1, ?_⟩
    unfold At
    cases zf : f pe with
    | bad => simp only [zf] at h
    | rs x p' =>
      simp only [zf] at h
      exact fun F' H' cls d C' X' => h F' H' cls d (mid F' H' p' C').1 X'
    | ok r p' =>
      cases r with
      | bor i => simp only [zf] at h
      | dat v =>
        simp only [zf] at h
        exact fun F' H' u C' r' => h F' H' u (mid F' H' p' C').1 r'
      | tmp v =>
        simp only [zf] at h
        exact fun F' H' u C' r' => h F' H' u (mid F' H' p' C').1 ((mid F' H' p' C').2.1 v u r')
end
end Pu
set_option Elab.async false
set_option linter.all false
set_option maxRecDepth 100000
namespace Pu
open PySem PySem.Spec PyProof.Rows L2
section
variable {K : PySem.W.Frag} {W : WX} {B : Bg} {F H : Hp} {σ : Sig} {e : Ev}
theorem RRs.dats {ds : List Val} {dvs : List V} (h : VRs K F ds dvs) : RRs K B F H e σ (ds.map .dat) dvs := by
  induction ds generalizing dvs with
  | nil => cases h; exact .nil
  | cons d ds ih => cases h with
    | cons a b => exact .cons a (fun v z => nomatch z) (ih b)
theorem RRs.app {rs : List RV} {us : List V} {ds : List Val} {dvs : List V} (h : RRs K B F H e σ rs us) (g : VRs K F ds dvs) : RRs K B F H e σ (rs ++ ds.map .dat) (us ++ dvs) := by
  induction h with
  | nil => exact RRs.dats g
  | cons r d t ih =>
    rename_i r' u' rs us
    refine .cons r (fun v z j w h1 h2 => ?_) ih
    replace h1 : (rs ++ ds.map RV.dat)[j]? = some (.tmp w) := h1
    replace h2 : (us ++ dvs)[j]? = some u' := h2
    have tl := t.length
    by_cases hj : j < rs.length
    · rw [List.getElem?_append_left hj] at h1
      rw [List.getElem?_append_left (by omega)] at h2
      exact d v z j w h1 h2
    · rw [List.getElem?_append_right (by omega), List.getElem?_map] at h1
      cases q : ds[j - rs.length]? with
      | none => rw [q] at h1; cases h1
      | some z => rw [q] at h1; cases h1
end
section
variable {X : Cx} {W : WX} {k n : Nat} {f C : Addr} {fd : FuncData} {ps : List Str} {x m : Str} {p pos apos : Pos} {e o : Expr} {es : List Expr} {mf mo : M RV} {mr : M (List RV)} {dvs : List V} {ds : List Value} {dl : List Val}
theorem se_call (ms : List Bool) (F : FnG X.prog X.w X.K X.mg X.base k f fd ps (spG X.K n mf)) (G : Good X k W) (gl : Gl X x) (at_ : X.mg x = some (.ref f)) (kp : PySem.W.keepIn X.K (.ref f) = true)
    (hb : Binds X.K fd ps ds) (hd : Vals dvs ds) (hc : VC X.K dl dvs) (ha : SA X W (e :: es) mr) (hn : ms.length = n := by rfl) (n1 : (x == ("__debug__" : Str)) = false := by decide)
    (n2 : starEach (e :: es) X.env = (false, eval e X.env) :: starEach es X.env := by rfl) (n3 : (backTo pos (starEach es X.env)).any (·.1) = false := by rfl) :
    SE X W (.Call (.Name x p) (e :: es) [] pos) (mCall ms mf mr dl) := by
  refine PE.imp (pg_call F G.room G.gd G.tk gl at_ kp hb hd ha n1 n2 n3) fun σ H Q h => ?_
  obtain ⟨np, F, e, R, h⟩ := h
  exact use (R1 := RRs X.K) (Cur.refl R) h fun rs e1 F1 H1 us C1 q1 _ h1 => call_ok C1 (q1.app (hc F1)) h1 hn
theorem se_call0 (ms : List Bool) (F : FnG X.prog X.w X.K X.mg X.base k f fd ps (spG X.K n mf)) (G : Good X k W) (gl : Gl X x) (at_ : X.mg x = some (.ref f)) (kp : PySem.W.keepIn X.K (.ref f) = true)
    (hb : Binds X.K fd ps ds) (hd : Vals dvs ds) (hc : VC X.K dl dvs) (hn : ms.length = n := by rfl) (n1 : (x == ("__debug__" : Str)) = false := by decide) : SE X W (.Call (.Name x p) [] [] pos) (mCall ms mf mNil dl) := by
  refine PE.imp (pg_call0 F G.room G.gd G.tk gl at_ kp hb hd n1) fun σ H Q h => ?_
  obtain ⟨np, F, e, R, h⟩ := h
  exact call_ok (Cur.refl R) (RRs.app .nil (hc F)) h hn
def mMeth (C m : Str) (ms : List Bool) (f : M RV) (o : M RV) (as : M (List RV)) (ds : List Val) : M RV := o.bind fun r => (M.rd r).bind fun v => match v with
  | .obj C' fs _ => if C' = C ∧ m ∉ fs then as.bind fun rs => runF ms f (r :: (rs ++ ds.map .dat)) else M.bad
  | _ => M.bad
theorem zip_no {fs : List Str} {us : List V} {m : Str} (h : m ∉ fs) : (fs.zip us).lookup m = none := by
  induction fs generalizing us with
  | nil => rfl
  | cons a fs ih => cases us with
    | nil => rfl
    | cons u us =>
      have ne : m ≠ a := fun z => h (by rw [z]; exact List.mem_cons_self ..)
      show (match m == a with | true => some u | false => (fs.zip us).lookup m) = none
      rw [beq_eq_false_iff_ne.mpr ne]
      exact ih fun z => h (List.mem_cons_of_mem _ z)
theorem RRs.front {K : PySem.W.Frag} {B : Bg} {F1 H1 F2 H2 : Hp} {e1 e2 : Ev} {σ : Sig} {r : RV} {u : V} {rs : List RV} {us : List V} (C1 : Cur K B F1 H1 e1 σ) (q1 : RR K B F1 H1 e1 σ r u) (c2 : Cur K (bg B.np F1 H1 e1 σ) F2 H2 e2 σ)
    (q2 : RRs K (bg B.np F1 H1 e1 σ) F2 H2 e2 σ rs us) : RRs K B F2 H2 e2 σ (r :: rs) (u :: us) := by
  refine .cons (q1.carry c2) (fun v e3 j w e4 e5 => ?_) (Carry.out C1 q2)
  subst e3
  obtain ⟨t, z1, z2, z3, z4, z5⟩ := q1
  obtain ⟨o, z6⟩ := z3.some
  subst z1
  obtain ⟨t', y1, y2, y3, y4, y5⟩ := q2.mem_tmp e4 e5
  cases y1
  rcases y5 with y5 | y5
  · exact z4 y5
  · have y6 : H1 t = none := y5
    rw [z6] at y6; cases y6
theorem meth_ok {K : PySem.W.Frag} {C' : Str} {ms : List Bool} {ta : TA} {np : Nat} {F H : Hp} {e : Ev} {σ : Sig} {Q : VK} {np : Nat} (R : Rel K F H e σ) (h : At K W (RR K) (bg np F H e σ) (mMeth C' m ms mf mo mr dl) F e σ H Q) (hc : VC K dl dvs) (hn : ms.length = n)
    (C : Addr) (hC : He.ga K C' = C) : mG C m (spG K n mf) W dvs (tE K W mo) (tA K W mr) σ H Q := by
  refine use (R1 := RR K) (Cur.refl R) h fun r e1 F1 H1 u C1 q1 _ h1 => ?_
  obtain ⟨v, rv, h2⟩ := At.rd C1.rel q1 h1
  cases v with
  | obj C2 fs vs =>
    by_cases hh : C2 = C' ∧ m ∉ fs
    · dsimp only at h2
      rw [if_pos hh] at h2
      obtain ⟨rfl, hm⟩ := hh
      obtain ⟨a, dx, us, rfl, z1, z2, z3⟩ := rv.obj C1.rel.sub
      refine ⟨a, dx, _, rfl, by rw [z1, hC], zip_no hm, ?_⟩
      refine useS (R1 := RRs K) C1 h2 fun rs e2 F2 H2 xs C2 q2 c2 h3 => ?_
      have all := RRs.app (RRs.front C1 q1 c2 q2) (hc F2)
      exact call_ok C2 all h3 hn
    · dsimp only at h2
      rw [if_neg hh] at h2
      exact h2.elim
  | _ => exact h2.elim
theorem se_meth {pl : Sem Bool} {C' : Str} (ms : List Bool) (he : SE X W o mo) (c : Cls X.K C) (hm : Meth X.K C m f) (F : FnG X.prog X.w X.K X.mg X.base k f fd ps (spG X.K n mf)) (G : Good X k W) (hC : He.ga X.K C' = C)
    (hb : Binds X.K fd ps ds) (hd : Vals dvs ds) (hc : VC X.K dl dvs) (ha : SA X W (e :: es) mr) (hn : ms.length = n := by rfl) (n2 : starEach (e :: es) X.env = (false, eval e X.env) :: starEach es X.env := by rfl) (n3 : (backTo pos (starEach es X.env)).any (·.1) = false := by rfl)
    (look : eval (.Call (.Attribute o m apos) (e :: es) [] pos) X.env = (do
      let ov ← eval o X.env
      standAt apos.atName
      let (f, first) ← holding [ov] (getMethod ov m pl)
      callWith pos f first (backTo pos (starEach (e :: es) X.env)) (backToKw pos (keywordEach [] X.env))) := by rfl) : SE X W (.Call (.Attribute o m apos) (e :: es) [] pos) (mMeth C' m ms mf mo mr dl) :=
  PE.imp (pg_meth he c hm F G.room G.gd G.tk hb hd ha n2 n3 look) fun σ H Q ⟨np, F, e, R, h⟩ => meth_ok (ta := tA X.K W mr) (np := np) R h hc hn C hC
theorem se_meth0 {pl : Sem Bool} {C' : Str} (ms : List Bool) (he : SE X W o mo) (c : Cls X.K C) (hm : Meth X.K C m f) (F : FnG X.prog X.w X.K X.mg X.base k f fd ps (spG X.K n mf)) (G : Good X k W) (hC : He.ga X.K C' = C)
    (hb : Binds X.K fd ps ds) (hd : Vals dvs ds) (hc : VC X.K dl dvs) (hn : ms.length = n := by rfl)
    (look : eval (.Call (.Attribute o m apos) [] [] pos) X.env = (do
      let ov ← eval o X.env
      standAt apos.atName
      let (f, first) ← holding [ov] (getMethod ov m pl)
      callWith pos f first (backTo pos (starEach [] X.env)) (backToKw pos (keywordEach [] X.env))) := by rfl) : SE X W (.Call (.Attribute o m apos) [] [] pos) (mMeth C' m ms mf mo mNil dl) := by
  refine PE.imp (pg_meth0 he c hm F G.room G.gd G.tk hb hd look) fun σ H Q ⟨np, F, e, R, h⟩ => ?_
  refine use (R1 := RR X.K) (Cur.refl R) h fun r e1 F1 H1 u C1 q1 _ h1 => ?_
  obtain ⟨v, rv, h2⟩ := At.rd C1.rel q1 h1
  cases v with
  | obj C2 fs vs =>
    by_cases hh : C2 = C' ∧ m ∉ fs
    · dsimp only at h2
      rw [if_pos hh] at h2
      obtain ⟨rfl, hm⟩ := hh
      obtain ⟨a, dx, us, rfl, z1, z2, z3⟩ := rv.obj C1.rel.sub
      refine ⟨a, dx, _, rfl, by rw [z1, hC], zip_no hm, ?_⟩
      exact call_ok C1 (RRs.app (.cons q1 (fun _ _ j w z => by simp at z) .nil) (hc F1)) h2 hn
    · dsimp only at h2
      rw [if_neg hh] at h2
      exact h2.elim
  | _ => exact h2.elim
theorem RR.grow {K : PySem.W.Frag} {B : Bg} {F H : Hp} {e : Ev} {σ : Sig} {o : HO} {a : Addr} {r : RV} {u : V} (h : H a = none) (q : RR K B F H e σ r u) : RR K B F (upd H a o) e σ r u := by
  cases r with
  | dat v => exact q
  | bor i => exact q
  | tmp v =>
    obtain ⟨t, z1, z2, z3, z4, z5⟩ := q
    obtain ⟨x, z6⟩ := z3.some
    exact ⟨t, z1, z2, z3.mono (Same.refl _) (upd_ne (ne_of_none z6 h)), z4, z5⟩
theorem RRs.grow {K : PySem.W.Frag} {B : Bg} {F H : Hp} {e : Ev} {σ : Sig} {o : HO} {a : Addr} {rs : List RV} {us : List V} (h : H a = none) (q : RRs K B F H e σ rs us) : RRs K B F (upd H a o) e σ rs us := by
  induction q with
  | nil => exact .nil
  | cons r d _ ih => exact .cons (r.grow h) d ih
theorem make_ok {K : PySem.W.Frag} {B : Bg} {F H : Hp} {e : Ev} {σ : Sig} {C' : Str} {ms : List Bool} {rs : List RV} {us : List V} {Q : VK} {y dx : Addr} (C : Cur K B F H e σ) (q : RRs K B F H e σ rs us) (hy : H y = none) (hx : H dx = none) (ne : dx ≠ y) (hn : ms.length + 1 = n)
    (h : At K W (RR K) B (runMk C' ms mf rs) F e σ H Q) : spG K n mf (.ref y :: us) (upd (upd H dx (.own y)) y (.ins (He.ga K C') dx [])) (fun v H2 => v = .non ∧ Q (.ref y) H2) (WE W σ) := by
  have hy2 : upd H dx (.own y) y = none := by rw [upd_ne (Ne.symm ne)]; exact hy
  obtain ⟨C1, _, _, _⟩ := C.grow (o := .own y) hx
  obtain ⟨C2, n2, f2, m2⟩ := C1.grow (o := .ins (He.ga K C') dx []) hy2
  have q2 : RRs K B F (upd (upd H dx (.own y)) y (.ins (He.ga K C') dx [])) e σ (.tmp (.obj C' [] []) :: rs) (.ref y :: us) := by
    refine .cons ⟨y, rfl, f2, ⟨dx, [], upd_same, rfl, .nil⟩, n2, m2⟩ (fun v z j w h1 h2 => ?_) ((q.grow hx).grow hy2)
    obtain ⟨t, a1, a2, a3, _⟩ := q.mem_tmp h1 h2
    cases a1
    obtain ⟨o, a4⟩ := a3.some
    rw [hy] at a4; cases a4
  unfold At runMk at h
  cases za : argsE (true :: ms) (.tmp (.obj C' [] []) :: rs) e with
  | none => simp only [za] at h
  | some pr =>
    obtain ⟨pe, e1⟩ := pr
    simp only [za] at h
    obtain ⟨len, F1, R1, mid⟩ := call_core C2 q2 za
    refine ⟨len.trans hn, pe.length, F1, pe, R1, ?_⟩
    unfold At
    cases zf : mf pe with
    | bad => simp only [zf] at h
    | rs x p' =>
      simp only [zf] at h
      exact fun F' H' cls d C' X' => h F' H' cls d (mid F' H' p' C').1 X'
    | ok r p' =>
      cases r with
      | bor i => simp only [zf] at h
      | tmp v => simp only [zf] at h
      | dat v => cases v with
        | non =>
          simp only [zf] at h
          cases z0 : p'[0]? with
          | none => simp only [z0] at h
          | some sl => cases sl with
            | un => simp only [z0] at h
            | dat w => simp only [z0] at h
            | own v =>
              simp only [z0] at h
              intro F' H' u C3 r'
              obtain ⟨D1, D2, D3⟩ := mid F' H' p' C3
              have eu : u = .non := by cases r'; rfl
              exact ⟨eu, h F' H' (.ref y) D1 (D3 0 v _ _ rfl rfl z0)⟩
        | _ => simp only [zf] at h
theorem se_make {C' : Str} (ms : List Bool) (Mk : Mk X.K (He.ga X.K C') f) (F : FnG X.prog X.w X.K X.mg X.base k f fd ps (spG X.K n mf)) (G : Good X (k + 1) W) (gl : Gl X x) (at_ : X.mg x = some (.ref (He.ga X.K C'))) (hb : Binds X.K fd ps ds) (hd : Vals dvs ds) (hc : VC X.K dl dvs)
    (ha : SA X W (e :: es) mr) (hn : ms.length + 1 = n := by rfl) (n1 : (x == ("__debug__" : Str)) = false := by decide) (n2 : starEach (e :: es) X.env = (false, eval e X.env) :: starEach es X.env := by rfl)
    (n3 : (backTo pos (starEach es X.env)).any (·.1) = false := by rfl) : SE X W (.Call (.Name x p) (e :: es) [] pos) (mMake C' ms mf mr dl) := by
  refine PE.imp (pg_make Mk F G.room G.gd G.tk gl at_ hb hd ha n1 n2 n3) fun σ H Q h => ?_
  obtain ⟨np, F, e, R, h⟩ := h
  exact use (R1 := RRs X.K) (Cur.refl R) h fun rs e1 F1 H1 us C1 q1 _ h1 y dx hy hx ne => make_ok C1 (q1.app (hc F1)) hy hx ne hn h1
end
end Pu
set_option Elab.async false
set_option linter.all false
set_option maxRecDepth 100000
namespace Pu
open PySem PySem.Spec PyProof.Rows L2
section
variable {K : PySem.W.Frag} {W : WX} {α β : Type} {R1 : Bg → Hp → Hp → Ev → Sig → α → β → Prop} {B : Bg} {F F' H H' : Hp} {e e' : Ev} {σ σ' : Sig} {ws : List Nat}
theorem useG [Carry K R1] {m : M α} {f : α → M Unit} {Q : Sig → Hp → Prop} {G : β → Hp → Prop} (C : Cur K B F H e σ) (h : AtG K W ws B (m.bind f) e σ Q)
    (k : ∀ r e1 F1 H1 x, Cur K B F1 H1 e1 σ → R1 B F1 H1 e1 σ r x → Cur K (bg B.np F H e σ) F1 H1 e1 σ → AtG K W ws B (f r) e1 σ Q → G x H1) : tM K W R1 m σ H G := by
  refine ⟨B.np, F, e, C.rel, ?_⟩
  unfold AtG M.bind at h
  unfold At
  cases hm : m e with
  | bad => rw [hm] at h; exact h
  | rs x e' =>
    rw [hm] at h
    intro F' H' cls d C' X'
    exact h F' H' σ cls d (C.trans C') X'
  | ok r e' =>
    rw [hm] at h
    intro F' H' u C' r'
    exact k r e' F' H' u (C.trans C') (Carry.out C r') C' h
theorem Cur.writeOwn {i : Nat} {v w : Val} {t : Addr} {o' : HO} (C : Cur K B F H e σ) (he : e[i]? = some (.own v)) (hs : σ[i]? = some (some (.ref t))) (h : CellR K F (upd H t o') w t) : Cur K B F (upd H t o') (e.set i (.own w)) σ := by
  obtain ⟨a, h1, h2, h3⟩ := C.rel.slot i _ _ he hs
  cases h1
  obtain ⟨o, ho, hpl⟩ := h3.someP
  have ot : Own e σ t := ⟨i, v, he, hs⟩
  have no : ¬ Own (e.set i .un) σ t := fun ⟨j, w, b1, b2⟩ => by
    rcases getset b1 with ⟨_, z3, _⟩ | ⟨z3, b1⟩
    · cases z3
    · exact z3 (C.rel.inj i j v w t he b1 hs b2)
  have C1 := ((C.forget (i := i)).write (o' := o') h2 no (C.own t ot) ho hpl).again (i := i) (v := w) hs h2 h no (C.own t ot) fun hi => C.par i v hi he
  rw [List.set_set] at C1
  exact C1
end
section
variable {X : Cx} {W : WX} {o e : Expr} {mo ma : M RV} {apos cpos : Pos}
theorem se_app (ho : SE X W o mo) (ha : SE X W e ma) (hbase : attributeBase o "append" X.env (eval o X.env) = eval o X.env := by rfl)
    (hfew : ((backTo cpos (starEach [e] X.env)).all (fun x => !x.1) && (backToKw cpos (keywordEach [] X.env)).all (fun x => x.1.isSome) && decide ([e].length + ([] : List Keyword).length + (if ([] : List Keyword).isEmpty then 0 else 1) < 30)) = true := by rfl)
    (hline : (apos.endLine == cpos.line) = true := by rfl) (hs : starEach [e] X.env = (false, eval e X.env) :: starEach [] X.env := by rfl) (hplain : (backTo cpos (starEach [] X.env)).any (·.1) = false := by rfl) :
    SE X W (.Call (.Attribute o "append" apos) [e] [] cpos) (mApp mo ma) := by
  refine PE.imp (pe_bm PySem.F.plainAttrs_list PySem.F.slot_list_append PySem.F.type_list_append (show MtR X "list.append" rAppend from mt_append) ho (pa_cons ha pa_nil hs) hbase hfew hline hs hplain) fun σ H Q h => ?_
  obtain ⟨np, F, e, R, h⟩ := h
  refine use (R1 := RR X.K) (Cur.refl R) h fun r e1 F1 H1 u C1 q1 _ h1 => ?_
  obtain ⟨v0, rv, h2⟩ := At.rd C1.rel q1 h1
  cases r with
  | dat v => exact h2.elim
  | tmp v => exact h2.elim
  | bor i => cases v0 with
    | lst xs0 =>
      obtain ⟨a, us0, rfl, z1, z2⟩ := rv.lst C1.rel.sub
      refine ⟨.inl ⟨rfl, us0, .inl z1⟩, ?_⟩
      refine use (R1 := RR X.K) C1 h2 fun s e2 F2 H2 y C2 q2 _ h3 => ?_
      obtain ⟨F3, e3, v, C3, _, r3, h4, _⟩ := At.dt C2 q2 h3
      unfold At at h4
      dsimp only at h4
      have hi : σ[i]? = some (some (V.ref a)) := q1
      cases z : e3[i]? with
      | none => simp only [z] at h4
      | some sl => cases sl with
        | un => simp only [z] at h4
        | dat w => simp only [z] at h4
        | own w => cases w with
          | lst xs =>
            simp only [z] at h4
            by_cases hl : xs.length < sizeLine
            · rw [if_pos hl] at h4
              obtain ⟨b, b1, b2, us, b3, b4⟩ := C3.rel.slot i _ _ z hi
              cases b1
              refine ⟨a, us, y, rfl, rfl, b3, by rw [← b4.length]; exact hl, ?_⟩
              exact h4 F3 _ .non (C3.writeOwn z hi ⟨_, upd_same, b4.append (.cons r3 .nil)⟩) VR.non
            · rw [if_neg hl] at h4
              exact h4.elim
          | _ => simp only [z] at h4
    | _ => exact h2.elim
end
section
variable {X : Cx} {W : WX} {o i : Expr} {mo mi : M RV} {pos : Pos} {ws : List Nat}
theorem sg_sb (ho : SE X W o mo) (hi : SE X W i mi)
    (ha : ∀ v, assign (.Subscript o i pos) X.env v = (do
      let ov ← holding [v] (eval o X.env)
      let iv ← holding [v, ov] (eval i X.env)
      standAt pos
      holding [v, ov, iv] (setItem ov iv v)
      release [v, ov, iv] []) := by intro _; rfl) : SG X W ws (.Subscript o i pos) (gSb mo mi) := by
  refine PG.imp (pg_sub ho hi (set_list (X := X)) ha) fun u σ H Q h => ?_
  obtain ⟨np, F, e, v, R, rv, h⟩ := h
  refine useG (R1 := RR X.K) (Cur.refl R) h fun r e1 F1 H1 x C1 q1 _ h1 => ?_
  refine useG (R1 := RR X.K) C1 h1 fun s e2 F2 H2 y C2 q2 c2 h2 => ?_
  obtain ⟨k, rk, h3⟩ := AtG.rd C2.rel q2 h2
  cases r with
  | dat v => exact h3.elim
  | tmp v => exact h3.elim
  | bor j => cases k with
    | int k =>
      have hj : σ[j]? = some (some x) := q1
      unfold AtG at h3
      dsimp only at h3
      cases z : e2[j]? with
      | none => simp only [z] at h3
      | some sl => cases sl with
        | un => simp only [z] at h3
        | dat w => simp only [z] at h3
        | own w => cases w with
          | lst xs =>
            simp only [z] at h3
            obtain ⟨b, b1, b2, us, b3, b4⟩ := C2.rel.slot j _ _ z hj
            cases b1
            cases z2 : ixN xs.length k with
            | none => simp only [z2] at h3
            | some n =>
              simp only [z2] at h3
              refine ⟨b, us, k, n, rfl, rk.int, b3, by rw [← b4.length]; exact z2, ?_⟩
              exact h3 F2 _ σ (C2.writeOwn z hj ⟨_, upd_same, b4.set (rv.mono C2.post.sub) n⟩) Upd.refl
          | _ => simp only [z] at h3
    | _ => exact h3.elim
end
theorem lookV_ok {K : PySem.W.Frag} {F : Hp} {f : Str} {w : Val} : ∀ {fs : List Str} {vs : List Val} {us : List V}, VRs K F vs us → lookV f fs vs = some w → ∃ u, (fs.zip us).lookup f = some u ∧ VR K F w u
  | [], vs, us, _, h => by simp [lookV] at h
  | g :: fs, [], us, _, h => by simp [lookV] at h
  | g :: fs, v :: vs, _, .cons (u := u) (us := us) a b, h => by
    unfold lookV at h
    show ∃ u', (match f == g with | true => some u | false => (fs.zip us).lookup f) = some u' ∧ VR K F w u'
    by_cases hg : g = f
    · rw [if_pos hg] at h
      cases h
      exact ⟨u, by rw [hg, beq_self_eq_true], a⟩
    · rw [if_neg hg] at h
      rw [beq_eq_false_iff_ne.mpr (Ne.symm hg)]
      exact lookV_ok b h
section
variable {X : Cx} {W : WX} {o : Expr} {mo mf : M RV} {pos : Pos} {C' f : Str} {k : Nat} {g p : Addr} {fd : FuncData} {ps : List Str}
theorem se_get (c : Cls X.K (He.ga X.K C')) (n : NoAttr X.K (He.ga X.K C') f) (ho : SE X W o mo) (hb : attributeBase o f X.env (eval o X.env) = eval o X.env := by rfl) : SE X W (.Attribute o f pos) (mGet C' f mo) := by
  refine PE.imp (pe_fld ho hb) fun σ H Q h => ?_
  obtain ⟨np, F, e, R, h⟩ := h
  refine use (R1 := RR X.K) (Cur.refl R) h fun r e1 F1 H1 u C1 q1 _ h1 => ?_
  obtain ⟨v0, rv, h2⟩ := At.rd C1.rel q1 h1
  cases v0 with
  | obj C2 fs vs =>
    dsimp only at h2
    by_cases hC : C2 = C'
    · rw [if_pos hC] at h2
      subst hC
      obtain ⟨a, dx, us, rfl, z1, z2, z3⟩ := rv.obj C1.rel.sub
      cases z : lookV f fs vs with
      | none => simp only [z] at h2; exact h2.elim
      | some w =>
        simp only [z] at h2
        obtain ⟨u, l1, l2⟩ := lookV_ok z3 z
        exact ⟨a, _, dx, _, u, rfl, z1, c, n, l1, h2.ok rfl C1 l2⟩
    · rw [if_neg hC] at h2
      exact h2.elim
  | _ => exact h2.elim
theorem prop_go {C a dx : Addr} {fs : List (Str × V)} {pins : List (Addr × Obj)} {σ : Sig} {H : Hp} {s : Shared} {Q : VK} {b : Bool} {sp : Sp} {E' : Value → Shared → Prop} (I : Inv X pins σ H s) (ea : H a = some (.ins C dx fs)) (c : Cls X.K C) (hp : PropOf X.K C f p g)
    (F : FnG X.prog X.w X.K X.mg X.base k g fd ps sp) (hr : Room (k + 1) X.A) (hG : X.A.guards = some []) (hb : Binds X.K fd ps []) (h : sp [.ref a] H Q (fun _ _ _ => False)) :
    wpAny (model X.prog X.w) X.A (getAttr (.ref a) f b) (EP X pins σ Q) E' s := by
  obtain ⟨mA, O, _⟩ := ins_get I.hok ea
  obtain ⟨od, J, _⟩ := O.look
  obtain ⟨tl, isProp⟩ := hp.rec_
  obtain ⟨plain, look⟩ := PySem.W.plainGet_of (c.get f)
  have known : (PySem.W.clsIn X.K C).isSome = true := by
    obtain ⟨cd, e, -⟩ := PySem.W.any_some c.hd
    rw [e]; rfl
  have I' := I.tok (s.toks + 1)
  have one : Vals [V.ref a] [Value.ref a] := .cons rfl .nil
  have bt := hb { s with toks := s.toks + 1 } [.ref a] I'.kIn (F.many _ _ _ _ h)
  have runs := F.goes X.A.in1 X.stack { s with toks := s.toks + 1 } H ⟨[.ref a], []⟩ [.ref a] [.ref a] Q (fun _ _ _ => False) hr.in1 (by first | exact hG | simpa using hG) I'.env0.in1 bt one h
  refine PySem.W.get_bind I.kIn J plain (PySem.W.findObj_data known hp.at_ hp.get hp.tak) look (wpAny_call (PySem.W.prop_get (s := { s with toks := s.toks + 1 }) I.kIn isProp (codeAny_mono runs fun res s' got => ?_)))
  cases res with
  | error z =>
    obtain ⟨_, _, _, _, _, _, _, _, _, _, _, _, no⟩ := got
    exact no.elim
  | ok fl => cases fl with
    | next => exact got.elim
    | brk => exact got.elim
    | cont => exact got.elim
    | ret u =>
      obtain ⟨v, H', J3, rv, q3⟩ := I'.after got
      show wpAny _ _ (handedOut u) _ _ _
      rw [PySem.W.handedOut_of (handed_of rv)]
      exact wpAny_pure ⟨v, H', J3, rv, q3⟩
def cProp (C : Addr) (sp : Sp) (ta : TE) : TE := fun σ H Q => ta σ H fun x H1 => ∃ a dx fs, x = .ref a ∧ H1 a = some (.ins C dx fs) ∧ sp [.ref a] H1 Q (fun _ _ _ => False)
theorem pg_prop {C : Addr} {ta : TE} {sp : Sp} (he : PE X o ta) (c : Cls X.K C) (hp : PropOf X.K C f p g) (F : FnG X.prog X.w X.K X.mg X.base k g fd ps sp) (hr : Room (k + 1) X.A) (hG : X.A.guards = some []) (hb : Binds X.K fd ps [])
    (plain : attributeBase o f X.env (eval o X.env) = eval o X.env) : PE X (.Attribute o f pos) (cProp C sp ta) := by
  constructor
  intro pins s σ H Q I h
  refine attr_of plain (thn (he.run pins s σ H _ I h) ?_)
  rintro u s1 ⟨y, H1, I1, ry, a, dx, fs, rfl, ea, q⟩
  obtain rfl : u = Value.ref a := ry
  exact prop_go I1 ea c hp F hr hG hb q
theorem se_prop (ho : SE X W o mo) (c : Cls X.K (He.ga X.K C')) (hp : PropOf X.K (He.ga X.K C') f p g) (F : FnG X.prog X.w X.K X.mg X.base k g fd ps (spG X.K 1 mf)) (G : Good X (k + 1) W) (hb : Binds X.K fd ps [])
    (plain : attributeBase o f X.env (eval o X.env) = eval o X.env := by rfl) : SE X W (.Attribute o f pos) (mProp C' mf mo) := by
  refine PE.imp (pg_prop ho c hp F G.room G.gd hb plain) fun σ H Q h => ?_
  obtain ⟨np, F, e, R, h⟩ := h
  refine use (R1 := RR X.K) (Cur.refl R) h fun r e1 F1 H1 u C1 q1 _ h1 => ?_
  obtain ⟨v0, rv, h2⟩ := At.rd C1.rel q1 h1
  cases v0 with
  | obj C2 fs vs =>
    dsimp only at h2
    by_cases hC : C2 = C'
    · rw [if_pos hC] at h2
      subst hC
      obtain ⟨a, dx, us, rfl, z1, z2, z3⟩ := rv.obj C1.rel.sub
      refine ⟨a, dx, _, rfl, z1, ?_⟩
      have h3 : At X.K noW (RR X.K) (bg np F H e σ) (runF [true] mf [r]) F1 e1 σ H1 Q := by
        unfold At noRs at h2
        unfold At
        cases z : runF [true] mf [r] e1 with
        | bad => simp only [z] at h2
        | rs x e' => simp only [z] at h2
        | ok y e' => simp only [z] at h2; exact h2
      exact call_ok (W := noW) C1 (RRs.cons q1 (fun _ _ j w z => by simp at z) RRs.nil) h3 rfl
    · rw [if_neg hC] at h2
      exact h2.elim
  | _ => exact h2.elim
end
theorem put_ok {K : PySem.W.Frag} {F : Hp} {f : Str} {w : Val} {y : V} (r : VR K F w y) : ∀ {fs : List Str} {vs : List Val} {us : List V}, fs.length = us.length → VRs K F vs us →
    ∃ us', putF f y (fs.zip us) = (putFs f fs).zip us' ∧ (putFs f fs).length = us'.length ∧ VRs K F (putVs f w fs vs) us'
  | [], vs, us, h, q => by
    have : us = [] := List.eq_nil_of_length_eq_zero h.symm
    subst this
    cases q
    exact ⟨[y], rfl, rfl, .cons r .nil⟩
  | g :: fs, [], us0, h, q => by cases q; simp at h
  | g :: fs, v :: vs, us0, h, q => by
    cases q with
    | cons a b =>
    rename_i u us
    have hl : fs.length = us.length := by simpa using h
    show ∃ us', (if g = f then (g, y) :: fs.zip us else (g, u) :: putF f y (fs.zip us)) = (putFs f (g :: fs)).zip us' ∧ _ ∧ _
    unfold putFs putVs
    by_cases hg : g = f
    · rw [if_pos hg, if_pos hg, if_pos hg]
      exact ⟨y :: us, rfl, by simp [hl], .cons r b⟩
    · rw [if_neg hg, if_neg hg, if_neg hg]
      obtain ⟨us', e1, e2, e3⟩ := put_ok r (f := f) hl b
      exact ⟨u :: us', by rw [e1]; rfl, by simp [e2], .cons a e3⟩
section
variable {X : Cx} {W : WX} {o x : Expr} {mo mv : M RV} {pos pos' : Pos} {C' f : Str} {np : Nat}
theorem ss_put (c : Cls X.K (He.ga X.K C')) (n : NoAttr X.K (He.ga X.K C') f) (ho : SE X W o mo) (hv : SE X W x mv) (hs : swapsWith x (some (.Attribute o f pos')) pos.line X.env = pure false := by rfl) : SS X W np (.Assign [.Attribute o f pos'] x pos) (mPut C' f mo mv) := by
  refine PS.imp (ps_fld ho hv hs) fun D σ H h => ?_
  obtain ⟨F, e, R, h⟩ := h
  refine useX (R1 := RR X.K) (Cur.refl R) h fun r e1 F1 H1 u C1 q1 _ h1 => ?_
  obtain ⟨F2, e2, v, C2, _, r2, h2, _⟩ := AtS.dt C1 q1 h1
  refine useX (R1 := RR X.K) C2 h2 fun r3 e3 F3 H3 y C3 q3 c3 h3 => ?_
  cases r3 with
  | dat v => exact h3.elim
  | tmp v => exact h3.elim
  | bor i =>
    have hi : σ[i]? = some (some y) := q3
    unfold AtS at h3
    dsimp only at h3
    cases z : e3[i]? with
    | none => simp only [z] at h3
    | some sl => cases sl with
      | un => simp only [z] at h3
      | dat w => simp only [z] at h3
      | own w => cases w with
        | obj C2 fs vs =>
          simp only [z] at h3
          by_cases hh : C2 = C' ∧ fs.length < 1000
          · rw [if_pos hh] at h3
            obtain ⟨rfl, hl⟩ := hh
            obtain ⟨b, b1, b2, dx, us, b3, b4, b5⟩ := C3.rel.slot i _ _ z hi
            cases b1
            obtain ⟨us', p1, p2, p3⟩ := put_ok (f := f) (r2.mono c3.post.sub) b4 b5
            refine ⟨b, _, dx, _, rfl, b3, c, n, by rw [List.length_zip, ← b4, Nat.min_self]; exact hl, ?_⟩
            exact h3 F3 _ σ (C3.writeOwn z hi ⟨dx, us', by rw [upd_same, p1], p2, p3⟩)
          · rw [if_neg hh] at h3
            exact h3.elim
        | _ => simp only [z] at h3
end
end Pu
set_option Elab.async false
set_option linter.all false
set_option maxRecDepth 100000
namespace Pu
open PySem PySem.Spec PyProof.Rows L2
structure KB (K : PySem.W.Frag) (fd : FuncData) (ps : List Str) (n : Nat) (ks : List Str) (g : List Nat) : Prop where
  to : ∀ (s : Shared) (us ws : List Value), K.In s.heap → us.length = n → ws.length = ks.length → BindsTo s fd ⟨us, ks.zip ws⟩ (ps.zip (sel g (us ++ ws)))
  nd : g.Nodup
section
theorem kb_of {K : PySem.W.Frag} {x qual : Str} {params : Arguments} {body : List Stmt} {scope : Scope} {kws : List (Str × V)} {f : Addr} {fd : FuncData} {ps ks : List Str} {n : Nat} {g : List Nat} (F : FunD K x qual params body scope [] kws f fd) (nd : g.Nodup)
    (h : ∀ (kV doc pm : Value) (an : Option Addr) (cdv ct : Value) (us ws : List Value), us.length = n → ws.length = ks.length → bindArgs (PySem.W.fnOf x qual params body scope .none kV doc pm an cdv ct) ⟨us, ks.zip ws⟩ = pure (ps.zip (sel g (us ++ ws)))) : KB K fd ps n ks g := by
  obtain ⟨_, _, dV, kV, doc, pm, an, cdv, ct, _, rfl, _, _, none_, -⟩ := F.ex
  rcases none_ with ⟨-, rfl⟩ | ⟨no, -⟩
  · exact ⟨fun s us ws _ l1 l2 => .of_eq (h kV doc pm an cdv ct us ws l1 l2), nd⟩
  · exact absurd rfl no
variable {K : PySem.W.Frag} {W : WX} {B : Bg} {F H : Hp} {σ : Sig} {e : Ev}
theorem sel_vals {us : List V} {xs : List Value} (h : Vals us xs) : ∀ {g : List Nat}, Vals (Pu.sel g us) (Pu.sel g xs) := by
  have at_ : ∀ {us : List V} {xs : List Value} {i : Nat} {u : V}, Vals us xs → us[i]? = some u → ∃ x, xs[i]? = some x ∧ RelV u x := fun {us xs i u} h => by
    induction h generalizing i with
    | nil => intro z; simp at z
    | cons a b ih => cases i with
      | zero => intro z; simp at z; subst z; exact ⟨_, rfl, a⟩
      | succ i => intro z; exact ih (by simpa using z)
  intro g
  induction g with
  | nil => exact .nil
  | cons i g ih =>
    unfold Pu.sel
    cases hx : us[i]? with
    | none =>
      have hy : xs[i]? = none := List.getElem?_eq_none (by rw [← h.length]; exact List.getElem?_eq_none_iff.mp hx)
      simp only [hy]
      exact ih
    | some u =>
      obtain ⟨x, hy, r⟩ := at_ h hx
      simp only [hy]
      exact .cons r ih
theorem RRs.join {F1 H1 F2 H2 : Hp} {e1 e2 : Ev} (C1 : Cur K B F1 H1 e1 σ) (c2 : Cur K (bg B.np F1 H1 e1 σ) F2 H2 e2 σ) {zs : List RV} {xs : List V} (q2 : RRs K (bg B.np F1 H1 e1 σ) F2 H2 e2 σ zs xs) {rs : List RV} {us : List V} (q1 : RRs K B F1 H1 e1 σ rs us) :
    RRs K B F2 H2 e2 σ (rs ++ zs) (us ++ xs) := by
  induction q1 with
  | nil => exact Carry.out C1 q2
  | cons r d t ih =>
    rename_i r' u' rs us
    refine .cons (r.carry c2) (fun v z j w h1 h2 => ?_) ih
    replace h1 : (rs ++ zs)[j]? = some (.tmp w) := h1
    replace h2 : (us ++ xs)[j]? = some u' := h2
    have tl := t.length
    by_cases hj : j < rs.length
    · rw [List.getElem?_append_left hj] at h1
      rw [List.getElem?_append_left (by omega)] at h2
      exact d v z j w h1 h2
    · rw [List.getElem?_append_right (by omega)] at h1 h2
      subst z
      obtain ⟨t0, z1, z2, z3, z4, z5⟩ := r
      obtain ⟨o, z6⟩ := z3.some
      subst z1
      rw [← tl] at h2
      obtain ⟨t', y1, y2, y3, y4, y5⟩ := q2.mem_tmp h1 h2
      cases y1
      rcases y5 with y5 | y5
      · exact z4 y5
      · have y6 : H1 t0 = none := y5
        rw [z6] at y6; cases y6
end
abbrev SK (X : Cx) (W : WX) (kws : List Keyword) (m : M (List RV)) : Prop := PK X kws (tA X.K W m)
theorem PK.imp {X : Cx} {kws : List Keyword} {t t' : TA} (h : PK X kws t) (q : ∀ σ H Q, t' σ H Q → t σ H Q) : PK X kws t' := ⟨fun p pins s σ H Q I z => h.run p pins s σ H Q I (q σ H Q z)⟩
theorem sk_nil {X : Cx} {W : WX} : SK X W [] mNil := PK.imp pk_nil fun σ H Q h => by
  obtain ⟨np, F, e, R, h⟩ := h
  exact h.ok rfl (Cur.refl R) .nil
theorem sk_cons {X : Cx} {W : WX} {a : Expr} {nm : Option Str} {kpos : Pos} {kws : List Keyword} {ma : M RV} {mr : M (List RV)} (ha : SE X W a ma) (hr : SK X W kws mr) : SK X W (⟨nm, a, kpos⟩ :: kws) (mCons ma mr) := by
  refine PK.imp (pk_cons ha hr) fun σ H Q h => ?_
  obtain ⟨np, F, e, R, h⟩ := h
  refine use (Cur.refl R) h fun r1 e1 F1 H1 x C1 q1 _ h1 => ?_
  refine useS (R1 := RRs X.K) C1 h1 fun rs e2 F2 H2 xs C2 q2 c2 h2 => ?_
  exact h2.ok rfl C2 (RRs.front C1 q1 c2 q2)
def cK (n m : Nat) (sp : Sp) (W : WX) (g : List Nat) (t u : TA) : TE := fun σ H Q => t σ H fun vs H1 => u σ H1 fun zs H2 => vs.length = n ∧ zs.length = m ∧ sp (sel g (vs ++ zs)) H2 Q (WE W σ)
section
variable {X : Cx} {W : WX} {k n : Nat} {f : Addr} {fd : FuncData} {ps ks : List Str} {x : Str} {p pos : Pos} {e : Expr} {es : List Expr} {kws : List Keyword} {mf : M RV} {mr mk : M (List RV)} {sp : Sp} {t u : TA} {g : List Nat}
theorem goK {pins : List (Addr × Obj)} {σ : Sig} {H : Hp} {s : Shared} {Q : VK} {us ws : List Value} {vs zs : List V} (F : FnG X.prog X.w X.K X.mg X.base k f fd ps sp) (hr : Room k X.A) (hG : X.A.guards = some []) (tk : L2N.Takes X W) (hb : KB X.K fd ps n ks g)
    (I : Inv X pins σ H s) (r : Vals vs us) (rz : Vals zs ws) (l1 : vs.length = n) (l2 : zs.length = ks.length) (h : sp (sel g (vs ++ zs)) H Q (WE W σ)) : wpAny (model X.prog X.w) X.A (call (.ref f) us (ks.zip ws)) (EP X pins σ Q) X.xe s :=
  goG F hr hG tk I (hb.to s us ws I.kIn (r.length.symm.trans l1) (rz.length.symm.trans l2)) (sel_vals (r.append rz)) h
theorem pg_callKs (F : FnG X.prog X.w X.K X.mg X.base k f fd ps sp) (hr : Room k X.A) (hG : X.A.guards = some []) (tk : L2N.Takes X W) (gl : Gl X x)
    (at_ : X.mg x = some (.ref f)) (kp : PySem.W.keepIn X.K (.ref f) = true) (hb : KB X.K fd ps n ks g) (ha : PA X (e :: es) t) (hk : PK X kws u)
    (k1 : (backToKw pos (keywordEach kws X.env)).all (·.1.isSome) = true := by rfl) (k2 : (backToKw pos (keywordEach kws X.env)).filterMap (·.1) = ks := by rfl) (n1 : (x == ("__debug__" : Str)) = false := by decide)
    (n2 : starEach (e :: es) X.env = (false, eval e X.env) :: starEach es X.env := by rfl)
    (n3 : ((backTo pos (starEach (e :: es) X.env)).any (·.1) || (backToKw pos (keywordEach kws X.env)).any (·.1.isNone)) = false := by rfl) : PE X (.Call (.Name x p) (e :: es) kws pos) (cK n ks.length sp W g t u) := by
  constructor
  intro pins s σ H Q I h
  refine wpAny_Call_Name_kw (ld_glob I gl at_ ?_ n1)
  refine PySem.W.callWith_KW (h₀ := X.base) I.ok.mod.kin kp k1 (thn (ha.run pos pins s σ H _ I h) ?_) n3 n2
  rintro us s1 ⟨vs, H1, I1, r, q⟩
  refine thn (hk.run pos pins s1 σ H1 _ I1 q) ?_
  rintro ws s2 ⟨zs, H2, I2, rz, l1, l2, q2⟩
  refine ⟨I2.kIn, ?_⟩
  rw [k2]
  exact goK F hr hG tk hb I2 r rz l1 l2 q2
theorem pg_callK0 (F : FnG X.prog X.w X.K X.mg X.base k f fd ps sp) (hr : Room k X.A) (hG : X.A.guards = some []) (tk : L2N.Takes X W) (gl : Gl X x)
    (at_ : X.mg x = some (.ref f)) (kp : PySem.W.keepIn X.K (.ref f) = true) (hb : KB X.K fd ps 0 ks g) (hk : PK X kws u)
    (k1 : (backToKw pos (keywordEach kws X.env)).all (·.1.isSome) = true := by rfl) (k2 : (backToKw pos (keywordEach kws X.env)).filterMap (·.1) = ks := by rfl) (n1 : (x == ("__debug__" : Str)) = false := by decide)
    (n3 : ((backTo pos (starEach [] X.env)).any (·.1) || (backToKw pos (keywordEach kws X.env)).any (·.1.isNone)) = false := by rfl) : PE X (.Call (.Name x p) [] kws pos) (cK 0 ks.length sp W g tNil u) := by
  constructor
  intro pins s σ H Q I h
  refine wpAny_Call_Name_kw (ld_glob I gl at_ ?_ n1)
  refine PySem.W.callWith_KW0 (h₀ := X.base) I.ok.mod.kin kp k1 ?_ n3
  refine thn (hk.run pos pins s σ H _ I h) ?_
  rintro ws s2 ⟨zs, H2, I2, rz, l1, l2, q2⟩
  refine ⟨I2.kIn, ?_⟩
  rw [k2]
  exact goK (us := []) F hr hG tk hb I2 .nil rz l1 l2 q2
theorem kw_ok {K : PySem.W.Frag} {B : Bg} {F F1 F2 H H1 H2 : Hp} {e e1 e2 : Ev} {σ : Sig} {ms : List Bool} {rs zs : List RV} {us xs : List V} {m nn : Nat} {Q : VK} (C1 : Cur K B F1 H1 e1 σ) (q1 : RRs K B F1 H1 e1 σ rs us) (c2 : Cur K (bg B.np F1 H1 e1 σ) F2 H2 e2 σ)
    (q2 : RRs K (bg B.np F1 H1 e1 σ) F2 H2 e2 σ zs xs) (nd : g.Nodup) (hn : ms.length = nn) (h : At K W (RR K) B (if rs.length = n ∧ zs.length = m then runF ms mf (sel g (rs ++ zs)) else M.bad) F2 e2 σ H2 Q) : us.length = n ∧ xs.length = m ∧ spG K nn mf (sel g (us ++ xs)) H2 Q (WE W σ) := by
  by_cases hh : rs.length = n ∧ zs.length = m
  · rw [if_pos hh] at h
    exact ⟨q1.length.symm.trans hh.1, q2.length.symm.trans hh.2, call_ok (C1.trans c2) ((RRs.join C1 c2 q2 q1).sel nd) h hn⟩
  · rw [if_neg hh] at h
    exact h.elim
theorem se_callK {nn : Nat} (ms : List Bool) (F : FnG X.prog X.w X.K X.mg X.base k f fd ps (spG X.K nn mf)) (G : Good X k W) (gl : Gl X x)
    (at_ : X.mg x = some (.ref f)) (kp : PySem.W.keepIn X.K (.ref f) = true) (hb : KB X.K fd ps n ks g) (ha : SA X W (e :: es) mr) (hk : SK X W kws mk) (hn : ms.length = nn := by rfl)
    (k1 : (backToKw pos (keywordEach kws X.env)).all (·.1.isSome) = true := by rfl) (k2 : (backToKw pos (keywordEach kws X.env)).filterMap (·.1) = ks := by rfl) (n1 : (x == ("__debug__" : Str)) = false := by decide)
    (n2 : starEach (e :: es) X.env = (false, eval e X.env) :: starEach es X.env := by rfl)
    (n3 : ((backTo pos (starEach (e :: es) X.env)).any (·.1) || (backToKw pos (keywordEach kws X.env)).any (·.1.isNone)) = false := by rfl) : SE X W (.Call (.Name x p) (e :: es) kws pos) (mCallK ms mf mr mk n ks.length g) := by
  refine PE.imp (pg_callKs F G.room G.gd G.tk gl at_ kp hb ha hk k1 k2 n1 n2 n3) fun σ H Q h => ?_
  obtain ⟨np, F, e, R, h⟩ := h
  refine use (R1 := RRs X.K) (Cur.refl R) h fun rs e1 F1 H1 us C1 q1 _ h1 => ?_
  exact useS (R1 := RRs X.K) C1 h1 fun zs e2 F2 H2 xs C2 q2 c2 h2 => kw_ok (F := F) (H := H) (e := e) C1 q1 c2 q2 hb.nd hn h2
theorem se_callK0 {nn : Nat} (ms : List Bool) (F : FnG X.prog X.w X.K X.mg X.base k f fd ps (spG X.K nn mf)) (G : Good X k W) (gl : Gl X x)
    (at_ : X.mg x = some (.ref f)) (kp : PySem.W.keepIn X.K (.ref f) = true) (hb : KB X.K fd ps 0 ks g) (hk : SK X W kws mk) (hn : ms.length = nn := by rfl)
    (k1 : (backToKw pos (keywordEach kws X.env)).all (·.1.isSome) = true := by rfl) (k2 : (backToKw pos (keywordEach kws X.env)).filterMap (·.1) = ks := by rfl) (n1 : (x == ("__debug__" : Str)) = false := by decide)
    (n3 : ((backTo pos (starEach [] X.env)).any (·.1) || (backToKw pos (keywordEach kws X.env)).any (·.1.isNone)) = false := by rfl) : SE X W (.Call (.Name x p) [] kws pos) (mCallK ms mf mNil mk 0 ks.length g) := by
  refine PE.imp (pg_callK0 F G.room G.gd G.tk gl at_ kp hb hk k1 k2 n1 n3) fun σ H Q h => ?_
  obtain ⟨np, F, e, R, h⟩ := h
  have C := Cur.refl (np := np) R
  have h0 : At X.K W (RR X.K) (bg np F H e σ) (mk.bind fun zs => if ([] : List RV).length = 0 ∧ zs.length = ks.length then runF ms mf (sel g ([] ++ zs)) else M.bad) F e σ H Q := h
  exact useS (R1 := RRs X.K) C h0 fun zs e2 F2 H2 xs C2 q2 c2 h2 => kw_ok (us := []) (F := F) (H := H) (e := e) C .nil c2 q2 hb.nd hn h2
end
end Pu
set_option Elab.async false
set_option linter.all false
set_option maxRecDepth 100000
namespace Pu
open PySem PySem.Spec PyProof.Rows L2
section
variable {X : Cx} {W : WX} {np : Nat}
theorem se_bad {e : Expr} : SE X W e M.bad := ⟨fun _ _ _ _ _ _ ⟨_, _, _, _, h⟩ => h.elim⟩
theorem st_bad {e : Expr} : ST X W e M.bad := ⟨fun _ _ _ _ _ _ ⟨_, _, _, _, h⟩ => h.elim⟩
theorem si_bad {t e : Expr} : SI X W t e M.bad := ⟨fun _ _ _ _ _ _ ⟨_, _, _, _, h⟩ => h.elim⟩
theorem sg_bad {ws : List Nat} {e : Expr} : SG X W ws e (fun _ => M.bad) := ⟨fun _ _ _ _ _ _ _ _ _ ⟨_, _, _, _, _, _, h⟩ => h.elim⟩
theorem ss_bad {st : Stmt} : SS X W np st M.bad := ⟨fun _ _ _ _ _ _ ⟨_, _, _, h⟩ => h.elim⟩
theorem sb_bad {b : List Stmt} : SB X W np b M.bad := ⟨fun _ _ _ _ _ _ ⟨_, _, _, h⟩ => h.elim⟩
end
section
variable {K : PySem.W.Frag} {W : WX} {α β α' β' : Type} {R1 : Bg → Hp → Hp → Ev → Sig → α → β → Prop} {R2 : Bg → Hp → Hp → Ev → Sig → α' → β' → Prop} {B : Bg} {F H : Hp} {e : Ev} {σ : Sig}
theorem At.part [Carry K R1] {m : M α} {f : α → M α'} {Q : β' → Hp → Prop} {G : β → Hp → Prop} (C : Cur K B F H e σ) (h : At K W R2 B (m.bind f) F e σ H Q)
    (k : ∀ r e1 F1 H1 x, Cur K B F1 H1 e1 σ → R1 B F1 H1 e1 σ r x → Cur K (bg B.np F H e σ) F1 H1 e1 σ → At K W R2 B (f r) F1 e1 σ H1 Q → G x H1) : At K W R1 (bg B.np F H e σ) m F e σ H G := by
  unfold At M.bind at h
  unfold At
  cases hm : m e with
  | bad => rw [hm] at h; exact h
  | rs x e' =>
    rw [hm] at h
    exact fun F' H' cls d C' X' => h F' H' cls d (C.trans C') X'
  | ok r e' =>
    rw [hm] at h
    exact fun F' H' u C' r' => k r e' F' H' u (C.trans C') (Carry.out C r') C' h
end
theorem se_neg {X : Cx} {W : WX} {a : Expr} {ma : M RV} {pos : Pos} (ha : SE X W a ma) : SE X W (.UnaryOp .USub a pos) (mNeg ma) := by
  refine PE.imp (pe_un un_neg ha) fun σ H Q h => ?_
  obtain ⟨np, F, e, R, h⟩ := h
  refine use (R1 := RR X.K) (Cur.refl R) h fun r1 e1 F1 H1 x C1 q1 _ h1 => ?_
  obtain ⟨v, rv, h2⟩ := At.rd C1.rel q1 h1
  cases v with
  | int i => exact ⟨i, rv.int, h2.ok rfl C1 (VR.int _)⟩
  | _ => exact h2.elim
section
variable {X : Cx} {W : WX} {a b c : Expr} {ma mb mc : M RV} {pos : Pos} {f g : Val → Val → M RV} {r r' : R2} {op op' : CmpOp}
theorem chain_ok {K : PySem.W.Frag} (hf : OpV K W f r) (hg : OpV K W g r') {σ : Sig} {H : Hp} {Q : VK} (h : tE K W (mChain f g ma mb mc) σ H Q) : tChain r r' (tE K W ma) (tE K W mb) (tE K W mc) σ H Q := by
  obtain ⟨np, F, e, R, h⟩ := h
  refine use (R1 := RR K) (Cur.refl R) h fun r1 e1 F1 H1 x C1 q1 _ h1 => ?_
  refine use (R1 := RR K) C1 h1 fun r2 e2 F2 H2 y C2 q2 c2 h2 => ?_
  obtain ⟨v, rv, h3⟩ := At.rd C2.rel (q1.carry c2) h2
  obtain ⟨w, rw_, h4⟩ := At.rd C2.rel q2 h3
  refine hf (Cur.refl (np := (bg np F H e σ).np) C2.rel) rv rw_ (At.part (R1 := RR K) C2 h4 fun z e3 F3 H3 u C3 q3 c3 h5 => ?_)
  obtain ⟨k, rk, h6⟩ := At.rd C3.rel q3 h5
  cases k with
  | bl k => cases k with
    | true =>
      refine ⟨true, rk.bl, ?_⟩
      rw [if_pos rfl]
      refine use (R1 := RR K) C3 h6 fun r4 e4 F4 H4 w4 C4 q4 c4 h7 => ?_
      obtain ⟨w', rw', h8⟩ := At.rd C4.rel ((q2.carry c3).carry c4) h7
      obtain ⟨x', rx', h9⟩ := At.rd C4.rel q4 h8
      exact hg C4 rw' rx' h9
    | false =>
      refine ⟨false, rk.bl, ?_⟩
      rw [if_neg (by decide)]
      exact h6.ok rfl C3 (VR.bl false)
  | _ => exact h6.elim
theorem se_chain (ho : OpR X (compareOp op) r) (ho' : OpR X (compareOp op') r') (hf : OpV X.K W f r) (hg : OpV X.K W g r') (ha : SE X W a ma) (hb : SE X W b mb) (hc : SE X W c mc)
    (hm : lastMarks [op, op'] [b, c] = false := by with_unfolding_all rfl) : SE X W (.Compare a [op, op'] [b, c] pos) (mChain f g ma mb mc) :=
  PE.imp (pe_chain ho ho' ha hb hc hm) fun _ _ _ h => chain_ok hf hg h
theorem test_of {K : PySem.W.Frag} {m : M RV} (hb2 : ∀ e r' e', m e = .ok r' e' → ∃ b, r' = .dat (.bl b)) {σ : Sig} {H : Hp} {Q : Bool → Hp → Prop} (h : tT K W (mTru m) σ H Q) : tE K W m σ H fun x H' => ∃ k, x = .bl k ∧ Q k H' := by
  obtain ⟨np, F, e, R, h⟩ := h
  refine ⟨np, F, e, R, ?_⟩
  unfold At mTru M.bind at h
  unfold At
  cases z : m e with
  | bad => rw [z] at h; exact h
  | rs x e' => rw [z] at h; exact h
  | ok r' e' =>
    rw [z] at h
    intro F' H' u C q
    obtain ⟨b, rfl⟩ := hb2 _ _ _ z
    have eu : u = .bl b := by cases q; rfl
    subst eu
    exact ⟨b, rfl, h F' H' b C rfl⟩
theorem bind_ok {α β : Type} {m : M α} {k : α → M β} {e e2 : Ev} {b : β} (h : m.bind k e = .ok b e2) : ∃ a e1, m e = .ok a e1 ∧ k a e1 = .ok b e2 := by
  unfold M.bind at h
  cases z : m e with
  | ok a e1 => simp only [z] at h; exact ⟨a, e1, rfl, h⟩
  | rs _ _ => simp only [z] at h; cases h
  | bad => simp only [z] at h; cases h
theorem chain_bl (hg : ∀ v w e r' e', g v w e = .ok r' e' → ∃ b, r' = .dat (.bl b)) : ∀ e r' e', mChain f g ma mb mc e = .ok r' e' → ∃ b, r' = .dat (.bl b) := by
  intro e r' e' h
  obtain ⟨r1, e1, -, h⟩ := bind_ok h
  obtain ⟨r2, e2, -, h⟩ := bind_ok h
  obtain ⟨v, e3, -, h⟩ := bind_ok h
  obtain ⟨w, e4, -, h⟩ := bind_ok h
  obtain ⟨z, e5, -, h⟩ := bind_ok h
  obtain ⟨k, e6, -, h⟩ := bind_ok h
  cases k with
  | bl k => cases k with
    | false => cases h; exact ⟨false, rfl⟩
    | true =>
      obtain ⟨t, e7, -, h⟩ := bind_ok h
      obtain ⟨w', e8, -, h⟩ := bind_ok h
      obtain ⟨x, e9, -, h⟩ := bind_ok h
      exact hg _ _ _ _ _ h
  | _ => cases h
theorem st_chain (ho : OpR X (compareOp op) r) (ho' : OpR X (compareOp op') r') (hf : OpV X.K W f r) (hg : OpV X.K W g r') (hb2 : ∀ v w e r' e', g v w e = .ok r' e' → ∃ b, r' = .dat (.bl b)) (ha : SE X W a ma) (hb : SE X W b mb) (hc : SE X W c mc)
    (hm : lastMarks [op, op'] [b, c] = false := by with_unfolding_all rfl) : ST X W (.Compare a [op, op'] [b, c] pos) (mTru (mChain f g ma mb mc)) :=
  PT.imp (pt_chain ho ho' ha hb hc hm) fun _ _ _ h => chain_ok hf hg (test_of (chain_bl hb2) h)
end
theorem VRs.cut {K : PySem.W.Frag} {F : Hp} {vs : List Val} {us : List V} (h : VRs K F vs us) (lo hi : Option Int) : VRs K F (cutA vs lo hi) (cutV us lo hi) := by
  unfold cutA cutV
  rw [h.length]
  exact (h.drop _).take _
abbrev SO (X : Cx) (W : WX) (e : Option Expr) (m : M (Option Int)) : Prop := PO X e (tM X.K W (fun _ _ _ _ _ (a b : Option Int) => a = b) m)
instance {K : PySem.W.Frag} : Carry K (fun _ _ _ _ _ (b c : Option Int) => b = c) := ⟨fun _ h => h⟩
section
variable {X : Cx} {W : WX} {a : Expr} {lo hi : Option Expr} {ma : M RV} {ml mh : M (Option Int)} {pos p2 : Pos}
theorem PO.imp {e : Option Expr} {t t' : TO} (h : PO X e t) (q : ∀ σ H Q, t' σ H Q → t σ H Q) : PO X e t' := ⟨fun pins s σ H Q I z => h.run pins s σ H Q I (q σ H Q z)⟩
theorem so_none : SO X W none mNoP := PO.imp po_none fun σ H Q ⟨np, F, e, R, h⟩ => h.ok rfl (Cur.refl R) rfl
theorem so_some (ha : SE X W a ma) : SO X W (some a) (mPt ma) := by
  refine PO.imp (po_some ha) fun σ H Q h => ?_
  obtain ⟨np, F, e, R, h⟩ := h
  refine use (R1 := RR X.K) (Cur.refl R) h fun r1 e1 F1 H1 x C1 q1 _ h1 => ?_
  obtain ⟨v, rv, h2⟩ := At.rd C1.rel q1 h1
  cases v with
  | int i => exact ⟨i, rv.int, h2.ok rfl C1 rfl⟩
  | _ => exact h2.elim
theorem se_slice (ha : SE X W a ma) (hl : SO X W lo ml) (hh : SO X W hi mh) : SE X W (.Subscript a (.Slice lo hi none p2) pos) (mSl ma ml mh) := by
  refine PE.imp (pe_slice (SlR.or sl_list (SlR.or sl_tupA sl_str)) ha hl hh) fun σ H Q h => ?_
  obtain ⟨np, F, e, R, h⟩ := h
  refine use (R1 := RR X.K) (Cur.refl R) h fun r e1 F1 H1 x C1 q1 _ h1 => ?_
  refine use (R1 := fun _ _ _ _ _ (a b : Option Int) => a = b) C1 h1 fun l e2 F2 H2 l' C2 q2 c2 h2 => ?_
  refine use (R1 := fun _ _ _ _ _ (a b : Option Int) => a = b) C2 h2 fun u e3 F3 H3 u' C3 q3 c3 h3 => ?_
  obtain ⟨v, rv, h4⟩ := At.rd C3.rel ((q1.carry c2).carry c3) h3
  have el : l = l' := q2
  have eu : u = u' := q3
  subst el eu
  cases v with
  | lst xs =>
    obtain ⟨p, us, rfl, z1, z2⟩ := rv.lst C3.rel.sub
    refine .inl ⟨p, us, rfl, .inl z1, fun t ht => ?_⟩
    obtain ⟨C4, n4, f4, m4⟩ := C3.grow (o := .lst (cutV us l u)) ht
    exact h4.ok (r := RV.tmp (.lst (cutA xs l u))) rfl C4 ⟨t, rfl, f4, ⟨_, upd_same, z2.cut l u⟩, n4, m4⟩
  | tup xs =>
    obtain ⟨p, us, rfl, z1, z2⟩ := rv.tup C3.rel.sub
    refine .inr (.inl ⟨p, us, rfl, z1, fun hw => ?_, fun hw t ht => ?_⟩)
    · have e1 : cutA xs l u = xs := by
        unfold cutA
        rw [z2.length, hw.1, hw.2, List.drop_zero, Nat.sub_zero, ← z2.length, List.take_length]
      have h5 := h4
      rw [show slV (.tup xs) l u = M.ret (.dat (.tup (cutA xs l u))) from rfl, e1] at h5
      rcases rv with rv | ⟨_, _, no⟩
      · exact h5.ok rfl C3 rv
      · exact no.elim
    · obtain ⟨C4, s4, e4⟩ := C3.growF (o := .tup (cutV us l u)) ht
      exact h4.ok rfl C4 (VR.tup (SqT.of e4) ((z2.mono s4 |> fun z => z.cut l u)))
  | str z =>
    rw [rv.str]
    by_cases hz : z.length ≤ sizeLine
    · rw [show slV (.str z) l u = M.ret (.dat (.str (cutS z l u))) from by simp only [slV, hz, if_true]] at h4
      exact .inr (.inr ⟨z, rfl, hz, h4.ok rfl C3 (VR.str _)⟩)
    · rw [show slV (.str z) l u = M.bad from by simp only [slV, hz, if_false]] at h4
      exact h4.elim
  | _ => exact h4.elim
end
end Pu
set_option Elab.async false
set_option linter.all false
set_option maxRecDepth 100000
namespace Pu
open PySem PySem.Spec PyProof.Rows L2
def setsS : List Nat → List V → Sig → Sig
  | i :: is, u :: us, σ => setsS is us (σ.set i (some u))
  | _, _, σ => σ
section
variable {K : PySem.W.Frag} {W : WX} {B : Bg} {F H : Hp} {D : Ends}
theorem RRs.setOwn {e : Ev} {σ : Sig} {i : Nat} {t : Addr} {v : Val} {rs : List RV} {us : List V} (h : RRs K B F H e σ rs us) (n : noBor rs = true) (d : ∀ (j : Nat) w, rs[j]? = some (.tmp w) → us[j]? ≠ some (.ref t)) :
    RRs K B F H (e.set i (.own v)) (σ.set i (some (.ref t))) rs us := by
  induction h with
  | nil => exact .nil
  | cons r c q ih =>
    rename_i r' u' rs us
    refine .cons ?_ c (ih ?_ fun j w z => ?_)
    · cases r' with
      | dat w => exact r
      | bor j => cases n
      | tmp w =>
        obtain ⟨t', z1, z2, z3, z4, z5⟩ := r
        refine ⟨t', z1, z2, z3, fun ⟨j, x, y1, y2⟩ => ?_, z5⟩
        rcases getset y1 with ⟨z, _, _⟩ | ⟨z, y1⟩
        · subst z
          rcases getset y2 with ⟨_, y3, _⟩ | ⟨z', _⟩
          · have et : V.ref t' = V.ref t := Option.some.inj y3
            exact d 0 w rfl (by rw [z1, et]; rfl)
          · exact z' rfl
        · rw [List.getElem?_set_ne z] at y2
          exact z4 ⟨j, x, y1, y2⟩
    · cases r' <;> first | exact n | cases n
    · have := d (j + 1) w (by simpa using z)
      simpa using this
theorem RRs.setDat {e : Ev} {σ : Sig} {i : Nat} {u : V} {v : Val} {rs : List RV} {us : List V} (h : RRs K B F H e σ rs us) (n : noBor rs = true) : RRs K B F H (e.set i (.dat v)) (σ.set i (some u)) rs us := by
  induction h with
  | nil => exact .nil
  | cons r c q ih =>
    rename_i r' u' rs us
    refine .cons ?_ c (ih ?_)
    · cases r' with
      | dat w => exact r
      | bor j => cases n
      | tmp w =>
        obtain ⟨t', z1, z2, z3, z4, z5⟩ := r
        exact ⟨t', z1, z2, z3, fun z => z4 (z.unset Slot.dat_ne), z5⟩
    · cases r' <;> first | exact n | cases n
theorem sets_ok : ∀ {is : List Nat} {rs : List RV} {us : List V} {e : Ev} {σ : Sig}, Cur K B F H e σ → RRs K B F H e σ rs us → noBor rs = true → ((∀ i ∈ is, B.np ≤ i) ∨ ∀ r ∈ rs, ∃ v, r = .dat v) → Cur K B F H (setsE is rs e) (setsS is us σ)
  | [], rs, us, e, σ, C, _, _, _ => by cases rs <;> cases us <;> exact C
  | i :: is, _, _, e, σ, C, .nil, _, _ => C
  | i :: is, r :: rs, u :: us, e, σ, C, .cons a d t, n, hp => by
    have n' : noBor rs = true := by cases r <;> first | exact n | cases n
    have hp' : (∀ i ∈ is, B.np ≤ i) ∨ ∀ r ∈ rs, ∃ v, r = .dat v := by
      rcases hp with hp | hp
      · exact .inl fun j hj => hp j (List.mem_cons_of_mem _ hj)
      · exact .inr fun j hj => hp j (List.mem_cons_of_mem _ hj)
    show Cur K B F H (setsE is rs (e.set i (slotOf r))) (setsS is us (σ.set i (some u)))
    cases r with
    | dat v => exact sets_ok (C.setDat a) (t.setDat n') n' hp'
    | bor j => cases n
    | tmp v =>
      have hi : B.np ≤ i := by
        rcases hp with hp | hp
        · exact hp i (List.mem_cons_self ..)
        · obtain ⟨w, z⟩ := hp _ (List.mem_cons_self ..); cases z
      obtain ⟨a0, rfl, x2, x3, x4, x5⟩ := a
      exact sets_ok (C.setOwn x2 x3 x4 x5 hi) (t.setOwn n' fun j w z => d v rfl j w z) n' hp'
end
theorem noBor_dat : ∀ {vs : List Val}, noBor (vs.map .dat) = true
  | [] => rfl
  | _ :: vs => noBor_dat (vs := vs)
section
variable {X : Cx} {W : WX} {np k : Nat} {a b c : Expr} {ms : M (List RV)} {px py pz pt pos : Pos} {x y z : Str} {kt : Nat}
theorem par_ok {K : PySem.W.Frag} {B : Bg} {F H : Hp} {e : Ev} {σ : Sig} {D : Ends} {p : Bool} {is : List Nat} {rs : List RV} {us : List V} (hp : p = true ∨ ∀ i ∈ is, B.np ≤ i) (C : Cur K B F H e σ) (q : RRs K B F H e σ rs us)
    (h : AtS K W B (if rs.length = is.length then (if noBor rs = true ∧ p = false then fun e => .ok .nx (setsE is rs e) else (M.dts rs).bind fun vs => fun e => .ok .nx (setsE is (vs.map .dat) e)) else M.bad) F e σ H D) : us.length = is.length ∧ D.nx (setsS is us σ) H := by
  by_cases hl : rs.length = is.length
  · rw [if_pos hl] at h
    refine ⟨q.length.symm.trans hl, ?_⟩
    by_cases hb : noBor rs = true ∧ p = false
    · rw [if_pos hb] at h
      refine h.nx rfl (sets_ok C q hb.1 (.inl ?_))
      rcases hp with hp | hp
      · rw [hb.2] at hp; cases hp
      · exact hp
    · rw [if_neg hb] at h
      obtain ⟨F2, e2, vs, C2, _, r2, h2⟩ := AtS.dts C q h
      refine h2.nx rfl (sets_ok C2 (RRs.dats r2) noBor_dat (.inr fun r hr => ?_))
      obtain ⟨v, _, z⟩ := List.mem_map.mp hr
      exact ⟨v, z.symm⟩
  · rw [if_neg hl] at h
    exact h.elim
theorem ss_par (i j : Nat) (p : Bool) {k2 pt2} (G : Good X k W) (ha : SA X W [a, b] ms) (hp : p = true ∨ ∀ n ∈ [i, j], np ≤ n := by decide) (hij : i ≠ j := by decide) (hi : X.N[i]? = some x := by rfl) (hj : X.N[j]? = some y := by rfl)
    (hx : X.env.scope.names.lookup x = some .local := by rfl) (hy : X.env.scope.names.lookup y = some .local := by rfl)
    (hw : swappedStores [.Tuple [.Name x px, .Name y py] kt pt] (.Tuple [a, b] k2 pt2) X.env = pure (some [x, y]) := by rfl)
    (hs : swapsWithSole [.Tuple [.Name x px, .Name y py] kt pt] (.Tuple [a, b] k2 pt2) pos.line X.env = pure false := by rfl) :
    SS X W np (.Assign [.Tuple [.Name x px, .Name y py] kt pt] (.Tuple [a, b] k2 pt2) pos) (mPar p [i, j] ms) := by
  refine PS.imp (ps_par G.calm G.nd hi hj hij hx hy ha hw hs) fun D σ H h => ?_
  obtain ⟨F, e, R, h⟩ := h
  refine useX (R1 := RRs X.K) (Cur.refl R) h fun rs e1 F1 H1 us C1 q1 _ h1 => ?_
  obtain ⟨l, w⟩ := par_ok hp C1 q1 h1
  match us, l, w with
  | [u, v], _, w => exact ⟨u, v, rfl, w⟩
theorem ss_par3 (i j l : Nat) (p : Bool) {k2 pt2} (G : Good X k W) (ha : SA X W [a, b, c] ms) (hp : p = true ∨ ∀ n ∈ [i, j, l], np ≤ n := by decide) (hij : i ≠ j := by decide) (hil : i ≠ l := by decide) (hjl : j ≠ l := by decide) (hi : X.N[i]? = some x := by rfl) (hj : X.N[j]? = some y := by rfl) (hl : X.N[l]? = some z := by rfl)
    (hx : X.env.scope.names.lookup x = some .local := by rfl) (hy : X.env.scope.names.lookup y = some .local := by rfl) (hz : X.env.scope.names.lookup z = some .local := by rfl)
    (hw : swappedStores [.Tuple [.Name x px, .Name y py, .Name z pz] kt pt] (.Tuple [a, b, c] k2 pt2) X.env = pure (some [x, y, z]) := by rfl)
    (hs : swapsWithSole [.Tuple [.Name x px, .Name y py, .Name z pz] kt pt] (.Tuple [a, b, c] k2 pt2) pos.line X.env = pure false := by rfl) :
    SS X W np (.Assign [.Tuple [.Name x px, .Name y py, .Name z pz] kt pt] (.Tuple [a, b, c] k2 pt2) pos) (mPar p [i, j, l] ms) := by
  refine PS.imp (ps_par3 G.calm G.nd hi hj hl hij hil hjl hx hy hz ha hw hs) fun D σ H h => ?_
  obtain ⟨F, e, R, h⟩ := h
  refine useX (R1 := RRs X.K) (Cur.refl R) h fun rs e1 F1 H1 us C1 q1 _ h1 => ?_
  obtain ⟨l, w⟩ := par_ok hp C1 q1 h1
  match us, l, w with
  | [u, v, w'], _, w => exact ⟨u, v, w', rfl, w⟩
end
def mAug (i : Nat) (f : Val → Val → M RV) (m : M RV) : S := (mVar i).bind fun r => match r with
  | .dat v => m.bind fun s => (M.rd s).bind fun w => (f v w).bind fun z => match z with
    | .dat v' => fun e => .ok .nx (e.set i (.dat v'))
    | _ => M.bad
  | _ => M.bad
def oAddI := oI fun i j => .int (i + j)
theorem v_addI {K : PySem.W.Frag} {W : WX} : OpV K W oAddI (rI0 fun i j => .int (i + j)) := opv_I fun _ _ _ => .int _
section
variable {K : PySem.W.Frag} {W : WX} {α β : Type} {R1 : Bg → Hp → Hp → Ev → Sig → α → β → Prop} {B : Bg} {F H : Hp} {e : Ev} {σ : Sig} {D : Ends}
theorem AtS.part [Carry K R1] {m : M α} {f : α → S} {G : β → Hp → Prop} (C : Cur K B F H e σ) (h : AtS K W B (m.bind f) F e σ H D)
    (k : ∀ r e1 F1 H1 x, Cur K B F1 H1 e1 σ → R1 B F1 H1 e1 σ r x → Cur K (bg B.np F H e σ) F1 H1 e1 σ → AtS K W B (f r) F1 e1 σ H1 D → G x H1) : At K W R1 (bg B.np F H e σ) m F e σ H G := by
  unfold AtS M.bind at h
  unfold At
  cases hm : m e with
  | bad => rw [hm] at h; exact h
  | rs x e' =>
    rw [hm] at h
    exact fun F' H' cls d C' X' => h F' H' σ cls d (C.trans C') X'
  | ok r e' =>
    rw [hm] at h
    exact fun F' H' u C' r' => k r e' F' H' u (C.trans C') (Carry.out C r') C' h
end
theorem ss_aug {X : Cx} {W : WX} {np k : Nat} (i : Nat) {x : Str} {e : Expr} {op : Operator} {f : Val → Val → M RV} {r : R2} {m : M RV} {pos pos' : Pos} (G : Good X k W) (ho : OpR X (inplaceOp op) r) (hv : OpV X.K W f r) (hm : SE X W e m) (hi : X.N[i]? = some x := by rfl) (hx : Loc X.env.scope x := by first | exact Or.inl rfl | exact Or.inr rfl)
    (hf : X.fn x = true ∨ X.env.scope.names.lookup x = some .local := by first | exact .inl rfl | exact .inr rfl) : SS X W np (.AugAssign (.Name x pos') op e pos) (mAug i f m) := by
  refine PS.imp (ps_aug (ti := r) G.nd hi hx hm ho hf) fun D σ H h => ?_
  obtain ⟨F, e, R, h⟩ := h
  cases z : e[i]? with
  | none => unfold AtS mAug M.bind mVar at h; simp only [z] at h
  | some s =>
    have il : i < σ.length := R.len ▸ (List.getElem?_eq_some_iff.mp z).1
    have ho' : σ[i]? = some σ[i] := List.getElem?_eq_getElem il
    cases s with
    | un => unfold AtS mAug M.bind mVar at h; simp only [z] at h
    | own v => unfold AtS mAug M.bind mVar at h; simp only [z] at h; exact h.elim
    | dat v =>
      obtain ⟨u, h1, h2⟩ := R.slot i _ _ z ho'
      have C := Cur.refl (np := np) R
      have h3 : AtS X.K W (bg np F H e σ) (m.bind fun s => (M.rd s).bind fun w => (f v w).bind fun z => match z with
        | .dat v' => fun e => .ok .nx (e.set i (.dat v'))
        | _ => M.bad) F e σ H D := by
        unfold AtS mAug at h
        unfold AtS
        unfold M.bind at h ⊢
        unfold mVar at h
        simp only [z] at h
        exact h
      refine ⟨u, by rw [ho', h1], useX (R1 := RR X.K) C h3 fun s e1 F1 H1 y C1 q1 c1 h4 => ?_⟩
      obtain ⟨w, rw_, h5⟩ := AtS.rd C1.rel q1 h4
      refine hv (Cur.refl (np := (bg np F H e σ).np) C1.rel) (.inl (h2.mono c1.post.sub)) rw_ (AtS.part (R1 := RR X.K) C1 h5 fun z e2 F2 H2 t C2 q2 c2 h6 => ?_)
      cases z with
      | dat v' => exact h6.nx rfl (C2.setDat q2)
      | _ => exact h6.elim
def mRep (a b : M RV) : M RV := a.bind fun r => b.bind fun s => (M.rd s).bind fun k => match r, k with
  | .tmp (.lst xs), .int n => if -9223372036854775808 ≤ n ∧ n < 9223372036854775808 ∧ xs.length * n.toNat ≤ sizeLine then M.ret (.tmp (.lst (List.replicate n.toNat xs).flatten)) else M.bad
  | _, _ => M.bad
theorem VRs.rep {K : PySem.W.Frag} {F : Hp} {vs : List Val} {us : List V} (h : VRs K F vs us) : ∀ n : Nat, VRs K F (List.replicate n vs).flatten (List.replicate n us).flatten
  | 0 => .nil
  | n + 1 => by
    rw [List.replicate_succ, List.replicate_succ, List.flatten_cons, List.flatten_cons]
    exact h.append (VRs.rep h n)
theorem se_rep {X : Cx} {W : WX} {a b : Expr} {ma mb : M RV} {pos : Pos} (ha : SE X W a ma) (hb : SE X W b mb) : SE X W (.BinOp a .Mult b pos) (mRep ma mb) := by
  refine PE.imp (pe_op op_rep ha hb) fun σ H Q h => ?_
  obtain ⟨np, F, e, R, h⟩ := h
  refine use (R1 := RR X.K) (Cur.refl R) h fun r e1 F1 H1 x C1 q1 _ h1 => ?_
  refine use (R1 := RR X.K) C1 h1 fun s e2 F2 H2 y C2 q2 c2 h2 => ?_
  obtain ⟨k, rk, h3⟩ := At.rd C2.rel q2 h2
  have q1' := q1.carry c2
  cases r with
  | tmp v => cases v with
    | lst xs => cases k with
      | int n =>
        dsimp only at h3
        by_cases hh : -9223372036854775808 ≤ n ∧ n < 9223372036854775808 ∧ xs.length * n.toNat ≤ sizeLine
        · rw [if_pos hh] at h3
          obtain ⟨t, rfl, z2, ⟨us, z3, z4⟩, z5, z6⟩ := q1'
          refine ⟨t, n, us, rfl, rk.int, z3, by simpa using hh.1, by simpa using hh.2.1, by rw [← z4.length]; exact hh.2.2, fun p hp => ?_⟩
          obtain ⟨C3, n3, f3, m3⟩ := C2.grow (o := .lst (List.replicate n.toNat us).flatten) hp
          exact h3.ok (r := RV.tmp (.lst (List.replicate n.toNat xs).flatten)) rfl C3 ⟨p, rfl, f3, ⟨_, upd_same, z4.rep _⟩, n3, m3⟩
        · rw [if_neg hh] at h3
          exact h3.elim
      | _ => exact h3.elim
    | _ => cases k <;> exact h3.elim
  | dat v => cases k <;> exact h3.elim
  | bor i => cases k <;> exact h3.elim
structure Isi (K : PySem.W.Frag) (C : Addr) : Prop where
  cls : Cls K C
  at_ : PySem.W.findIn K (.ref C) "__class__" = some (some (.builtin "object.__class__"))
  get : PySem.W.specialIn K (.builtin "object.__class__") "__get__" = some (some (.builtin "getset_descriptor.__get__"))
  tak : PySem.W.takesIn K (.builtin "object.__class__") = some true
  obj : PySem.W.mroIn K C (.type "object") = some true
structure TOk (K : PySem.W.Frag) (T : List (Tg × Tg × Bool)) : Prop where
  ans : ∀ e ∈ T, PySem.W.kitOne K (tagT K e.1) (tagT K e.2.1) = some e.2.2
  own : ∀ e ∈ T, ∀ C, e.1 = .inr C → Isi K (He.ga K C)
theorem tag_of {K : PySem.W.Frag} {F H : Hp} {v : Val} {u : V} {a : Tg} (s : Same F H) (r : RdR K F H v u) (h : tagV v = some a) (own : ∀ C, a = .inr C → Isi K (He.ga K C)) : TyX K H u (tagT K a) := by
  cases v with
  | non => cases h; rw [r.non]; exact .base .non
  | bl b => cases h; rw [r.bl]; exact .base (.bl b)
  | int i => cases h; rw [r.int]; exact .base (.int i)
  | str x => cases h; rw [r.str]; exact .base (.str x)
  | ty n => cases h
  | glo x => cases h
  | tup xs =>
    cases h
    obtain ⟨p, us, rfl, z, _⟩ := r.tup s
    rcases z with (z | ⟨o, z⟩) | ⟨o, its, n, z1, z2, _⟩
    · exact .base (.tup z)
    · exact .fTuple z
    · exact .kTuple z1 z2
  | lst xs =>
    cases h
    obtain ⟨p, us, rfl, z, _⟩ := r.lst s
    rcases z with z | ⟨o, z⟩
    · exact .base (.lst z)
    · exact .base (.frz z)
  | obj C fs vs =>
    cases h
    obtain ⟨p, dx, us, rfl, z, _⟩ := r.obj s
    obtain ⟨i1, i2, i3, i4, i5⟩ := own C rfl
    exact .base (.ins z i1 i2 i3 i4 i5)
  | dct ks vs =>
    cases h
    obtain ⟨p, us, rfl, z, _⟩ := r.dct s
    exact .base (.dK z)
theorem v_isi {K : PySem.W.Frag} {W : WX} {T : List (Tg × Tg × Bool)} (hT : TOk K T) : FnV K W (fIsi T) (rIsi K) := by
  intro B F H e σ vs us Q C r h
  unfold fIsi at h
  split at h
  · rename_i v c
    split at h
    · rename_i a b ha hb
      cases z : T.find? fun e => decide (e.1 = a ∧ e.2.1 = b) with
      | none => simp only [z] at h; exact h.elim
      | some en =>
        simp only [z] at h
        obtain ⟨u, w, rfl, r1, r2⟩ := r.two
        have m := List.mem_of_find?_eq_some z
        have p := List.find?_some z
        have p' : en.1 = a ∧ en.2.1 = b := of_decide_eq_true p
        obtain ⟨rfl, rfl⟩ := p'
        refine ⟨u, w, _, tagT K en.2.1, en.2.2, rfl, ?_, tag_of C.rel.sub r1 ha (hT.own en m), hT.ans en m, h.ok rfl C (VR.bl _)⟩
        cases c with
        | ty n => cases hb' : en.2.1 with
          | inl n' =>
            rw [hb'] at hb
            cases hb
            rw [r2.ty]
            exact .ty n
          | inr C' => rw [hb'] at hb; cases hb
        | glo D => cases hb' : en.2.1 with
          | inr C' =>
            rw [hb'] at hb
            cases hb
            rw [r2.glo]
            exact .own _
          | inl n' => rw [hb'] at hb; cases hb
        | _ => cases hb
    · exact h.elim
  · exact h.elim
end Pu
set_option Elab.async false
set_option linter.all false
set_option maxRecDepth 100000
set_option maxHeartbeats 2000000
namespace Pu
open PySem PySem.Spec PyProof.Rows L2
def TabsB (K : PySem.W.Frag) (mg : Str → Option Value) (base : Heap) : Prop := ∀ p ∈ tabs3 K, LamX.TabB base mg p.1 p.2.1
theorem mem_tabs {K : PySem.W.Frag} {p : Addr × Str} (h : p ∈ tabsOf K) : ∃ c, (c, p) ∈ tabs3 K := by
  unfold tabsOf at h
  obtain ⟨q, h1, rfl⟩ := List.mem_map.mp h
  exact ⟨q.1, h1⟩
theorem law_goes {P : Program} {w : World} {K : PySem.W.Frag} {mg mb : Str → Option Value} {k : Nat} {fa a : Addr} {fd : FuncData} {x : Str} {sp : Sp} {s : Shared} {vs : List Value} {ns : List Int}
    (inK : K.In s.heap) (nl : ∀ b o, K.lookup b = some o → o.cls ≠ .type "list") (te : TabsE K s.heap) (globals : s.heap.Ns mainGlobals mg) (blts : s.heap.Ns builtinsNs mb) (boots : ∀ y : Str, y ≠ "__name__" → mb y = bootBuiltins y) (unlimited : s.heap.NoLimit) (calm : s.gens = #[])
    (hbm : ∃ (bm : Addr) (ob : Obj), mg "__builtins__" = some (.ref bm) ∧ bm ≠ builtinsNs ∧ s.heap.get? bm = some ob ∧ ob.cls = .type "module" ∧ ob.dict = some builtinsNs ∧ ob.data = .plain)
    (script : s.heap.get? a = some { cls := .type "list", data := .seq vs.toArray }) (allInt : IntsAre vs ns) (few : ns.length ≤ sizeLine) (room : Room k callerA)
    (F : ∀ base : Heap, K.In base → base.Ns mainGlobals mg → TabsB K mg base → FnG P w K mg base k fa fd [x] sp) (bt : ∀ (s : Shared) (u : Value), BindsTo s fd ⟨[u], []⟩ [(x, u)])
    (wish : ∀ H : Hp, Rd H a (.lst (ns.map V.int)) → LamX.Tabs (tabsOf K) H → sp [.ref a] H (fun v _ => v = .bl true) fun _ _ _ => False) :
    codeAny (model P w) callerA (.call (.ref fa) ⟨[.ref a], []⟩) (fun r s' => r = .ok (.ret (.bool true)) ∧ OldK s.heap s'.heap ∧ s'.os = s.os ∧ AllBare s'.gens) s := by
  have outK : K.lookup a = none := by
    cases q : K.lookup a with
    | none => rfl
    | some o =>
      have := inK a o q
      rw [script] at this
      cases this
      exact absurd rfl (nl a _ q)
  have tabAt : ∀ b, b ∈ (tabsOf K).map (·.1) → ∃ p ∈ tabs3 K, p.2.1 = b := fun b hb => by
    obtain ⟨p, hp, rfl⟩ := List.mem_map.mp hb
    obtain ⟨c, hc⟩ := mem_tabs hp
    exact ⟨_, hc, rfl⟩
  have tabIs : ∀ b, b ∈ (tabsOf K).map (·.1) → s.heap.get? b = some { cls := .none, data := .fields #[] } := fun b hb => by
    obtain ⟨p, hp, rfl⟩ := tabAt b hb
    exact te.empty p hp
  have tabMem : ∀ p ∈ tabs3 K, p.2.1 ∈ (tabsOf K).map (·.1) := fun p hp => List.mem_map.mpr ⟨p.2, List.mem_map.mpr ⟨p, hp, rfl⟩, rfl⟩
  have noTab : a ∉ (tabsOf K).map (·.1) := fun z => by
    have q := tabIs a z
    rw [script] at q
    cases (congrArg Obj.data (Option.some.inj q) : Data.seq vs.toArray _ = Data.fields #[])
  -- the script and the tables are tracked; nobody writes the script
  obtain ⟨H, here, tabs, only⟩ : ∃ H : Hp, H a = some (.frz { cls := .type "list", data := .seq vs.toArray } (.lst (ns.map V.int))) ∧ (∀ b, b ∈ (tabsOf K).map (·.1) → H b = some (.tbl #[])) ∧ ∀ b, b ≠ a → b ∉ (tabsOf K).map (·.1) → H b = none :=
    ⟨fun b => if b = a then some (.frz { cls := .type "list", data := .seq vs.toArray } (.lst (ns.map V.int))) else if b ∈ (tabsOf K).map (·.1) then some (.tbl #[]) else none, if_pos rfl, fun b hb => (if_neg fun z => noTab (by rw [← z]; exact hb)).trans (if_pos hb), fun b ne nt => (if_neg ne).trans (if_neg nt)⟩
  have sound : HOk P w H s.heap := fun b u z => by
    by_cases ne : b = a
    · subst ne
      rw [here] at z
      cases z
      exact ⟨script, by rw [List.length_map]; exact few, vs, _, vals_ints allInt, script⟩
    · by_cases hb : b ∈ (tabsOf K).map (·.1)
      · rw [tabs b hb] at z
        cases z
        exact tabIs b hb
      · rw [only b ne hb] at z; cases z
  have under : ∀ {b : Addr} {o : Obj}, s.heap.get? b = some o → b ≠ a → o ≠ { cls := .none, data := .fields #[] } → (hidT s.heap H).get? b = some o := fun {b o} e ne nt => hidT_get e (only _ ne fun hb => nt (Option.some.inj (e.symm.trans (tabIs b hb))))
  have table : ∀ {b : Addr} {m : Str → Option Value}, s.heap.Ns b m → (hidT s.heap H).Ns b m := fun {b m} h => by
    obtain ⟨o, es, ep, e, d, r⟩ := h
    refine ⟨o, es, ep, under e (fun z => ?_) (fun z => ?_), d, r⟩
    · subst z
      rw [script] at e
      cases e
      cases (show Data.seq vs.toArray _ = Data.dict es ep from d)
    · subst z
      cases (show Data.fields #[] = Data.dict es ep from d)
  have inB : K.In (hidT s.heap H) := fun b o e => hidT_get (inK b o e) (only b (fun z => by rw [z, outK] at e; cases e) fun hb => by
    obtain ⟨p, hp, rfl⟩ := tabAt b hb
    rw [te.out p hp] at e; cases e)
  have module_ : Mod K mg (hidT s.heap H) := by
    obtain ⟨mc, u1, u2⟩ := unlimited
    exact ⟨inB, table globals, ⟨mb, table blts, boots⟩, ⟨mc, table u1, u2⟩⟩
  have noFrame : ∀ b, b ∈ frs ([] : List Env) → False := fun b hb => by
    have : b ∈ ([] : List Addr) := hb
    simp at this
  have TB : TabsB K mg (hidT s.heap H) := fun p hp => by
    refine ⟨PySem.W.codeHd_of_K inB (te.hd p hp), ?_, fun z => ?_⟩
    · obtain ⟨bm, ob, b1, b2, b3, b4, b5, b6⟩ := hbm
      have nG : bm ≠ mainGlobals := fun q => by
        obtain ⟨o, es, ep, e, hd, _⟩ := globals
        rw [q, e] at b3
        cases b3
        rw [hd] at b6
        cases b6
      have nP : bm ≠ p.2.1 := fun q => by
        rw [q, te.empty p hp] at b3
        cases b3
        cases b6
      refine ⟨bm, ob, b1, b2, nG, nP, under b3 (fun q => ?_) (fun q => ?_), b4, b5, b6⟩
      · rw [q, script] at b3
        cases b3
        cases b6
      · rw [q] at b6
        cases b6
    · obtain ⟨o, es, ep, e, hd, _⟩ := globals
      rw [z, te.empty p hp] at e
      cases e
      cases hd
  have start : Env0 P w K mg (hidT s.heap H) callerA [] s H := ⟨rfl, module_, fun _ _ e => of_hidT e, Nat.le_of_eq (hidT_size _ _), trivial, fun b hb => (noFrame b hb).elim, sound, .of_eq calm⟩
  have tabsH : LamX.Tabs (tabsOf K) H := fun p hp => LamX.TabS.nil (tabs _ (List.mem_map.mpr ⟨p, hp, rfl⟩))
  have runs := (F _ inB (table globals) TB).goes callerA [] s H ⟨[.ref a], []⟩ [.ref a] [.ref a] _ _ room rfl start (bt s (.ref a)) (.cons rfl .nil) (wish H (.inr ⟨_, here⟩) tabsH)
  refine codeAny_mono runs fun res s' got => ?_
  match res, got with
  | .error z, got =>
    obtain ⟨_, _, _, _, _, _, _, _, _, _, _, _, no⟩ := got
    exact no.elim
  | .ok (.ret u), got =>
    obtain ⟨v, H', sameOs, bare, kept, sound', rel, isTrue⟩ := got
    have isTrue' : v = .bl true := isTrue
    subst isTrue'
    have eu : u = Value.bool true := rel
    have grown : ∀ b, b ∈ (tabsOf K).map (·.1) → ∃ more : Array Value, s'.heap.get? b = some { cls := .none, data := .fields more } := fun b hb => by
      obtain ⟨more, z⟩ := kept.tbls b #[] (tabs b hb)
      exact ⟨_, sound' b _ z⟩
    have stays : ∀ b o, b ∉ (tabsOf K).map (·.1) → s.heap.get? b = some o → s'.heap.get? b = some o := fun b o nb e => by
      by_cases ne : b = a
      · subst ne
        have still := (sound' b _ (kept.frzs b _ _ here)).1
        rw [script] at e
        cases e
        exact still
      · exact kept.keep b o e (only b ne nb) (fun hb => noFrame b hb) (by simp)
    refine ⟨by rw [eu], ⟨fun b o e => ?_, fun b o e => ?_⟩, sameOs, bare⟩
    · by_cases hb : b ∈ (tabsOf K).map (·.1)
      · obtain ⟨more, hm⟩ := grown b hb
        obtain ⟨p, hp, rfl⟩ := tabAt b hb
        have e' := te.empty p hp
        rw [e] at e'
        cases e'
        exact .inr (.inl ⟨((PySem.W.codeHd_of_K inK (te.hd p hp)).tab e).isCodeTable, rfl, #[], more, rfl, by rw [Array.empty_append]; exact hm⟩)
      · exact .inl (stays b o hb e)
    · by_cases hb : b ∈ (tabsOf K).map (·.1)
      · obtain ⟨more, hm⟩ := grown b hb
        exact ⟨_, hm⟩
      · exact ⟨o, stays b o hb e⟩
theorem prop_ok {K : PySem.W.Frag} {C f : Str} (h : (Fy.prop C f).ok K = true) : PropOf K (He.ga K C) f (He.ma K (He.ga K C) f) (gA K C f) := by
  unfold Fy.ok at h
  simp only [Bool.and_eq_true, decide_eq_true_eq] at h
  obtain ⟨h1, h2, h3, h4⟩ := h
  refine ⟨He.eqO_ok h1, He.eqO_ok h2, h3, ?_⟩
  unfold gA
  split at h4
  · rename_i g rest e
    exact ⟨rest, by rw [e]⟩
  · cases h4
theorem isi_ok {K : PySem.W.Frag} {C : Str} (h : (Fy.isi C).ok K = true) : Isi K (He.ga K C) := by
  unfold Fy.ok at h
  simp only [Bool.and_eq_true, decide_eq_true_eq] at h
  obtain ⟨h1, h2, h3, h4, h5⟩ := h
  exact ⟨He.cls_ok h5, He.eqO_ok h1, He.eqO_ok h2, h3, h4⟩
theorem kit_ok {K : PySem.W.Frag} {a b : Tg} {r : Bool} (h : (Fy.kit a b r).ok K = true) : PySem.W.kitOne K (tagT K a) (tagT K b) = some r := of_decide_eq_true h
theorem noLists_ok {K : PySem.W.Frag} (h : noLists K = true) : ∀ b o, K.lookup b = some o → o.cls ≠ .type "list" := by
  intro b o e z
  have go : ∀ {l : List (Addr × Obj)}, l.lookup b = some o → (b, o) ∈ l := fun {l} => by
    induction l with
    | nil => intro q; cases q
    | cons p l ih =>
      intro q
      obtain ⟨c, d⟩ := p
      by_cases hc : b = c
      · subst hc
        rw [List.lookup_cons_self] at q
        cases q
        exact List.mem_cons_self ..
      · rw [List.lookup_cons, beq_eq_false_iff_ne.mpr hc] at q
        exact List.mem_cons_of_mem _ (ih q)
  have := List.all_eq_true.mp h _ (go e)
  simp only [z] at this
  simp at this
theorem walk_goes {l : PySem.W.OpenLaw} {n k : Nat} {q : Program} {loose : List Str} {XP : (Str → Option Value) → Heap → Prop} {YP : World → Heap → Prop} {d : DefRec} {x : Str}
    (hn : l.most = some n) (hn2 : n ≤ sizeLine) (hdf : d.params.defaults = []) (room : Room k callerA)
    (F : ∀ (w : World) (mg : Str → Option Value) (fa : Addr) (h : Heap), YP w h → h.Ns mainGlobals mg → mg d.name = some (.ref fa) →
      ∃ (K : PySem.W.Frag) (fd : FuncData) (f : M RV), K.In h ∧ noLists K = true ∧ TabsE K h ∧ (∀ (s : Shared) (u : Value), BindsTo s fd ⟨[u], []⟩ [(x, u)]) ∧
        (∀ ns : List Int, ns.length ≤ n → ∃ e', f [.dat (.lst (ns.map .int))] = .ok (.dat (.bl true)) e') ∧
        ∀ base : Heap, K.In base → base.Ns mainGlobals mg → TabsB K mg base → FnG l.prog w K mg base k fa fd [x] (spG K 1 f)) :
    PySem.W.WalkO q loose XP YP l.row.toRowW d [] (fun f vs => PySem.call f vs) := by
  refine Att.attach_call hn hdf fun w s₀ s₁ mg mb fa o pm cd doc a vs ns G Y ho hd hcd hmg script allInt hlen calm => ?_
  obtain ⟨K, fd, f, inK, nl, te, bt, good, prom⟩ := F w mg fa _ Y G.T.g hmg
  refine law_goes inK (noLists_ok nl) te G.T.g G.T.b G.T.builtins G.T.nolimit calm G.T.bmain script allInt (Nat.le_trans hlen hn2) room prom bt fun H rd tb => ?_
  have iv : ∀ {F : Hp} {ns : List Int}, VRs K F (ns.map .int) (ns.map V.int) := fun {F ns} => by
    induction ns with
    | nil => exact .nil
    | cons i ns ih => exact .cons (.int i) ih
  -- known from the beginning: the script alone
  obtain ⟨F0, f1, f2⟩ : ∃ F0 : Hp, F0 a = H a ∧ ∀ b, b ≠ a → F0 b = none := ⟨fun b => if b = a then H b else none, if_pos rfl, fun b ne => if_neg ne⟩
  have rel : Rel K F0 H [.dat (.lst (ns.map .int))] [some (V.ref a)] := by
    refine ⟨fun b o q => ?_, rfl, fun i sl o h1 h2 => ?_, fun i j v w b h1 => ?_, tb, fun b ps q => ?_⟩
    · by_cases ne : b = a
      · subst ne; rw [f1] at q; exact q
      · rw [f2 b ne] at q; cases q
    · cases i with
      | zero =>
        cases h1; cases h2
        refine ⟨_, rfl, .lst ?_ iv⟩
        rcases rd with q | ⟨o, q⟩
        · exact .inl (f1.trans q)
        · exact .inr ⟨o, f1.trans q⟩
      | succ i => simp at h1
    · cases i with
      | zero => cases h1
      | succ i => simp at h1
    · by_cases ne : b = a
      · subst ne
        rw [f1] at q
        rcases rd with z | ⟨o, z⟩ <;> rw [z] at q <;> cases q
      · rw [f2 b ne] at q; cases q
  obtain ⟨e', he⟩ := good ns hlen
  refine ⟨rfl, 1, F0, _, rel, ?_⟩
  unfold At
  rw [he]
  intro F' H' u C r
  cases r
  rfl
end Pu
set_option Elab.async false
set_option linter.all false
set_option maxRecDepth 100000
namespace Pu
open PySem PySem.Spec PyProof.Rows L2
theorem noTakes {X : Cx} : L2N.Takes X noW := by
  intro u s' q
  obtain ⟨_, _, _, _, _, _, _, _, _, _, _, _, _, _, _, _, _, no⟩ := q
theorem Good.blk {X : Cx} {k : Nat} {W : WX} (G : Good X k W) {s : Shared} {H : Hp} {scope : Scope} {cenv : Env} {fp : List Addr} : Good (X.blk s H scope cenv fp) k noW :=
  ⟨G.nd, G.calm, G.room, G.gd, noTakes, PassesOwn.never⟩
structure BindK (d : He5.DefA) (ps : List Str) (n : Nat) (ks : List Str) (g : List Nat) : Prop where
  dfl : d.dfl = []
  nd : g.Nodup
  all : ∀ (kV doc pm : Value) (an : Option Addr) (cdv ct : Value) (us ws : List Value), us.length = n → ws.length = ks.length → bindArgs (PySem.W.fnOf d.name d.qual d.params d.body d.scope .none kV doc pm an cdv ct) ⟨us, ks.zip ws⟩ = pure (ps.zip (sel g (us ++ ws)))
section
variable {P : Program} {w : World} {K : PySem.W.Frag} {mg : Str → Option Value} {base : Heap} {k j n : Nat} {d : He5.DefA} {ps : List Str} {m : M RV}
theorem FnB.up (B : FnB P w K mg base j d ps n m) (h : j ≤ k := by decide) : FnB P w K mg base k d ps n m := by
  obtain ⟨fd, D, F⟩ := B.ex
  exact ⟨fd, D, F.up h⟩
theorem FnB.partsK {ks : List Str} {g : List Nat} {c : Nat} (B : FnB P w K mg base k d ps n m) (bd : BindK d ps c ks g) : ∃ fd, FnG P w K mg base k (d.at_ K) fd ps (spG K n m) ∧ KB K fd ps c ks g ∧ PySem.W.keepIn K (.ref (d.at_ K)) = true := by
  obtain ⟨fd, D, F⟩ := B.ex
  refine ⟨fd, F, ?_, D.kp⟩
  have e : d.dvs K = [] := by unfold He5.DefA.dvs; rw [bd.dfl]; rfl
  rw [e] at D
  exact kb_of D bd.nd bd.all
theorem fnB_of {N : List Str} {nn : Nat} {mb : S} (D : ∃ fd, FunD K d.name d.qual d.params d.body d.scope (d.dvs K) (d.kws K) (d.at_ K) fd) (S : FnScope N ps d.scope) (h1 : ps.length = n) (h2 : N.length = nn)
    (hb : ∀ (cdv : Value) (A : Around) (outer : List Env) (s : Shared) (H : Hp) (E : XK), Good (cxOf (L2N.CX P w) P w K mg base N d.qual d.scope (d.at_ K) cdv A outer s H E) k (fun c d _ H => E c d H) →
      SB (cxOf (L2N.CX P w) P w K mg base N d.qual d.scope (d.at_ K) cdv A outer s H E) (fun c d _ H => E c d H) n d.body mb) : FnB P w K mg base (k + 1) d ps n (fnDen n nn mb) := by
  obtain ⟨fd, D⟩ := D
  exact ⟨fd, D, fn_ok D S h1 h2 hb⟩
end
section
variable {X : Cx} {W : WX} {k n : Nat} {d : He5.DefA} {ps : List Str} {x m : Str} {p pos apos : Pos} {e o : Expr} {es : List Expr} {mf mo : M RV} {mr mk : M (List RV)} {kws : List Keyword}
theorem se_callD (ms : List Bool) (B : FnB X.prog X.w X.K X.mg X.base k d ps n mf) (bd : BindD d ps) (G : Good X k W) (gl : Gl X x) (at_ : X.mg x = some (.ref (d.at_ X.K))) (ha : SA X W (e :: es) mr) (hn : ms.length = n := by rfl) (n1 : (x == ("__debug__" : Str)) = false := by decide)
    (n2 : starEach (e :: es) X.env = (false, eval e X.env) :: starEach es X.env := by rfl) (n3 : (backTo pos (starEach es X.env)).any (·.1) = false := by rfl) : SE X W (.Call (.Name x p) (e :: es) [] pos) (mCall ms mf mr []) := by
  obtain ⟨fd, F, hb, kp⟩ := B.parts bd
  exact se_call ms F G gl at_ kp hb .nil VC.nil ha hn n1 n2 n3
theorem se_callD0 (B : FnB X.prog X.w X.K X.mg X.base k d ps 0 mf) (bd : BindD d ps) (G : Good X k W) (gl : Gl X x) (at_ : X.mg x = some (.ref (d.at_ X.K))) (n1 : (x == ("__debug__" : Str)) = false := by decide) : SE X W (.Call (.Name x p) [] [] pos) (mCall [] mf mNil []) := by
  obtain ⟨fd, F, hb, kp⟩ := B.parts bd
  exact se_call0 [] F G gl at_ kp hb .nil VC.nil rfl n1
theorem se_callDK {ks : List Str} {g : List Nat} {c : Nat} (ms : List Bool) (B : FnB X.prog X.w X.K X.mg X.base k d ps n mf) (bd : BindK d ps c ks g) (G : Good X k W) (gl : Gl X x) (at_ : X.mg x = some (.ref (d.at_ X.K))) (ha : SA X W (e :: es) mr) (hk : SK X W kws mk) (hn : ms.length = n := by rfl)
    (k1 : (backToKw pos (keywordEach kws X.env)).all (·.1.isSome) = true := by rfl) (k2 : (backToKw pos (keywordEach kws X.env)).filterMap (·.1) = ks := by rfl) (n1 : (x == ("__debug__" : Str)) = false := by decide)
    (n2 : starEach (e :: es) X.env = (false, eval e X.env) :: starEach es X.env := by rfl) (n3 : ((backTo pos (starEach (e :: es) X.env)).any (·.1) || (backToKw pos (keywordEach kws X.env)).any (·.1.isNone)) = false := by rfl) : SE X W (.Call (.Name x p) (e :: es) kws pos) (mCallK ms mf mr mk c ks.length g) := by
  obtain ⟨fd, F, hb, kp⟩ := B.partsK bd
  exact se_callK ms F G gl at_ kp hb ha hk hn k1 k2 n1 n2 n3
theorem se_callDK0 {ks : List Str} {g : List Nat} (ms : List Bool) (B : FnB X.prog X.w X.K X.mg X.base k d ps n mf) (bd : BindK d ps 0 ks g) (G : Good X k W) (gl : Gl X x) (at_ : X.mg x = some (.ref (d.at_ X.K))) (hk : SK X W kws mk) (hn : ms.length = n := by rfl)
    (k1 : (backToKw pos (keywordEach kws X.env)).all (·.1.isSome) = true := by rfl) (k2 : (backToKw pos (keywordEach kws X.env)).filterMap (·.1) = ks := by rfl) (n1 : (x == ("__debug__" : Str)) = false := by decide)
    (n3 : ((backTo pos (starEach [] X.env)).any (·.1) || (backToKw pos (keywordEach kws X.env)).any (·.1.isNone)) = false := by rfl) : SE X W (.Call (.Name x p) [] kws pos) (mCallK ms mf mNil mk 0 ks.length g) := by
  obtain ⟨fd, F, hb, kp⟩ := B.partsK bd
  exact se_callK0 ms F G gl at_ kp hb hk hn k1 k2 n1 n3
theorem se_makeD {C : Str} (ms : List Bool) (Mk : Mk X.K (He.ga X.K C) (d.at_ X.K)) (B : FnB X.prog X.w X.K X.mg X.base k d ps n mf) (bd : BindD d ps) (G : Good X (k + 1) W) (gl : Gl X x) (at_ : X.mg x = some (.ref (He.ga X.K C))) (ha : SA X W (e :: es) mr) (hn : ms.length + 1 = n := by rfl) (n1 : (x == ("__debug__" : Str)) = false := by decide)
    (n2 : starEach (e :: es) X.env = (false, eval e X.env) :: starEach es X.env := by rfl) (n3 : (backTo pos (starEach es X.env)).any (·.1) = false := by rfl) : SE X W (.Call (.Name x p) (e :: es) [] pos) (mMake C ms mf mr []) := by
  obtain ⟨fd, F, hb, kp⟩ := B.parts bd
  exact se_make ms Mk F G gl at_ hb .nil VC.nil ha hn n1 n2 n3
theorem se_methD {pl : Sem Bool} {C : Str} (ms : List Bool) (ho : SE X W o mo) (c : Cls X.K (He.ga X.K C)) (hm : Meth X.K (He.ga X.K C) m (d.at_ X.K)) (B : FnB X.prog X.w X.K X.mg X.base k d ps n mf) (bd : BindD d ps) (G : Good X k W) (ha : SA X W (e :: es) mr) (hn : ms.length = n := by rfl)
    (n2 : starEach (e :: es) X.env = (false, eval e X.env) :: starEach es X.env := by rfl) (n3 : (backTo pos (starEach es X.env)).any (·.1) = false := by rfl)
    (look : eval (.Call (.Attribute o m apos) (e :: es) [] pos) X.env = (do
      let ov ← eval o X.env
      standAt apos.atName
      let (f, first) ← holding [ov] (getMethod ov m pl)
      callWith pos f first (backTo pos (starEach (e :: es) X.env)) (backToKw pos (keywordEach [] X.env))) := by rfl) : SE X W (.Call (.Attribute o m apos) (e :: es) [] pos) (mMeth C m ms mf mo mr []) := by
  obtain ⟨fd, F, hb, kp⟩ := B.parts bd
  exact se_meth ms ho c hm F G rfl hb .nil VC.nil ha hn n2 n3 look
theorem se_methD0 {pl : Sem Bool} {C : Str} (ms : List Bool) (ho : SE X W o mo) (c : Cls X.K (He.ga X.K C)) (hm : Meth X.K (He.ga X.K C) m (d.at_ X.K)) (B : FnB X.prog X.w X.K X.mg X.base k d ps n mf) (bd : BindD d ps) (G : Good X k W) (hn : ms.length = n := by rfl)
    (look : eval (.Call (.Attribute o m apos) [] [] pos) X.env = (do
      let ov ← eval o X.env
      standAt apos.atName
      let (f, first) ← holding [ov] (getMethod ov m pl)
      callWith pos f first (backTo pos (starEach [] X.env)) (backToKw pos (keywordEach [] X.env))) := by rfl) : SE X W (.Call (.Attribute o m apos) [] [] pos) (mMeth C m ms mf mo mNil []) := by
  obtain ⟨fd, F, hb, kp⟩ := B.parts bd
  exact se_meth0 ms ho c hm F G rfl hb .nil VC.nil hn look
theorem se_propD {C f : Str} (ho : SE X W o mo) (c : Cls X.K (He.ga X.K C)) {p : Addr} (hp : PropOf X.K (He.ga X.K C) f p (d.at_ X.K)) (B : FnB X.prog X.w X.K X.mg X.base k d ps 1 mf) (bd : BindD d ps) (G : Good X (k + 1) W)
    (plain : attributeBase o f X.env (eval o X.env) = eval o X.env := by rfl) : SE X W (.Attribute o f pos) (mProp C mf mo) := by
  obtain ⟨fd, F, hb, kp⟩ := B.parts bd
  exact se_prop ho c hp F G hb plain
end
section
variable {X : Cx} {W : WX} {x : Str} {pos : Pos}
theorem se_gInt {i : Int} (gl : Gl X x) (h : ∃ t, X.mg x = some (.int i t)) (hd : (x == ("__debug__" : Str)) = false := by decide) : SE X W (.Name x pos) (mV (.int i)) := by
  obtain ⟨t, e⟩ := h
  exact se_gloV (u := .int i) gl e ⟨t, rfl⟩ (fun _ => .int i) hd
theorem se_gStr {z : Str} (gl : Gl X x) (h : ∃ t, X.mg x = some (.str z t)) (hd : (x == ("__debug__" : Str)) = false := by decide) : SE X W (.Name x pos) (mV (.str z)) := by
  obtain ⟨t, e⟩ := h
  exact se_gloV (u := .str z) gl e ⟨t, rfl⟩ (fun _ => .str z) hd
def flatG : Val → Bool
  | .non | .bl _ | .int _ | .str _ | .ty _ | .glo _ => true
  | _ => false
theorem gv_ok {K : PySem.W.Frag} {F : Hp} : ∀ {vs : List Val}, vs.all flatG = true → VRs K F vs ((vs.map gv).map (He.Dv.v K))
  | [], _ => .nil
  | v :: vs, h => by
    rw [List.all_cons, Bool.and_eq_true] at h
    refine .cons ?_ (gv_ok h.2)
    have h1 := h.1
    cases v with
    | non => exact .non
    | bl b => exact .bl b
    | int i => exact .int i
    | str z => exact .str z
    | ty n => exact .ty n
    | glo z => exact .glo z
    | _ => cases h1
theorem se_gTup {vs : List Val} (gl : Gl X x) (at_ : X.mg x = some (.ref (He.ga X.K x))) (h : He.tupB X.K x (vs.map gv) = true) (hf : vs.all flatG = true := by rfl) (hd : (x == ("__debug__" : Str)) = false := by decide) : SE X W (.Name x pos) (mV (.tup vs)) :=
  se_gloV (u := .ref (He.ga X.K x)) gl at_ rfl (fun F => .tup (He.tupB_ok h F) (gv_ok hf)) hd
end
theorem funD_fd {K : PySem.W.Frag} {x x' q q' : Str} {p p' : Arguments} {b b' : List Stmt} {sc sc' : Scope} {dvs dvs' : List V} {kws kws' : List (Str × V)} {f : Addr} {fd fd' : FuncData} (F : FunD K x q p b sc dvs kws f fd) (F' : FunD K x' q' p' b' sc' dvs' kws' f fd') : fd = fd' := by
  obtain ⟨_, _, _, _, _, _, _, _, _, _, _, l1, _⟩ := F.ex
  obtain ⟨_, _, _, _, _, _, _, _, _, _, _, l2, _⟩ := F'.ex
  rw [l1] at l2
  cases l2
  rfl
end Pu
set_option Elab.async false
set_option linter.all false
set_option maxRecDepth 100000
namespace Pu.O
open PySem PySem.Spec PyProof.Rows L2 Pu
section
variable {α β : Type} {m : M α} {e : Ev} {Q Q' : α → Ev → Prop} {R : β → Ev → Prop}
theorem ok_ex : Ok m e Q ↔ ∃ a e', m e = .ok a e' ∧ Q a e' := by
  unfold Ok
  cases h : m e with
  | ok a e' => exact ⟨fun z => ⟨a, e', rfl, z⟩, fun ⟨b, f, z, y⟩ => by cases z; exact y⟩
  | _ => exact ⟨fun z => z.elim, fun ⟨b, f, z, y⟩ => nomatch z⟩
theorem ok_bind {f : α → M β} : Ok (m.bind f) e R ↔ Ok m e fun a e' => Ok (f a) e' R := by
  unfold Ok M.bind
  cases m e <;> rfl
theorem ok_bad : Ok M.bad e Q ↔ False := Iff.rfl
theorem ok_ite {c : Prop} [Decidable c] {a b : M α} : Ok (if c then a else b) e Q ↔ (c → Ok a e Q) ∧ (¬c → Ok b e Q) := by
  by_cases h : c <;> simp [h]
end
variable {e : Ev}
theorem ok_mV {v : Val} {Q : RV → Ev → Prop} : Ok (mV v) e Q ↔ Q (.dat v) e := Iff.rfl
theorem ok_var {i : Nat} {Q : RV → Ev → Prop} : Ok (mVar i) e Q ↔ match e[i]? with
    | some (.dat v) => Q (.dat v) e
    | some (.own _) => Q (.bor i) e
    | _ => False := by
  unfold Ok mVar
  cases e[i]? with
  | none => exact Iff.rfl
  | some s => cases s <;> exact Iff.rfl
theorem ok_rdD {v : Val} {Q : Val → Ev → Prop} : Ok (M.rd (.dat v)) e Q ↔ Q v e := Iff.rfl
theorem ok_rdT {v : Val} {Q : Val → Ev → Prop} : Ok (M.rd (.tmp v)) e Q ↔ Q v e := Iff.rfl
theorem ok_rdB {i : Nat} {Q : Val → Ev → Prop} : Ok (M.rd (.bor i)) e Q ↔ match e[i]? with
    | some (.own v) => Q v e
    | some (.dat v) => Q v e
    | _ => False := by
  unfold Ok M.rd rd
  cases h : e[i]? with
  | none => simp [h]
  | some s => cases s <;> simp [h]
theorem ok_dtD {v : Val} {Q : Val → Ev → Prop} : Ok (M.dt (.dat v)) e Q ↔ Q v e := Iff.rfl
theorem ok_dtT {v : Val} {Q : Val → Ev → Prop} : Ok (M.dt (.tmp v)) e Q ↔ Q v e := Iff.rfl
theorem ok_dtB {i : Nat} {Q : Val → Ev → Prop} : Ok (M.dt (.bor i)) e Q ↔ match e[i]? with
    | some (.own v) => Q v (e.set i (.dat v))
    | some (.dat v) => Q v e
    | _ => False := by
  unfold Ok M.dt
  cases h : e[i]? with
  | none => simp [h]
  | some s => cases s <;> simp [h]
theorem ok_rds0 {Q : List Val → Ev → Prop} : Ok (M.rds []) e Q ↔ Q [] e := Iff.rfl
theorem ok_rdsC {r : RV} {rs : List RV} {Q : List Val → Ev → Prop} : Ok (M.rds (r :: rs)) e Q ↔ Ok (M.rd r) e fun v e1 => Ok (M.rds rs) e1 fun vs e2 => Q (v :: vs) e2 := by
  show Ok ((M.rd r).bind fun v => (M.rds rs).bind fun vs => M.ret (v :: vs)) e Q ↔ _
  rw [ok_bind]
  simp only [ok_bind, ok_ret]
theorem ok_dts0 {Q : List Val → Ev → Prop} : Ok (M.dts []) e Q ↔ Q [] e := Iff.rfl
theorem ok_dtsC {r : RV} {rs : List RV} {Q : List Val → Ev → Prop} : Ok (M.dts (r :: rs)) e Q ↔ Ok (M.dt r) e fun v e1 => Ok (M.dts rs) e1 fun vs e2 => Q (v :: vs) e2 := by
  show Ok ((M.dt r).bind fun v => (M.dts rs).bind fun vs => M.ret (v :: vs)) e Q ↔ _
  rw [ok_bind]
  simp only [ok_bind, ok_ret]
theorem ok_nil {Q : List RV → Ev → Prop} : Ok mNil e Q ↔ Q [] e := Iff.rfl
theorem ok_cons {a : M RV} {r : M (List RV)} {Q : List RV → Ev → Prop} : Ok (mCons a r) e Q ↔ Ok a e fun x e1 => Ok r e1 fun xs e2 => Q (x :: xs) e2 := by
  unfold mCons; simp only [ok_bind, ok_ret]
theorem ok_bin {f : Val → Val → M RV} {a b : M RV} {Q : RV → Ev → Prop} : Ok (mBin f a b) e Q ↔ Ok a e fun r e1 => Ok b e1 fun s e2 => Ok (M.rd r) e2 fun v e3 => Ok (M.rd s) e3 fun w e4 => Ok (f v w) e4 Q := by
  unfold mBin; simp only [ok_bind]
theorem ok_cb {f : List Val → M RV} {ms : M (List RV)} {Q : RV → Ev → Prop} : Ok (mCB f ms) e Q ↔ Ok ms e fun rs e1 => Ok (M.rds rs) e1 fun vs e2 => Ok (f vs) e2 Q := by
  unfold mCB; simp only [ok_bind]
theorem ok_tup {r : M (List RV)} {Q : RV → Ev → Prop} : Ok (mTup r) e Q ↔ Ok r e fun rs e1 => Ok (M.dts rs) e1 fun vs e2 => vs.length ≤ sizeLine ∧ Q (.dat (.tup vs)) e2 := by
  unfold mTup
  simp only [ok_bind, ok_ite, ok_ret, ok_bad]
  apply iff_of_eq; congr 1; funext rs e1; congr 1; funext vs e2
  apply propext
  by_cases h : vs.length ≤ sizeLine <;> simp [h]
theorem ok_lst {r : M (List RV)} {Q : RV → Ev → Prop} : Ok (mLst r) e Q ↔ Ok r e fun rs e1 => Ok (M.dts rs) e1 fun vs e2 => vs.length ≤ sizeLine ∧ Q (.tmp (.lst vs)) e2 := by
  unfold mLst
  simp only [ok_bind, ok_ite, ok_ret, ok_bad]
  apply iff_of_eq; congr 1; funext rs e1; congr 1; funext vs e2
  apply propext
  by_cases h : vs.length ≤ sizeLine <;> simp [h]
theorem ok_tru {m : M RV} {Q : Bool → Ev → Prop} : Ok (mTru m) e Q ↔ Ok m e fun r e1 => Ok (M.rd r) e1 fun v e2 => Ok (truV v) e2 Q := by
  unfold mTru; simp only [ok_bind]
theorem ok_truB {b : Bool} {Q : Bool → Ev → Prop} : Ok (truV (.bl b)) e Q ↔ Q b e := Iff.rfl
theorem ok_truI {i : Int} {Q : Bool → Ev → Prop} : Ok (truV (.int i)) e Q ↔ Q (i != 0) e := Iff.rfl
theorem ok_truN {Q : Bool → Ev → Prop} : Ok (truV .non) e Q ↔ Q false e := Iff.rfl
theorem ok_truL {xs : List Val} {Q : Bool → Ev → Prop} : Ok (truV (.lst xs)) e Q ↔ Q (!xs.isEmpty) e := Iff.rfl
theorem ok_truT {xs : List Val} {Q : Bool → Ev → Prop} : Ok (truV (.tup xs)) e Q ↔ Q (!xs.isEmpty) e := Iff.rfl
theorem ok_and {a b : M Bool} {Q : Bool → Ev → Prop} : Ok (mAnd a b) e Q ↔ Ok a e fun c e1 => (c = true → Ok b e1 Q) ∧ (¬ c = true → Q false e1) := by
  unfold mAnd; simp only [ok_bind, ok_ite, ok_ret]
theorem ok_or {a b : M Bool} {Q : Bool → Ev → Prop} : Ok (mOr a b) e Q ↔ Ok a e fun c e1 => (c = true → Q true e1) ∧ (¬ c = true → Ok b e1 Q) := by
  unfold mOr; simp only [ok_bind, ok_ite, ok_ret]
theorem ok_not {a : M Bool} {Q : Bool → Ev → Prop} : Ok (mNot a) e Q ↔ Ok a e fun c e1 => Q (!c) e1 := by
  unfold mNot; simp only [ok_bind, ok_ret]
theorem ok_ifE {c : M Bool} {a b : M RV} {Q : RV → Ev → Prop} : Ok (mIfE c a b) e Q ↔ Ok c e fun k e1 => (k = true → Ok a e1 Q) ∧ (¬ k = true → Ok b e1 Q) := by
  unfold mIfE; simp only [ok_bind, ok_ite]
theorem ok_andV {a b : M RV} {Q : RV → Ev → Prop} : Ok (mAndV a b) e Q ↔ Ok a e fun r e1 => Ok (M.rd r) e1 fun v e2 => match v with
    | .bl c => (c = true → Ok b e2 Q) ∧ (¬ c = true → Q (.dat (.bl false)) e2)
    | _ => False := by
  unfold mAndV; simp only [ok_bind]
  apply iff_of_eq; congr 1; funext r e1; congr 1; funext v e2
  cases v <;> simp only [ok_ite, ok_mV, ok_bad]
theorem ok_orV {a b : M RV} {Q : RV → Ev → Prop} : Ok (mOrV a b) e Q ↔ Ok a e fun r e1 => Ok (M.rd r) e1 fun v e2 => match v with
    | .bl c => (c = true → Q (.dat (.bl true)) e2) ∧ (¬ c = true → Ok b e2 Q)
    | _ => False := by
  unfold mOrV; simp only [ok_bind]
  apply iff_of_eq; congr 1; funext r e1; congr 1; funext v e2
  cases v <;> simp only [ok_ite, ok_mV, ok_bad]
theorem ok_notV {a : M RV} {Q : RV → Ev → Prop} : Ok (mNotV a) e Q ↔ Ok a e fun r e1 => Ok (M.rd r) e1 fun v e2 => match v with
    | .bl c => Q (.dat (.bl (!c))) e2
    | _ => False := by
  unfold mNotV; simp only [ok_bind]
  apply iff_of_eq; congr 1; funext r e1; congr 1; funext v e2
  cases v <;> simp only [ok_mV, ok_bad]
theorem ok_neg {a : M RV} {Q : RV → Ev → Prop} : Ok (mNeg a) e Q ↔ Ok a e fun r e1 => Ok (M.rd r) e1 fun v e2 => match v with
    | .int i => Q (.dat (.int (-i))) e2
    | _ => False := by
  unfold mNeg; simp only [ok_bind]
  apply iff_of_eq; congr 1; funext r e1; congr 1; funext v e2
  cases v <;> simp only [ok_mV, ok_bad]
theorem ok_chain {f g : Val → Val → M RV} {a b c : M RV} {Q : RV → Ev → Prop} : Ok (mChain f g a b c) e Q ↔ Ok a e fun r e1 => Ok b e1 fun s e2 => Ok (M.rd r) e2 fun v e3 => Ok (M.rd s) e3 fun w e4 => Ok (f v w) e4 fun z e5 => Ok (M.rd z) e5 fun k e6 => match k with
    | .bl k => (k = true → Ok c e6 fun t e7 => Ok (M.rd s) e7 fun w' e8 => Ok (M.rd t) e8 fun x e9 => Ok (g w' x) e9 Q) ∧ (¬ k = true → Q (.dat (.bl false)) e6)
    | _ => False := by
  unfold mChain; simp only [ok_bind]
  apply iff_of_eq; congr 1; funext r e1; congr 1; funext s e2; congr 1; funext v e3; congr 1; funext w e4; congr 1; funext z e5; congr 1; funext k e6
  cases k with
  | bl k => cases k <;> simp [ok_bind, ok_mV]
  | _ => simp only [ok_bad]
theorem ok_seq {a b : S} {Q : Out → Ev → Prop} : Ok (mSeq a b) e Q ↔ Ok a e fun o e1 => match o with
    | .nx => Ok b e1 Q
    | .bk => Q .bk e1
    | .ct => Q .ct e1
    | .rt r => Q (.rt r) e1 := by
  unfold Ok mSeq
  cases a e with
  | ok o e' => cases o <;> exact Iff.rfl
  | _ => exact Iff.rfl
theorem ok_skip {Q : Out → Ev → Prop} : Ok mSkip e Q ↔ Q .nx e := Iff.rfl
theorem ok_retS {m : M RV} {Q : Out → Ev → Prop} : Ok (mRet m) e Q ↔ Ok m e fun r e1 => Q (.rt r) e1 := by
  unfold mRet; rw [ok_bind]; exact Iff.rfl
theorem ok_retN {Q : Out → Ev → Prop} : Ok mRetN e Q ↔ Q (.rt (.dat .non)) e := Iff.rfl
theorem ok_bk {Q : Out → Ev → Prop} : Ok mBk e Q ↔ Q .bk e := Iff.rfl
theorem ok_ct {Q : Out → Ev → Prop} : Ok mCt e Q ↔ Q .ct e := Iff.rfl
theorem ok_ex1 {m : M RV} {Q : Out → Ev → Prop} : Ok (mEx m) e Q ↔ Ok m e fun _ e1 => Q .nx e1 := by
  unfold mEx; rw [ok_bind]; exact Iff.rfl
theorem ok_if {c : M Bool} {a b : S} {Q : Out → Ev → Prop} : Ok (mIf c a b) e Q ↔ Ok c e fun k e1 => (k = true → Ok a e1 Q) ∧ (¬ k = true → Ok b e1 Q) := by
  unfold mIf; simp only [ok_bind, ok_ite]
theorem ok_set {i : Nat} {m : M RV} {Q : Out → Ev → Prop} : Ok (mSet i m) e Q ↔ Ok m e fun r e1 => match r with
    | .dat v => Q .nx (e1.set i (.dat v))
    | .tmp v => Q .nx (e1.set i (.own v))
    | .bor j => Ok (M.dt (.bor j)) e1 fun v e2 => Q .nx (e2.set i (.dat v)) := by
  unfold mSet; rw [ok_bind]
  apply iff_of_eq; congr 1; funext r e1
  cases r with
  | dat v => rfl
  | tmp v => rfl
  | bor j => exact propext (by show Ok ((M.dt (.bor j)).bind _) e1 Q ↔ _; rw [ok_bind]; exact Iff.rfl)
theorem ok_setP {i : Nat} {m : M RV} {Q : Out → Ev → Prop} : Ok (mSetP i m) e Q ↔ Ok m e fun r e1 => Ok (M.dt r) e1 fun v e2 => Q .nx (e2.set i (.dat v)) := by
  unfold mSetP; simp only [ok_bind]; exact Iff.rfl
theorem ok_asg {mg : Val → M Unit} {m : M RV} {Q : Out → Ev → Prop} : Ok (mAsg mg m) e Q ↔ Ok m e fun r e1 => Ok (M.dt r) e1 fun v e2 => Ok (mg v) e2 fun _ e3 => Q .nx e3 := by
  unfold mAsg; simp only [ok_bind]; exact Iff.rfl
theorem ok_gN {i : Nat} {v : Val} {Q : Unit → Ev → Prop} : Ok (gN i v) e Q ↔ Q () (e.set i (.dat v)) := Iff.rfl
theorem ok_gsN {Q : Unit → Ev → Prop} : Ok (gsN []) e Q ↔ Q () e := Iff.rfl
theorem ok_gsC {m : Val → M Unit} {ms : List Val → M Unit} {v : Val} {vs : List Val} {Q : Unit → Ev → Prop} : Ok (gsC m ms (v :: vs)) e Q ↔ Ok (m v) e fun _ e1 => Ok (ms vs) e1 Q := by
  show Ok ((m v).bind fun _ => ms vs) e Q ↔ _
  rw [ok_bind]
theorem ok_gT {n : Nat} {ms : List Val → M Unit} {xs : List Val} {Q : Unit → Ev → Prop} : Ok (gT n ms (.tup xs)) e Q ↔ xs.length = n ∧ Ok (ms xs) e Q := by
  show Ok (if xs.length = n then ms xs else M.bad) e Q ↔ _
  by_cases h : xs.length = n <;> simp [h, ok_bad]
theorem ok_gSb {mo mi : M RV} {v : Val} {Q : Unit → Ev → Prop} : Ok (gSb mo mi v) e Q ↔ Ok mo e fun r e1 => Ok mi e1 fun s e2 => Ok (M.rd s) e2 fun k e3 => match r, k with
    | .bor j, .int k => (match e3[j]? with
      | some (.own (.lst xs)) => (match ixN xs.length k with
        | some n => Q () (e3.set j (.own (.lst (xs.set n v))))
        | none => False)
      | _ => False)
    | _, _ => False := by
  unfold gSb; simp only [ok_bind]
  apply iff_of_eq; congr 1; funext r e1; congr 1; funext s e2; congr 1; funext k e3
  cases r with
  | bor j => cases k with
    | int k =>
      apply propext
      unfold Ok
      dsimp only
      cases e3[j]? with
      | none => exact Iff.rfl
      | some sl => cases sl with
        | own w => cases w with
          | lst xs =>
            dsimp only
            cases ixN xs.length k <;> exact Iff.rfl
          | _ => exact Iff.rfl
        | _ => exact Iff.rfl
    | _ => rfl
  | _ => cases k <;> rfl
theorem ok_par {p : Bool} {is : List Nat} {as : M (List RV)} {Q : Out → Ev → Prop} : Ok (mPar p is as) e Q ↔ Ok as e fun rs e1 => rs.length = is.length ∧ ((noBor rs = true ∧ p = false → Q .nx (setsE is rs e1)) ∧ (¬ (noBor rs = true ∧ p = false) → Ok (M.dts rs) e1 fun vs e2 => Q .nx (setsE is (vs.map .dat) e2))) := by
  unfold mPar; rw [ok_bind]
  apply iff_of_eq; congr 1; funext rs e1
  apply propext
  by_cases h : rs.length = is.length
  · rw [if_pos h]
    by_cases hb : noBor rs = true ∧ p = false
    · rw [if_pos hb]
      exact ⟨fun z => ⟨h, fun _ => z, fun y => absurd hb y⟩, fun z => z.2.1 hb⟩
    · rw [if_neg hb]
      simp only [ok_bind]
      refine ⟨fun z => ⟨h, fun y => absurd y hb, fun _ => z⟩, fun z => z.2.2 hb⟩
  · rw [if_neg h]
    simp [h, ok_bad]
theorem ok_put {C f : Str} {mo mv : M RV} {Q : Out → Ev → Prop} : Ok (mPut C f mo mv) e Q ↔ Ok mv e fun r0 e1 => Ok (M.dt r0) e1 fun v e2 => Ok mo e2 fun r e3 => match r with
    | .bor i => (match e3[i]? with
      | some (.own (.obj C' fs vs)) => C' = C ∧ fs.length < 1000 ∧ Q .nx (e3.set i (.own (.obj C (putFs f fs) (putVs f v fs vs))))
      | _ => False)
    | _ => False := by
  unfold mPut; simp only [ok_bind]
  apply iff_of_eq; congr 1; funext r0 e1; congr 1; funext v e2; congr 1; funext r e3
  cases r with
  | bor i =>
    apply propext
    unfold Ok
    dsimp only
    cases e3[i]? with
    | none => exact Iff.rfl
    | some sl => cases sl with
      | own w => cases w with
        | obj C' fs vs =>
          dsimp only
          by_cases h : C' = C ∧ fs.length < 1000
          · simp [h]
          · rw [if_neg h]
            exact ⟨fun z => z.elim, fun z => h ⟨z.1, z.2.1⟩⟩
        | _ => exact Iff.rfl
      | _ => exact Iff.rfl
  | _ => rfl
theorem ok_get {C f : Str} {mo : M RV} {Q : RV → Ev → Prop} : Ok (mGet C f mo) e Q ↔ Ok mo e fun r e1 => Ok (M.rd r) e1 fun v e2 => match v with
    | .obj C' fs vs => C' = C ∧ (match lookV f fs vs with
      | some w => Q (.dat w) e2
      | none => False)
    | _ => False := by
  unfold mGet; simp only [ok_bind]
  apply iff_of_eq; congr 1; funext r e1; congr 1; funext v e2
  cases v with
  | obj C' fs vs =>
    apply propext
    dsimp only
    by_cases h : C' = C
    · simp only [h, if_true, true_and]
      cases lookV f fs vs <;> exact Iff.rfl
    · simp [h, ok_bad]
  | _ => rfl
theorem ok_run {ms : List Bool} {f : M RV} {rs : List RV} {Q : RV → Ev → Prop} : Ok (runF ms f rs) e Q ↔ match argsE ms rs e with
    | some (p, e1) => Ok f p fun r p' => match r with
      | .dat v => Q (.dat v) (backE ms rs p' e1)
      | .tmp v => Q (.tmp v) (backE ms rs p' e1)
      | .bor _ => False
    | none => False := by
  unfold Ok runF
  cases argsE ms rs e with
  | none => exact Iff.rfl
  | some pr =>
    obtain ⟨p, e1⟩ := pr
    dsimp only
    cases f p with
    | ok r p' => cases r <;> exact Iff.rfl
    | _ => exact Iff.rfl
theorem ok_call {ms : List Bool} {f : M RV} {as : M (List RV)} {Q : RV → Ev → Prop} : Ok (mCall ms f as []) e Q ↔ Ok as e fun rs e1 => Ok (runF ms f rs) e1 Q := by
  unfold mCall; simp only [ok_bind, List.map_nil, List.append_nil]
theorem ok_callK {ms : List Bool} {f : M RV} {as ks : M (List RV)} {n m : Nat} {g : List Nat} {Q : RV → Ev → Prop} : Ok (mCallK ms f as ks n m g) e Q ↔ Ok as e fun rs e1 => Ok ks e1 fun zs e2 => (rs.length = n ∧ zs.length = m) ∧ Ok (runF ms f (sel g (rs ++ zs))) e2 Q := by
  unfold mCallK; simp only [ok_bind]
  apply iff_of_eq; congr 1; funext rs e1; congr 1; funext zs e2
  apply propext
  by_cases h : rs.length = n ∧ zs.length = m <;> simp [h, ok_bad]
theorem ok_make {C : Str} {ms : List Bool} {f : M RV} {as : M (List RV)} {Q : RV → Ev → Prop} : Ok (mMake C ms f as []) e Q ↔ Ok as e fun rs e1 => match argsE (true :: ms) (.tmp (.obj C [] []) :: rs) e1 with
    | some (p, e2) => Ok f p fun r p' => match r with
      | .dat .non => (match p'[0]? with
        | some (Slot.own v) => Q (.tmp v) (backE (true :: ms) (.tmp (.obj C [] []) :: rs) p' e2)
        | _ => False)
      | _ => False
    | none => False := by
  unfold mMake; simp only [ok_bind, List.map_nil, List.append_nil]
  apply iff_of_eq; congr 1; funext rs e1
  apply propext
  unfold Ok runMk
  cases argsE (true :: ms) (.tmp (.obj C [] []) :: rs) e1 with
  | none => exact Iff.rfl
  | some pr =>
    obtain ⟨p, e2⟩ := pr
    dsimp only
    cases f p with
    | ok r p' => cases r with
      | dat v => cases v with
        | non =>
          dsimp only
          cases p'[0]? with
          | none => exact Iff.rfl
          | some sl => cases sl <;> exact Iff.rfl
        | _ => exact Iff.rfl
      | _ => exact Iff.rfl
    | _ => exact Iff.rfl
theorem ok_prop {C : Str} {f mo : M RV} {Q : RV → Ev → Prop} : Ok (mProp C f mo) e Q ↔ Ok mo e fun r e1 => Ok (M.rd r) e1 fun v e2 => match v with
    | .obj C' _ _ => C' = C ∧ Ok (runF [true] f [r]) e2 Q
    | _ => False := by
  unfold mProp; simp only [ok_bind]
  apply iff_of_eq; congr 1; funext r e1; congr 1; funext v e2
  cases v with
  | obj C' fs vs =>
    apply propext
    dsimp only
    by_cases h : C' = C
    · simp only [h, if_true, true_and]
      unfold Ok noRs
      cases runF [true] f [r] e2 <;> exact Iff.rfl
    · simp [h, ok_bad]
  | _ => rfl
theorem ok_den {n nn : Nat} {b : S} {Q : RV → Ev → Prop} (h : e.length = n) : Ok (fnDen n nn b) e Q ↔ Ok b (e ++ List.replicate (nn - n) Slot.un) fun o e' => match o with
    | .nx => Q (.dat .non) (outE (e'.take n))
    | .rt (.dat v) => Q (.dat v) (outE (e'.take n))
    | .rt (.tmp v) => Q (.tmp v) (outE (e'.take n))
    | .rt (.bor i) => (match e'[i]? with
      | some (.own v) => Q (.tmp v) (outE ((e'.set i .un).take n))
      | some (.dat v) => Q (.dat v) (outE (e'.take n))
      | _ => False)
    | _ => False := by
  unfold Ok fnDen
  rw [if_pos h]
  cases b (e ++ List.replicate (nn - n) Slot.un) with
  | ok o e' => cases o with
    | rt r => cases r with
      | bor i =>
        dsimp only [retV]
        cases e'[i]? with
        | none => exact Iff.rfl
        | some sl => cases sl <;> exact Iff.rfl
      | _ => exact Iff.rfl
    | _ => exact Iff.rfl
  | _ => exact Iff.rfl
theorem ok_for {mi : M (List Val)} {mt : Val → M Unit} {mb : S} {Q : Out → Ev → Prop} : Ok (mFor mi mt mb) e Q ↔ Ok mi e fun vs e1 => Ok (loopS mt mb vs) e1 Q := by
  unfold mFor; rw [ok_bind]
theorem ok_loop0 {mt : Val → M Unit} {mb : S} {Q : Out → Ev → Prop} : Ok (loopS mt mb []) e Q ↔ Q .nx e := Iff.rfl
theorem ok_loopC {mt : Val → M Unit} {mb : S} {v : Val} {vs : List Val} {Q : Out → Ev → Prop} : Ok (loopS mt mb (v :: vs)) e Q ↔ Ok (mt v) e fun _ e1 => Ok mb e1 fun o e2 => match o with
    | .nx => Ok (loopS mt mb vs) e2 Q
    | .ct => Ok (loopS mt mb vs) e2 Q
    | .bk => Q .nx e2
    | .rt r => Q (.rt r) e2 := by
  unfold Ok
  conv => lhs; unfold loopS
  cases mt v e with
  | ok u e1 =>
    dsimp only
    cases mb e1 with
    | ok o e2 => cases o <;> exact Iff.rfl
    | _ => exact Iff.rfl
  | _ => exact Iff.rfl
theorem Ok.loop {mt : Val → M Unit} {mb : S} (P : Nat → Ev → Prop) : ∀ {vs : List Val} {e : Ev} {i : Nat}, P i e → (∀ (j : Nat) (v : Val) (e : Ev), vs[j]? = some v → P (i + j) e → Ok (mt v) e fun _ e1 => Ok mb e1 fun o e2 => (o = .nx ∨ o = .ct) ∧ P (i + j + 1) e2) →
    Ok (loopS mt mb vs) e fun o e' => o = .nx ∧ P (i + vs.length) e'
  | [], e, i, h, _ => by rw [ok_loop0]; exact ⟨rfl, h⟩
  | v :: vs, e, i, h, st => by
    rw [ok_loopC]
    refine Ok.mono (st 0 v e rfl h) fun _ e1 h1 => Ok.mono h1 fun o e2 h2 => ?_
    have go : Ok (loopS mt mb vs) e2 fun o e' => o = .nx ∧ P (i + (v :: vs).length) e' := by
      have := Ok.loop (i := i + 1) P (vs := vs) (e := e2) h2.2 fun j w e3 hj hp => by
        have := st (j + 1) w e3 (by simpa using hj) (by rw [show i + (j + 1) = i + 1 + j by omega]; exact hp)
        rw [show i + 1 + j + 1 = i + (j + 1) + 1 by omega]; exact this
      refine Ok.mono this fun o e' q => ⟨q.1, ?_⟩
      rw [List.length_cons, show i + (vs.length + 1) = i + 1 + vs.length by omega]; exact q.2
    rcases h2.1 with q | q <;> subst q <;> exact go
theorem ok_items {m : M RV} {Q : List Val → Ev → Prop} : Ok (mItems m) e Q ↔ Ok m e fun r e1 => Ok (M.dt r) e1 fun v e2 => match v with
    | .lst xs => Q xs e2
    | .tup xs => Q xs e2
    | _ => False := by
  unfold mItems; simp only [ok_bind]
  apply iff_of_eq; congr 1; funext r e1; congr 1; funext v e2
  cases v <;> rfl
theorem ok_rng1 {m : M RV} {Q : List Val → Ev → Prop} : Ok (mRng1 m) e Q ↔ Ok m e fun r e1 => Ok (M.rd r) e1 fun v e2 => match v with
    | .int j => (-4611686018427387904 ≤ j ∧ j < 4611686018427387904) ∧ Q (rangeV 0 j) e2
    | _ => False := by
  unfold mRng1; simp only [ok_bind]
  apply iff_of_eq; congr 1; funext r e1; congr 1; funext v e2
  cases v with
  | int j =>
    apply propext
    dsimp only
    by_cases h : -4611686018427387904 ≤ j ∧ j < 4611686018427387904 <;> simp [h, ok_bad, ok_ret]
  | _ => rfl
theorem ok_rng2 {a b : M RV} {Q : List Val → Ev → Prop} : Ok (mRng2 a b) e Q ↔ Ok a e fun r e1 => Ok b e1 fun s e2 => Ok (M.rd r) e2 fun v e3 => Ok (M.rd s) e3 fun w e4 => match v, w with
    | .int i, .int j => (-4611686018427387904 ≤ i ∧ i < 4611686018427387904 ∧ -4611686018427387904 ≤ j ∧ j < 4611686018427387904) ∧ Q (rangeV i j) e4
    | _, _ => False := by
  unfold mRng2; simp only [ok_bind]
  apply iff_of_eq; congr 1; funext r e1; congr 1; funext s e2; congr 1; funext v e3; congr 1; funext w e4
  cases v with
  | int i => cases w with
    | int j =>
      apply propext
      dsimp only
      by_cases h : -4611686018427387904 ≤ i ∧ i < 4611686018427387904 ∧ -4611686018427387904 ≤ j ∧ j < 4611686018427387904
      · rw [if_pos h]; exact ⟨fun z => ⟨h, z⟩, fun z => z.2⟩
      · rw [if_neg h]; exact ⟨fun z => z.elim, fun z => h z.1⟩
    | _ => rfl
  | _ => cases w <;> rfl
theorem ok_comp {ws : List Nat} {mi : M (List Val)} {mt : Val → M Unit} {mc : M Bool} {me : M RV} {Q : RV → Ev → Prop} : Ok (mComp ws mi mt mc me) e Q ↔ Ok mi e fun vs e1 => Ok (compS ws mt mc me vs []) (wipeE e1 ws) fun acc e2 => Q (.tmp (.lst acc)) e2 := by
  unfold mComp; rw [ok_bind]
  apply iff_of_eq; congr 1; funext vs e1
  apply propext
  unfold Ok
  dsimp only
  cases compS ws mt mc me vs [] (wipeE e1 ws) <;> exact Iff.rfl
theorem ok_yes {Q : Bool → Ev → Prop} : Ok mYes e Q ↔ Q true e := Iff.rfl
theorem ok_sl {a : M RV} {lo hi : M (Option Int)} {Q : RV → Ev → Prop} : Ok (mSl a lo hi) e Q ↔ Ok a e fun r e1 => Ok lo e1 fun l e2 => Ok hi e2 fun u e3 => Ok (M.rd r) e3 fun v e4 => Ok (slV v l u) e4 Q := by
  unfold mSl; simp only [ok_bind]
theorem ok_noP {Q : Option Int → Ev → Prop} : Ok mNoP e Q ↔ Q none e := Iff.rfl
theorem ok_pt {a : M RV} {Q : Option Int → Ev → Prop} : Ok (mPt a) e Q ↔ Ok a e fun r e1 => Ok (M.rd r) e1 fun v e2 => match v with
    | .int i => Q (some i) e2
    | _ => False := by
  unfold mPt; simp only [ok_bind]
  apply iff_of_eq; congr 1; funext r e1; congr 1; funext v e2
  cases v <;> rfl
theorem ok_slL {xs : List Val} {l u : Option Int} {Q : RV → Ev → Prop} : Ok (slV (.lst xs) l u) e Q ↔ Q (.tmp (.lst (cutA xs l u))) e := Iff.rfl
theorem ok_slT {xs : List Val} {l u : Option Int} {Q : RV → Ev → Prop} : Ok (slV (.tup xs) l u) e Q ↔ Q (.dat (.tup (cutA xs l u))) e := Iff.rfl
theorem ok_rep {a b : M RV} {Q : RV → Ev → Prop} : Ok (mRep a b) e Q ↔ Ok a e fun r e1 => Ok b e1 fun s e2 => Ok (M.rd s) e2 fun k e3 => match r, k with
    | .tmp (.lst xs), .int n => (-9223372036854775808 ≤ n ∧ n < 9223372036854775808 ∧ xs.length * n.toNat ≤ sizeLine) ∧ Q (.tmp (.lst (List.replicate n.toNat xs).flatten)) e3
    | _, _ => False := by
  unfold mRep; simp only [ok_bind]
  apply iff_of_eq; congr 1; funext r e1; congr 1; funext s e2; congr 1; funext k e3
  cases r with
  | tmp v => cases v with
    | lst xs => cases k with
      | int n =>
        apply propext
        dsimp only
        by_cases h : -9223372036854775808 ≤ n ∧ n < 9223372036854775808 ∧ xs.length * n.toNat ≤ sizeLine
        · rw [if_pos h]; exact ⟨fun z => ⟨h, z⟩, fun z => z.2⟩
        · rw [if_neg h]; exact ⟨fun z => z.elim, fun z => h z.1⟩
      | _ => rfl
    | _ => cases k <;> rfl
  | _ => cases k <;> rfl
theorem ok_app {mo ma : M RV} {Q : RV → Ev → Prop} : Ok (mApp mo ma) e Q ↔ Ok mo e fun r e1 => Ok (M.rd r) e1 fun v0 e2 => match r, v0 with
    | .bor i, .lst _ => Ok ma e2 fun s e3 => Ok (M.dt s) e3 fun v e4 => (match e4[i]? with
      | some (.own (.lst xs)) => xs.length < sizeLine ∧ Q (.dat .non) (e4.set i (.own (.lst (xs ++ [v]))))
      | _ => False)
    | _, _ => False := by
  unfold mApp; simp only [ok_bind]
  apply iff_of_eq; congr 1; funext r e1; congr 1; funext v0 e2
  cases r with
  | bor i => cases v0 with
    | lst xs0 =>
      apply propext
      dsimp only
      simp only [ok_bind]
      apply iff_of_eq; congr 1; funext s e3; congr 1; funext v e4
      apply propext
      unfold Ok
      dsimp only
      cases e4[i]? with
      | none => exact Iff.rfl
      | some sl => cases sl with
        | own w => cases w with
          | lst xs =>
            dsimp only
            by_cases h : xs.length < sizeLine <;> simp [h]
          | _ => exact Iff.rfl
        | _ => exact Iff.rfl
    | _ => rfl
  | _ => cases v0 <;> rfl
end Pu.O
namespace Pu
open PySem PySem.Spec PyProof.Rows L2
section
variable {α β : Type} {m : M α} {e : Ev} {Q Q' : α → Ev → Prop} {R : β → Ev → Prop}
theorem ok_ex : Ok m e Q ↔ ∃ a e', m e = .ok a e' ∧ Q a e' := O.ok_ex
theorem ok_bind {f : α → M β} : Ok (m.bind f) e R ↔ Ok m e fun a e' => Ok (f a) e' R := O.ok_bind
theorem ok_bad : Ok M.bad e Q ↔ False := O.ok_bad
theorem ok_ite {c : Prop} [Decidable c] {a b : M α} : Ok (if c then a else b) e Q ↔ (c → Ok a e Q) ∧ (¬c → Ok b e Q) := O.ok_ite
end
variable {e : Ev}
theorem ok_mV {v : Val} {Q : RV → Ev → Prop} : Ok (mV v) e Q ↔ Q (.dat v) e := O.ok_mV
theorem ok_var {i : Nat} {Q : RV → Ev → Prop} : Ok (mVar i) e Q ↔ match e[i]? with
    | some (.dat v) => Q (.dat v) e
    | some (.own _) => Q (.bor i) e
    | _ => False := O.ok_var
theorem ok_rdD {v : Val} {Q : Val → Ev → Prop} : Ok (M.rd (.dat v)) e Q ↔ Q v e := O.ok_rdD
theorem ok_rdT {v : Val} {Q : Val → Ev → Prop} : Ok (M.rd (.tmp v)) e Q ↔ Q v e := O.ok_rdT
theorem ok_rdB {i : Nat} {Q : Val → Ev → Prop} : Ok (M.rd (.bor i)) e Q ↔ match e[i]? with
    | some (.own v) => Q v e
    | some (.dat v) => Q v e
    | _ => False := O.ok_rdB
theorem ok_dtD {v : Val} {Q : Val → Ev → Prop} : Ok (M.dt (.dat v)) e Q ↔ Q v e := O.ok_dtD
theorem ok_dtT {v : Val} {Q : Val → Ev → Prop} : Ok (M.dt (.tmp v)) e Q ↔ Q v e := O.ok_dtT
theorem ok_dtB {i : Nat} {Q : Val → Ev → Prop} : Ok (M.dt (.bor i)) e Q ↔ match e[i]? with
    | some (.own v) => Q v (e.set i (.dat v))
    | some (.dat v) => Q v e
    | _ => False := O.ok_dtB
theorem ok_rds0 {Q : List Val → Ev → Prop} : Ok (M.rds []) e Q ↔ Q [] e := O.ok_rds0
theorem ok_rdsC {r : RV} {rs : List RV} {Q : List Val → Ev → Prop} : Ok (M.rds (r :: rs)) e Q ↔ Ok (M.rd r) e fun v e1 => Ok (M.rds rs) e1 fun vs e2 => Q (v :: vs) e2 := O.ok_rdsC
theorem ok_dts0 {Q : List Val → Ev → Prop} : Ok (M.dts []) e Q ↔ Q [] e := O.ok_dts0
theorem ok_dtsC {r : RV} {rs : List RV} {Q : List Val → Ev → Prop} : Ok (M.dts (r :: rs)) e Q ↔ Ok (M.dt r) e fun v e1 => Ok (M.dts rs) e1 fun vs e2 => Q (v :: vs) e2 := O.ok_dtsC
theorem ok_nil {Q : List RV → Ev → Prop} : Ok mNil e Q ↔ Q [] e := O.ok_nil
theorem ok_cons {a : M RV} {r : M (List RV)} {Q : List RV → Ev → Prop} : Ok (mCons a r) e Q ↔ Ok a e fun x e1 => Ok r e1 fun xs e2 => Q (x :: xs) e2 := O.ok_cons
theorem ok_bin {f : Val → Val → M RV} {a b : M RV} {Q : RV → Ev → Prop} : Ok (mBin f a b) e Q ↔ Ok a e fun r e1 => Ok b e1 fun s e2 => Ok (M.rd r) e2 fun v e3 => Ok (M.rd s) e3 fun w e4 => Ok (f v w) e4 Q := O.ok_bin
theorem ok_cb {f : List Val → M RV} {ms : M (List RV)} {Q : RV → Ev → Prop} : Ok (mCB f ms) e Q ↔ Ok ms e fun rs e1 => Ok (M.rds rs) e1 fun vs e2 => Ok (f vs) e2 Q := O.ok_cb
theorem ok_tup {r : M (List RV)} {Q : RV → Ev → Prop} : Ok (mTup r) e Q ↔ Ok r e fun rs e1 => Ok (M.dts rs) e1 fun vs e2 => vs.length ≤ sizeLine ∧ Q (.dat (.tup vs)) e2 := O.ok_tup
theorem ok_lst {r : M (List RV)} {Q : RV → Ev → Prop} : Ok (mLst r) e Q ↔ Ok r e fun rs e1 => Ok (M.dts rs) e1 fun vs e2 => vs.length ≤ sizeLine ∧ Q (.tmp (.lst vs)) e2 := O.ok_lst
theorem ok_tru {m : M RV} {Q : Bool → Ev → Prop} : Ok (mTru m) e Q ↔ Ok m e fun r e1 => Ok (M.rd r) e1 fun v e2 => Ok (truV v) e2 Q := O.ok_tru
theorem ok_truB {b : Bool} {Q : Bool → Ev → Prop} : Ok (truV (.bl b)) e Q ↔ Q b e := O.ok_truB
theorem ok_truI {i : Int} {Q : Bool → Ev → Prop} : Ok (truV (.int i)) e Q ↔ Q (i != 0) e := O.ok_truI
theorem ok_truN {Q : Bool → Ev → Prop} : Ok (truV .non) e Q ↔ Q false e := O.ok_truN
theorem ok_truL {xs : List Val} {Q : Bool → Ev → Prop} : Ok (truV (.lst xs)) e Q ↔ Q (!xs.isEmpty) e := O.ok_truL
theorem ok_truT {xs : List Val} {Q : Bool → Ev → Prop} : Ok (truV (.tup xs)) e Q ↔ Q (!xs.isEmpty) e := O.ok_truT
theorem ok_and {a b : M Bool} {Q : Bool → Ev → Prop} : Ok (mAnd a b) e Q ↔ Ok a e fun c e1 => (c = true → Ok b e1 Q) ∧ (¬ c = true → Q false e1) := O.ok_and
theorem ok_or {a b : M Bool} {Q : Bool → Ev → Prop} : Ok (mOr a b) e Q ↔ Ok a e fun c e1 => (c = true → Q true e1) ∧ (¬ c = true → Ok b e1 Q) := O.ok_or
theorem ok_not {a : M Bool} {Q : Bool → Ev → Prop} : Ok (mNot a) e Q ↔ Ok a e fun c e1 => Q (!c) e1 := O.ok_not
theorem ok_ifE {c : M Bool} {a b : M RV} {Q : RV → Ev → Prop} : Ok (mIfE c a b) e Q ↔ Ok c e fun k e1 => (k = true → Ok a e1 Q) ∧ (¬ k = true → Ok b e1 Q) := O.ok_ifE
theorem ok_andV {a b : M RV} {Q : RV → Ev → Prop} : Ok (mAndV a b) e Q ↔ Ok a e fun r e1 => Ok (M.rd r) e1 fun v e2 => match v with
    | .bl c => (c = true → Ok b e2 Q) ∧ (¬ c = true → Q (.dat (.bl false)) e2)
    | _ => False := O.ok_andV
theorem ok_orV {a b : M RV} {Q : RV → Ev → Prop} : Ok (mOrV a b) e Q ↔ Ok a e fun r e1 => Ok (M.rd r) e1 fun v e2 => match v with
    | .bl c => (c = true → Q (.dat (.bl true)) e2) ∧ (¬ c = true → Ok b e2 Q)
    | _ => False := O.ok_orV
theorem ok_notV {a : M RV} {Q : RV → Ev → Prop} : Ok (mNotV a) e Q ↔ Ok a e fun r e1 => Ok (M.rd r) e1 fun v e2 => match v with
    | .bl c => Q (.dat (.bl (!c))) e2
    | _ => False := O.ok_notV
theorem ok_neg {a : M RV} {Q : RV → Ev → Prop} : Ok (mNeg a) e Q ↔ Ok a e fun r e1 => Ok (M.rd r) e1 fun v e2 => match v with
    | .int i => Q (.dat (.int (-i))) e2
    | _ => False := O.ok_neg
theorem ok_chain {f g : Val → Val → M RV} {a b c : M RV} {Q : RV → Ev → Prop} : Ok (mChain f g a b c) e Q ↔ Ok a e fun r e1 => Ok b e1 fun s e2 => Ok (M.rd r) e2 fun v e3 => Ok (M.rd s) e3 fun w e4 => Ok (f v w) e4 fun z e5 => Ok (M.rd z) e5 fun k e6 => match k with
    | .bl k => (k = true → Ok c e6 fun t e7 => Ok (M.rd s) e7 fun w' e8 => Ok (M.rd t) e8 fun x e9 => Ok (g w' x) e9 Q) ∧ (¬ k = true → Q (.dat (.bl false)) e6)
    | _ => False := O.ok_chain
theorem ok_seq {a b : S} {Q : Out → Ev → Prop} : Ok (mSeq a b) e Q ↔ Ok a e fun o e1 => match o with
    | .nx => Ok b e1 Q
    | .bk => Q .bk e1
    | .ct => Q .ct e1
    | .rt r => Q (.rt r) e1 := O.ok_seq
theorem ok_skip {Q : Out → Ev → Prop} : Ok mSkip e Q ↔ Q .nx e := O.ok_skip
theorem ok_retS {m : M RV} {Q : Out → Ev → Prop} : Ok (mRet m) e Q ↔ Ok m e fun r e1 => Q (.rt r) e1 := O.ok_retS
theorem ok_retN {Q : Out → Ev → Prop} : Ok mRetN e Q ↔ Q (.rt (.dat .non)) e := O.ok_retN
theorem ok_bk {Q : Out → Ev → Prop} : Ok mBk e Q ↔ Q .bk e := O.ok_bk
theorem ok_ct {Q : Out → Ev → Prop} : Ok mCt e Q ↔ Q .ct e := O.ok_ct
theorem ok_ex1 {m : M RV} {Q : Out → Ev → Prop} : Ok (mEx m) e Q ↔ Ok m e fun _ e1 => Q .nx e1 := O.ok_ex1
theorem ok_if {c : M Bool} {a b : S} {Q : Out → Ev → Prop} : Ok (mIf c a b) e Q ↔ Ok c e fun k e1 => (k = true → Ok a e1 Q) ∧ (¬ k = true → Ok b e1 Q) := O.ok_if
theorem ok_set {i : Nat} {m : M RV} {Q : Out → Ev → Prop} : Ok (mSet i m) e Q ↔ Ok m e fun r e1 => match r with
    | .dat v => Q .nx (e1.set i (.dat v))
    | .tmp v => Q .nx (e1.set i (.own v))
    | .bor j => Ok (M.dt (.bor j)) e1 fun v e2 => Q .nx (e2.set i (.dat v)) := O.ok_set
theorem ok_setP {i : Nat} {m : M RV} {Q : Out → Ev → Prop} : Ok (mSetP i m) e Q ↔ Ok m e fun r e1 => Ok (M.dt r) e1 fun v e2 => Q .nx (e2.set i (.dat v)) := O.ok_setP
theorem ok_asg {mg : Val → M Unit} {m : M RV} {Q : Out → Ev → Prop} : Ok (mAsg mg m) e Q ↔ Ok m e fun r e1 => Ok (M.dt r) e1 fun v e2 => Ok (mg v) e2 fun _ e3 => Q .nx e3 := O.ok_asg
theorem ok_gN {i : Nat} {v : Val} {Q : Unit → Ev → Prop} : Ok (gN i v) e Q ↔ Q () (e.set i (.dat v)) := O.ok_gN
theorem ok_gsN {Q : Unit → Ev → Prop} : Ok (gsN []) e Q ↔ Q () e := O.ok_gsN
theorem ok_gsC {m : Val → M Unit} {ms : List Val → M Unit} {v : Val} {vs : List Val} {Q : Unit → Ev → Prop} : Ok (gsC m ms (v :: vs)) e Q ↔ Ok (m v) e fun _ e1 => Ok (ms vs) e1 Q := O.ok_gsC
theorem ok_gT {n : Nat} {ms : List Val → M Unit} {xs : List Val} {Q : Unit → Ev → Prop} : Ok (gT n ms (.tup xs)) e Q ↔ xs.length = n ∧ Ok (ms xs) e Q := O.ok_gT
theorem ok_gSb {mo mi : M RV} {v : Val} {Q : Unit → Ev → Prop} : Ok (gSb mo mi v) e Q ↔ Ok mo e fun r e1 => Ok mi e1 fun s e2 => Ok (M.rd s) e2 fun k e3 => match r, k with
    | .bor j, .int k => (match e3[j]? with
      | some (.own (.lst xs)) => (match ixN xs.length k with
        | some n => Q () (e3.set j (.own (.lst (xs.set n v))))
        | none => False)
      | _ => False)
    | _, _ => False := O.ok_gSb
theorem ok_par {p : Bool} {is : List Nat} {as : M (List RV)} {Q : Out → Ev → Prop} : Ok (mPar p is as) e Q ↔ Ok as e fun rs e1 => rs.length = is.length ∧ ((noBor rs = true ∧ p = false → Q .nx (setsE is rs e1)) ∧ (¬ (noBor rs = true ∧ p = false) → Ok (M.dts rs) e1 fun vs e2 => Q .nx (setsE is (vs.map .dat) e2))) := O.ok_par
theorem ok_put {C f : Str} {mo mv : M RV} {Q : Out → Ev → Prop} : Ok (mPut C f mo mv) e Q ↔ Ok mv e fun r0 e1 => Ok (M.dt r0) e1 fun v e2 => Ok mo e2 fun r e3 => match r with
    | .bor i => (match e3[i]? with
      | some (.own (.obj C' fs vs)) => C' = C ∧ fs.length < 1000 ∧ Q .nx (e3.set i (.own (.obj C (putFs f fs) (putVs f v fs vs))))
      | _ => False)
    | _ => False := O.ok_put
theorem ok_get {C f : Str} {mo : M RV} {Q : RV → Ev → Prop} : Ok (mGet C f mo) e Q ↔ Ok mo e fun r e1 => Ok (M.rd r) e1 fun v e2 => match v with
    | .obj C' fs vs => C' = C ∧ (match lookV f fs vs with
      | some w => Q (.dat w) e2
      | none => False)
    | _ => False := O.ok_get
theorem ok_run {ms : List Bool} {f : M RV} {rs : List RV} {Q : RV → Ev → Prop} : Ok (runF ms f rs) e Q ↔ match argsE ms rs e with
    | some (p, e1) => Ok f p fun r p' => match r with
      | .dat v => Q (.dat v) (backE ms rs p' e1)
      | .tmp v => Q (.tmp v) (backE ms rs p' e1)
      | .bor _ => False
    | none => False := O.ok_run
theorem ok_call {ms : List Bool} {f : M RV} {as : M (List RV)} {Q : RV → Ev → Prop} : Ok (mCall ms f as []) e Q ↔ Ok as e fun rs e1 => Ok (runF ms f rs) e1 Q := O.ok_call
theorem ok_callK {ms : List Bool} {f : M RV} {as ks : M (List RV)} {n m : Nat} {g : List Nat} {Q : RV → Ev → Prop} : Ok (mCallK ms f as ks n m g) e Q ↔ Ok as e fun rs e1 => Ok ks e1 fun zs e2 => (rs.length = n ∧ zs.length = m) ∧ Ok (runF ms f (sel g (rs ++ zs))) e2 Q := O.ok_callK
theorem ok_make {C : Str} {ms : List Bool} {f : M RV} {as : M (List RV)} {Q : RV → Ev → Prop} : Ok (mMake C ms f as []) e Q ↔ Ok as e fun rs e1 => match argsE (true :: ms) (.tmp (.obj C [] []) :: rs) e1 with
    | some (p, e2) => Ok f p fun r p' => match r with
      | .dat .non => (match p'[0]? with
        | some (Slot.own v) => Q (.tmp v) (backE (true :: ms) (.tmp (.obj C [] []) :: rs) p' e2)
        | _ => False)
      | _ => False
    | none => False := O.ok_make
theorem ok_prop {C : Str} {f mo : M RV} {Q : RV → Ev → Prop} : Ok (mProp C f mo) e Q ↔ Ok mo e fun r e1 => Ok (M.rd r) e1 fun v e2 => match v with
    | .obj C' _ _ => C' = C ∧ Ok (runF [true] f [r]) e2 Q
    | _ => False := O.ok_prop
theorem ok_den {n nn : Nat} {b : S} {Q : RV → Ev → Prop} (h : e.length = n) : Ok (fnDen n nn b) e Q ↔ Ok b (e ++ List.replicate (nn - n) Slot.un) fun o e' => match o with
    | .nx => Q (.dat .non) (outE (e'.take n))
    | .rt (.dat v) => Q (.dat v) (outE (e'.take n))
    | .rt (.tmp v) => Q (.tmp v) (outE (e'.take n))
    | .rt (.bor i) => (match e'[i]? with
      | some (.own v) => Q (.tmp v) (outE ((e'.set i .un).take n))
      | some (.dat v) => Q (.dat v) (outE (e'.take n))
      | _ => False)
    | _ => False := O.ok_den h
theorem ok_for {mi : M (List Val)} {mt : Val → M Unit} {mb : S} {Q : Out → Ev → Prop} : Ok (mFor mi mt mb) e Q ↔ Ok mi e fun vs e1 => Ok (loopS mt mb vs) e1 Q := O.ok_for
theorem ok_loop0 {mt : Val → M Unit} {mb : S} {Q : Out → Ev → Prop} : Ok (loopS mt mb []) e Q ↔ Q .nx e := O.ok_loop0
theorem ok_loopC {mt : Val → M Unit} {mb : S} {v : Val} {vs : List Val} {Q : Out → Ev → Prop} : Ok (loopS mt mb (v :: vs)) e Q ↔ Ok (mt v) e fun _ e1 => Ok mb e1 fun o e2 => match o with
    | .nx => Ok (loopS mt mb vs) e2 Q
    | .ct => Ok (loopS mt mb vs) e2 Q
    | .bk => Q .nx e2
    | .rt r => Q (.rt r) e2 := O.ok_loopC
theorem Ok.loop {mt : Val → M Unit} {mb : S} (P : Nat → Ev → Prop) : ∀ {vs : List Val} {e : Ev} {i : Nat}, P i e → (∀ (j : Nat) (v : Val) (e : Ev), vs[j]? = some v → P (i + j) e → Ok (mt v) e fun _ e1 => Ok mb e1 fun o e2 => (o = .nx ∨ o = .ct) ∧ P (i + j + 1) e2) →
    Ok (loopS mt mb vs) e fun o e' => o = .nx ∧ P (i + vs.length) e' := O.Ok.loop P
theorem ok_items {m : M RV} {Q : List Val → Ev → Prop} : Ok (mItems m) e Q ↔ Ok m e fun r e1 => Ok (M.dt r) e1 fun v e2 => match v with
    | .lst xs => Q xs e2
    | .tup xs => Q xs e2
    | _ => False := O.ok_items
theorem ok_rng1 {m : M RV} {Q : List Val → Ev → Prop} : Ok (mRng1 m) e Q ↔ Ok m e fun r e1 => Ok (M.rd r) e1 fun v e2 => match v with
    | .int j => (-4611686018427387904 ≤ j ∧ j < 4611686018427387904) ∧ Q (rangeV 0 j) e2
    | _ => False := O.ok_rng1
theorem ok_rng2 {a b : M RV} {Q : List Val → Ev → Prop} : Ok (mRng2 a b) e Q ↔ Ok a e fun r e1 => Ok b e1 fun s e2 => Ok (M.rd r) e2 fun v e3 => Ok (M.rd s) e3 fun w e4 => match v, w with
    | .int i, .int j => (-4611686018427387904 ≤ i ∧ i < 4611686018427387904 ∧ -4611686018427387904 ≤ j ∧ j < 4611686018427387904) ∧ Q (rangeV i j) e4
    | _, _ => False := O.ok_rng2
theorem ok_comp {ws : List Nat} {mi : M (List Val)} {mt : Val → M Unit} {mc : M Bool} {me : M RV} {Q : RV → Ev → Prop} : Ok (mComp ws mi mt mc me) e Q ↔ Ok mi e fun vs e1 => Ok (compS ws mt mc me vs []) (wipeE e1 ws) fun acc e2 => Q (.tmp (.lst acc)) e2 := O.ok_comp
theorem ok_yes {Q : Bool → Ev → Prop} : Ok mYes e Q ↔ Q true e := O.ok_yes
theorem ok_sl {a : M RV} {lo hi : M (Option Int)} {Q : RV → Ev → Prop} : Ok (mSl a lo hi) e Q ↔ Ok a e fun r e1 => Ok lo e1 fun l e2 => Ok hi e2 fun u e3 => Ok (M.rd r) e3 fun v e4 => Ok (slV v l u) e4 Q := O.ok_sl
theorem ok_noP {Q : Option Int → Ev → Prop} : Ok mNoP e Q ↔ Q none e := O.ok_noP
theorem ok_pt {a : M RV} {Q : Option Int → Ev → Prop} : Ok (mPt a) e Q ↔ Ok a e fun r e1 => Ok (M.rd r) e1 fun v e2 => match v with
    | .int i => Q (some i) e2
    | _ => False := O.ok_pt
theorem ok_slL {xs : List Val} {l u : Option Int} {Q : RV → Ev → Prop} : Ok (slV (.lst xs) l u) e Q ↔ Q (.tmp (.lst (cutA xs l u))) e := O.ok_slL
theorem ok_slT {xs : List Val} {l u : Option Int} {Q : RV → Ev → Prop} : Ok (slV (.tup xs) l u) e Q ↔ Q (.dat (.tup (cutA xs l u))) e := O.ok_slT
theorem ok_rep {a b : M RV} {Q : RV → Ev → Prop} : Ok (mRep a b) e Q ↔ Ok a e fun r e1 => Ok b e1 fun s e2 => Ok (M.rd s) e2 fun k e3 => match r, k with
    | .tmp (.lst xs), .int n => (-9223372036854775808 ≤ n ∧ n < 9223372036854775808 ∧ xs.length * n.toNat ≤ sizeLine) ∧ Q (.tmp (.lst (List.replicate n.toNat xs).flatten)) e3
    | _, _ => False := O.ok_rep
theorem ok_app {mo ma : M RV} {Q : RV → Ev → Prop} : Ok (mApp mo ma) e Q ↔ Ok mo e fun r e1 => Ok (M.rd r) e1 fun v0 e2 => match r, v0 with
    | .bor i, .lst _ => Ok ma e2 fun s e3 => Ok (M.dt s) e3 fun v e4 => (match e4[i]? with
      | some (.own (.lst xs)) => xs.length < sizeLine ∧ Q (.dat .non) (e4.set i (.own (.lst (xs ++ [v]))))
      | _ => False)
    | _, _ => False := O.ok_app
end Pu
set_option Elab.async false
set_option linter.all false
set_option maxRecDepth 100000
namespace Pu
open PySem PySem.Spec PyProof.Rows L2
variable {e : Ev} {Q : RV → Ev → Prop}
theorem ok_ic {c : Int → Int → Prop} [∀ i j, Decidable (c i j)] {g : Int → Int → Val} {i j : Int} : Ok (oIC c g (.int i) (.int j)) e Q ↔ c i j ∧ Q (.dat (g i j)) e := by
  unfold oIC
  dsimp only
  by_cases h : c i j
  · rw [if_pos h]; exact ⟨fun z => ⟨h, z⟩, fun z => z.2⟩
  · rw [if_neg h]; exact ⟨fun z => z.elim, fun z => h z.1⟩
theorem ok_oSub {i j : Int} : Ok (oSub (.int i) (.int j)) e Q ↔ Q (.dat (.int (i - j))) e := Iff.rfl
theorem ok_oMul {i j : Int} : Ok (oMul (.int i) (.int j)) e Q ↔ cMul i j ∧ Q (.dat (.int (i * j))) e := ok_ic
theorem ok_oDiv {i j : Int} : Ok (oDiv (.int i) (.int j)) e Q ↔ cDiv i j ∧ Q (.dat (.int (i / j))) e := ok_ic
theorem ok_oMod {i j : Int} : Ok (oMod (.int i) (.int j)) e Q ↔ cMod i j ∧ Q (.dat (.int (i % j))) e := ok_ic
theorem ok_oPow {i j : Int} : Ok (oPow (.int i) (.int j)) e Q ↔ cPow i j ∧ Q (.dat (.int (i ^ j.toNat))) e := ok_ic
theorem ok_oLt {i j : Int} : Ok (oLt (.int i) (.int j)) e Q ↔ Q (.dat (.bl (decide (i < j)))) e := Iff.rfl
theorem ok_oLe {i j : Int} : Ok (oLe (.int i) (.int j)) e Q ↔ Q (.dat (.bl (decide (i ≤ j)))) e := Iff.rfl
theorem ok_oGt {i j : Int} : Ok (oGt (.int i) (.int j)) e Q ↔ Q (.dat (.bl (decide (j < i)))) e := Iff.rfl
theorem ok_oGe {i j : Int} : Ok (oGe (.int i) (.int j)) e Q ↔ Q (.dat (.bl (decide (j ≤ i)))) e := Iff.rfl
theorem ok_oAdd {i j : Int} : Ok (oAdd (.int i) (.int j)) e Q ↔ Q (.dat (.int (i + j))) e := Iff.rfl
theorem ok_oAddL {a b : List Val} : Ok (oAdd (.lst a) (.lst b)) e Q ↔ a.length + b.length ≤ sizeLine ∧ Q (.tmp (.lst (a ++ b))) e := by
  show Ok (if _ then _ else _) e Q ↔ _
  by_cases h : a.length + b.length ≤ sizeLine
  · rw [if_pos h]; exact ⟨fun z => ⟨h, z⟩, fun z => z.2⟩
  · rw [if_neg h]; exact ⟨fun z => z.elim, fun z => h z.1⟩
theorem ok_oAddT {a b : List Val} : Ok (oAdd (.tup a) (.tup b)) e Q ↔ a.length + b.length ≤ sizeLine ∧ Q (.dat (.tup (a ++ b))) e := by
  show Ok (if _ then _ else _) e Q ↔ _
  by_cases h : a.length + b.length ≤ sizeLine
  · rw [if_pos h]; exact ⟨fun z => ⟨h, z⟩, fun z => z.2⟩
  · rw [if_neg h]; exact ⟨fun z => z.elim, fun z => h z.1⟩
theorem ok_oAddI {i j : Int} : Ok (oAddI (.int i) (.int j)) e Q ↔ Q (.dat (.int (i + j))) e := Iff.rfl
theorem ok_oEqI {i j : Int} : Ok (oEq (.int i) (.int j)) e Q ↔ (dOk (.int i) = true ∧ dOk (.int j) = true) ∧ Q (.dat (.bl (veq (.int i) (.int j)))) e := by
  show Ok (if (dOk (.int i) && dOk (.int j)) = true then mV (.bl (veq (.int i) (.int j))) else M.bad) e Q ↔ _
  by_cases h : (dOk (.int i) && dOk (.int j)) = true
  · rw [if_pos h]; rw [Bool.and_eq_true] at h; exact ⟨fun z => ⟨h, z⟩, fun z => z.2⟩
  · rw [if_neg h]; rw [Bool.and_eq_true] at h; exact ⟨fun z => z.elim, fun z => h z.1⟩
theorem ok_oEqL {xs ys : List Val} : Ok (oEq (.lst xs) (.lst ys)) e Q ↔ (dOk (.lst xs) = true ∧ dOk (.lst ys) = true) ∧ Q (.dat (.bl (veq (.lst xs) (.lst ys)))) e := by
  show Ok (if (dOk (.lst xs) && dOk (.lst ys)) = true then mV (.bl (veq (.lst xs) (.lst ys))) else M.bad) e Q ↔ _
  by_cases h : (dOk (.lst xs) && dOk (.lst ys)) = true
  · rw [if_pos h]; rw [Bool.and_eq_true] at h; exact ⟨fun z => ⟨h, z⟩, fun z => z.2⟩
  · rw [if_neg h]; rw [Bool.and_eq_true] at h; exact ⟨fun z => z.elim, fun z => h z.1⟩
theorem ok_oEqT {xs ys : List Val} : Ok (oEq (.tup xs) (.tup ys)) e Q ↔ (dOk (.tup xs) = true ∧ dOk (.tup ys) = true) ∧ Q (.dat (.bl (veq (.tup xs) (.tup ys)))) e := by
  show Ok (if (dOk (.tup xs) && dOk (.tup ys)) = true then mV (.bl (veq (.tup xs) (.tup ys))) else M.bad) e Q ↔ _
  by_cases h : (dOk (.tup xs) && dOk (.tup ys)) = true
  · rw [if_pos h]; rw [Bool.and_eq_true] at h; exact ⟨fun z => ⟨h, z⟩, fun z => z.2⟩
  · rw [if_neg h]; rw [Bool.and_eq_true] at h; exact ⟨fun z => z.elim, fun z => h z.1⟩
theorem ok_oEqB {i j : Bool} : Ok (oEq (.bl i) (.bl j)) e Q ↔ (dOk (.bl i) = true ∧ dOk (.bl j) = true) ∧ Q (.dat (.bl (veq (.bl i) (.bl j)))) e := by
  show Ok (if (dOk (.bl i) && dOk (.bl j)) = true then mV (.bl (veq (.bl i) (.bl j))) else M.bad) e Q ↔ _
  by_cases h : (dOk (.bl i) && dOk (.bl j)) = true
  · rw [if_pos h]; rw [Bool.and_eq_true] at h; exact ⟨fun z => ⟨h, z⟩, fun z => z.2⟩
  · rw [if_neg h]; rw [Bool.and_eq_true] at h; exact ⟨fun z => z.elim, fun z => h z.1⟩
theorem ok_oEqN {i : Int} : Ok (oEq (.int i) (.non)) e Q ↔ (dOk (.int i) = true ∧ dOk (.non) = true) ∧ Q (.dat (.bl (veq (.int i) (.non)))) e := by
  show Ok (if (dOk (.int i) && dOk (.non)) = true then mV (.bl (veq (.int i) (.non))) else M.bad) e Q ↔ _
  by_cases h : (dOk (.int i) && dOk (.non)) = true
  · rw [if_pos h]; rw [Bool.and_eq_true] at h; exact ⟨fun z => ⟨h, z⟩, fun z => z.2⟩
  · rw [if_neg h]; rw [Bool.and_eq_true] at h; exact ⟨fun z => z.elim, fun z => h z.1⟩
theorem ok_oEqS {a b : Str} : Ok (oEq (.str a) (.str b)) e Q ↔ Q (.dat (.bl (decide (a = b)))) e := Iff.rfl
theorem ok_oNeI {i j : Int} : Ok (oNe (.int i) (.int j)) e Q ↔ (dOk (.int i) = true ∧ dOk (.int j) = true) ∧ Q (.dat (.bl (!veq (.int i) (.int j)))) e := by
  show Ok (if (dOk (.int i) && dOk (.int j)) = true then mV (.bl (!veq (.int i) (.int j))) else M.bad) e Q ↔ _
  by_cases h : (dOk (.int i) && dOk (.int j)) = true
  · rw [if_pos h]; rw [Bool.and_eq_true] at h; exact ⟨fun z => ⟨h, z⟩, fun z => z.2⟩
  · rw [if_neg h]; rw [Bool.and_eq_true] at h; exact ⟨fun z => z.elim, fun z => h z.1⟩
theorem ok_oNeL {xs ys : List Val} : Ok (oNe (.lst xs) (.lst ys)) e Q ↔ (dOk (.lst xs) = true ∧ dOk (.lst ys) = true) ∧ Q (.dat (.bl (!veq (.lst xs) (.lst ys)))) e := by
  show Ok (if (dOk (.lst xs) && dOk (.lst ys)) = true then mV (.bl (!veq (.lst xs) (.lst ys))) else M.bad) e Q ↔ _
  by_cases h : (dOk (.lst xs) && dOk (.lst ys)) = true
  · rw [if_pos h]; rw [Bool.and_eq_true] at h; exact ⟨fun z => ⟨h, z⟩, fun z => z.2⟩
  · rw [if_neg h]; rw [Bool.and_eq_true] at h; exact ⟨fun z => z.elim, fun z => h z.1⟩
theorem ok_oNeT {xs ys : List Val} : Ok (oNe (.tup xs) (.tup ys)) e Q ↔ (dOk (.tup xs) = true ∧ dOk (.tup ys) = true) ∧ Q (.dat (.bl (!veq (.tup xs) (.tup ys)))) e := by
  show Ok (if (dOk (.tup xs) && dOk (.tup ys)) = true then mV (.bl (!veq (.tup xs) (.tup ys))) else M.bad) e Q ↔ _
  by_cases h : (dOk (.tup xs) && dOk (.tup ys)) = true
  · rw [if_pos h]; rw [Bool.and_eq_true] at h; exact ⟨fun z => ⟨h, z⟩, fun z => z.2⟩
  · rw [if_neg h]; rw [Bool.and_eq_true] at h; exact ⟨fun z => z.elim, fun z => h z.1⟩
theorem ok_oNeB {i j : Bool} : Ok (oNe (.bl i) (.bl j)) e Q ↔ (dOk (.bl i) = true ∧ dOk (.bl j) = true) ∧ Q (.dat (.bl (!veq (.bl i) (.bl j)))) e := by
  show Ok (if (dOk (.bl i) && dOk (.bl j)) = true then mV (.bl (!veq (.bl i) (.bl j))) else M.bad) e Q ↔ _
  by_cases h : (dOk (.bl i) && dOk (.bl j)) = true
  · rw [if_pos h]; rw [Bool.and_eq_true] at h; exact ⟨fun z => ⟨h, z⟩, fun z => z.2⟩
  · rw [if_neg h]; rw [Bool.and_eq_true] at h; exact ⟨fun z => z.elim, fun z => h z.1⟩
theorem ok_oNeN {i : Int} : Ok (oNe (.int i) (.non)) e Q ↔ (dOk (.int i) = true ∧ dOk (.non) = true) ∧ Q (.dat (.bl (!veq (.int i) (.non)))) e := by
  show Ok (if (dOk (.int i) && dOk (.non)) = true then mV (.bl (!veq (.int i) (.non))) else M.bad) e Q ↔ _
  by_cases h : (dOk (.int i) && dOk (.non)) = true
  · rw [if_pos h]; rw [Bool.and_eq_true] at h; exact ⟨fun z => ⟨h, z⟩, fun z => z.2⟩
  · rw [if_neg h]; rw [Bool.and_eq_true] at h; exact ⟨fun z => z.elim, fun z => h z.1⟩
theorem ok_oNeS {a b : Str} : Ok (oNe (.str a) (.str b)) e Q ↔ Q (.dat (.bl (!decide (a = b)))) e := Iff.rfl
theorem ok_oIs {x : Val} : Ok (oIs x .non) e Q ↔ Q (.dat (.bl (isNon x))) e := Iff.rfl
theorem ok_oIsN {x : Val} : Ok (oIsN x .non) e Q ↔ Q (.dat (.bl (!isNon x))) e := Iff.rfl
theorem ok_ixL {xs : List Val} {i : Int} : Ok (oIx (.lst xs) (.int i)) e Q ↔ ∃ v, atI xs i = some v ∧ Q (.dat v) e := by
  show Ok (match atI xs i with
    | some v => mV v
    | none => M.bad) e Q ↔ _
  cases atI xs i with
  | none => simp [ok_bad]
  | some v => simp [ok_mV]
theorem ok_ixT {xs : List Val} {i : Int} : Ok (oIx (.tup xs) (.int i)) e Q ↔ ∃ v, atI xs i = some v ∧ Q (.dat v) e := by
  show Ok (match atI xs i with
    | some v => mV v
    | none => M.bad) e Q ↔ _
  cases atI xs i with
  | none => simp [ok_bad]
  | some v => simp [ok_mV]
theorem atI_lit {α : Type} {xs : List α} (k : Nat) {a : α} (h : xs[k]? = some a) : atI xs (k : Int) = some a := by
  have hl : k < xs.length := (List.getElem?_eq_some_iff.mp h).1
  unfold atI ixN
  rw [if_pos (by omega), if_pos (by omega)]
  simpa using h
theorem ixn_lit {n : Nat} (k : Nat) (h : k < n) : ixN n (k : Int) = some k := by
  unfold ixN
  rw [if_pos (by omega), if_pos (by omega)]
  simp
section
variable {a b c d f : Val} {l : List Val}
theorem ix_0 : Ok (oIx (.lst (a :: l)) (.int 0)) e Q ↔ Q (.dat a) e := by rw [ok_ixL, show atI (a :: l) 0 = some a from atI_lit 0 rfl]; simp
theorem ix_1 : Ok (oIx (.lst (a :: b :: l)) (.int 1)) e Q ↔ Q (.dat b) e := by rw [ok_ixL, show atI (a :: b :: l) 1 = some b from atI_lit 1 rfl]; simp
theorem ix_2 : Ok (oIx (.lst (a :: b :: c :: l)) (.int 2)) e Q ↔ Q (.dat c) e := by rw [ok_ixL, show atI (a :: b :: c :: l) 2 = some c from atI_lit 2 rfl]; simp
theorem ix_3 : Ok (oIx (.lst (a :: b :: c :: d :: l)) (.int 3)) e Q ↔ Q (.dat d) e := by rw [ok_ixL, show atI (a :: b :: c :: d :: l) 3 = some d from atI_lit 3 rfl]; simp
theorem ix_4 : Ok (oIx (.lst (a :: b :: c :: d :: f :: l)) (.int 4)) e Q ↔ Q (.dat f) e := by rw [ok_ixL, show atI (a :: b :: c :: d :: f :: l) 4 = some f from atI_lit 4 rfl]; simp
theorem it_0 : Ok (oIx (.tup (a :: l)) (.int 0)) e Q ↔ Q (.dat a) e := by rw [ok_ixT, show atI (a :: l) 0 = some a from atI_lit 0 rfl]; simp
theorem it_1 : Ok (oIx (.tup (a :: b :: l)) (.int 1)) e Q ↔ Q (.dat b) e := by rw [ok_ixT, show atI (a :: b :: l) 1 = some b from atI_lit 1 rfl]; simp
theorem it_2 : Ok (oIx (.tup (a :: b :: c :: l)) (.int 2)) e Q ↔ Q (.dat c) e := by rw [ok_ixT, show atI (a :: b :: c :: l) 2 = some c from atI_lit 2 rfl]; simp
theorem it_3 : Ok (oIx (.tup (a :: b :: c :: d :: l)) (.int 3)) e Q ↔ Q (.dat d) e := by rw [ok_ixT, show atI (a :: b :: c :: d :: l) 3 = some d from atI_lit 3 rfl]; simp
end
theorem ixn_0 {n : Nat} : ixN (n + 1) 0 = some 0 := ixn_lit 0 (by omega)
theorem ixn_1 {n : Nat} : ixN (n + 1 + 1) 1 = some 1 := ixn_lit 1 (by omega)
theorem ixn_2 {n : Nat} : ixN (n + 1 + 1 + 1) 2 = some 2 := ixn_lit 2 (by omega)
theorem atI_mem {xs : List Val} {i : Int} (h0 : 0 ≤ i) (h1 : i < xs.length) : ∃ v ∈ xs, atI xs i = some v := by
  have hl : i.toNat < xs.length := by omega
  refine ⟨xs[i.toNat], List.getElem_mem hl, ?_⟩
  unfold atI ixN
  rw [if_pos h0, if_pos h1]
  simp [List.getElem?_eq_getElem hl]
theorem ok_d1 {nn : Nat} {b : S} {s0 : Slot} : Ok (fnDen 1 nn b) [s0] Q ↔ Ok b ([s0] ++ List.replicate (nn - 1) Slot.un) fun o e' => match o with
    | .nx => Q (.dat .non) (outE (e'.take 1))
    | .rt (.dat v) => Q (.dat v) (outE (e'.take 1))
    | .rt (.tmp v) => Q (.tmp v) (outE (e'.take 1))
    | .rt (.bor i) => (match e'[i]? with
      | some (.own v) => Q (.tmp v) (outE ((e'.set i .un).take 1))
      | some (.dat v) => Q (.dat v) (outE (e'.take 1))
      | _ => False)
    | _ => False := ok_den rfl
theorem ok_d2 {nn : Nat} {b : S} {s0 s1 : Slot} : Ok (fnDen 2 nn b) [s0, s1] Q ↔ Ok b ([s0, s1] ++ List.replicate (nn - 2) Slot.un) fun o e' => match o with
    | .nx => Q (.dat .non) (outE (e'.take 2))
    | .rt (.dat v) => Q (.dat v) (outE (e'.take 2))
    | .rt (.tmp v) => Q (.tmp v) (outE (e'.take 2))
    | .rt (.bor i) => (match e'[i]? with
      | some (.own v) => Q (.tmp v) (outE ((e'.set i .un).take 2))
      | some (.dat v) => Q (.dat v) (outE (e'.take 2))
      | _ => False)
    | _ => False := ok_den rfl
theorem ok_d3 {nn : Nat} {b : S} {s0 s1 s2 : Slot} : Ok (fnDen 3 nn b) [s0, s1, s2] Q ↔ Ok b ([s0, s1, s2] ++ List.replicate (nn - 3) Slot.un) fun o e' => match o with
    | .nx => Q (.dat .non) (outE (e'.take 3))
    | .rt (.dat v) => Q (.dat v) (outE (e'.take 3))
    | .rt (.tmp v) => Q (.tmp v) (outE (e'.take 3))
    | .rt (.bor i) => (match e'[i]? with
      | some (.own v) => Q (.tmp v) (outE ((e'.set i .un).take 3))
      | some (.dat v) => Q (.dat v) (outE (e'.take 3))
      | _ => False)
    | _ => False := ok_den rfl
theorem ok_d4 {nn : Nat} {b : S} {s0 s1 s2 s3 : Slot} : Ok (fnDen 4 nn b) [s0, s1, s2, s3] Q ↔ Ok b ([s0, s1, s2, s3] ++ List.replicate (nn - 4) Slot.un) fun o e' => match o with
    | .nx => Q (.dat .non) (outE (e'.take 4))
    | .rt (.dat v) => Q (.dat v) (outE (e'.take 4))
    | .rt (.tmp v) => Q (.tmp v) (outE (e'.take 4))
    | .rt (.bor i) => (match e'[i]? with
      | some (.own v) => Q (.tmp v) (outE ((e'.set i .un).take 4))
      | some (.dat v) => Q (.dat v) (outE (e'.take 4))
      | _ => False)
    | _ => False := ok_den rfl
theorem ok_d5 {nn : Nat} {b : S} {s0 s1 s2 s3 s4 : Slot} : Ok (fnDen 5 nn b) [s0, s1, s2, s3, s4] Q ↔ Ok b ([s0, s1, s2, s3, s4] ++ List.replicate (nn - 5) Slot.un) fun o e' => match o with
    | .nx => Q (.dat .non) (outE (e'.take 5))
    | .rt (.dat v) => Q (.dat v) (outE (e'.take 5))
    | .rt (.tmp v) => Q (.tmp v) (outE (e'.take 5))
    | .rt (.bor i) => (match e'[i]? with
      | some (.own v) => Q (.tmp v) (outE ((e'.set i .un).take 5))
      | some (.dat v) => Q (.dat v) (outE (e'.take 5))
      | _ => False)
    | _ => False := ok_den rfl
theorem ok_d6 {nn : Nat} {b : S} {s0 s1 s2 s3 s4 s5 : Slot} : Ok (fnDen 6 nn b) [s0, s1, s2, s3, s4, s5] Q ↔ Ok b ([s0, s1, s2, s3, s4, s5] ++ List.replicate (nn - 6) Slot.un) fun o e' => match o with
    | .nx => Q (.dat .non) (outE (e'.take 6))
    | .rt (.dat v) => Q (.dat v) (outE (e'.take 6))
    | .rt (.tmp v) => Q (.tmp v) (outE (e'.take 6))
    | .rt (.bor i) => (match e'[i]? with
      | some (.own v) => Q (.tmp v) (outE ((e'.set i .un).take 6))
      | some (.dat v) => Q (.dat v) (outE (e'.take 6))
      | _ => False)
    | _ => False := ok_den rfl
theorem ok_d7 {nn : Nat} {b : S} {s0 s1 s2 s3 s4 s5 s6 : Slot} : Ok (fnDen 7 nn b) [s0, s1, s2, s3, s4, s5, s6] Q ↔ Ok b ([s0, s1, s2, s3, s4, s5, s6] ++ List.replicate (nn - 7) Slot.un) fun o e' => match o with
    | .nx => Q (.dat .non) (outE (e'.take 7))
    | .rt (.dat v) => Q (.dat v) (outE (e'.take 7))
    | .rt (.tmp v) => Q (.tmp v) (outE (e'.take 7))
    | .rt (.bor i) => (match e'[i]? with
      | some (.own v) => Q (.tmp v) (outE ((e'.set i .un).take 7))
      | some (.dat v) => Q (.dat v) (outE (e'.take 7))
      | _ => False)
    | _ => False := ok_den rfl
section
variable {l : List Slot} {v : Val} {P : Val → Ev → Prop}
theorem vD_0 : Ok (mVar 0) (.dat v :: l) Q ↔ Q (.dat v) (.dat v :: l) := Iff.rfl
theorem vO_0 : Ok (mVar 0) (.own v :: l) Q ↔ Q (.bor 0) (.own v :: l) := Iff.rfl
theorem rD_0 : Ok (M.rd (.bor 0)) (.dat v :: l) P ↔ P v (.dat v :: l) := Iff.rfl
theorem rO_0 : Ok (M.rd (.bor 0)) (.own v :: l) P ↔ P v (.own v :: l) := Iff.rfl
theorem kD_0 : Ok (M.dt (.bor 0)) (.dat v :: l) P ↔ P v (.dat v :: l) := Iff.rfl
theorem kO_0 : Ok (M.dt (.bor 0)) (.own v :: l) P ↔ P v (.dat v :: l) := Iff.rfl
theorem vD_1 {s0 : Slot} : Ok (mVar 1) (s0 :: .dat v :: l) Q ↔ Q (.dat v) (s0 :: .dat v :: l) := Iff.rfl
theorem vO_1 {s0 : Slot} : Ok (mVar 1) (s0 :: .own v :: l) Q ↔ Q (.bor 1) (s0 :: .own v :: l) := Iff.rfl
theorem rD_1 {s0 : Slot} : Ok (M.rd (.bor 1)) (s0 :: .dat v :: l) P ↔ P v (s0 :: .dat v :: l) := Iff.rfl
theorem rO_1 {s0 : Slot} : Ok (M.rd (.bor 1)) (s0 :: .own v :: l) P ↔ P v (s0 :: .own v :: l) := Iff.rfl
theorem kD_1 {s0 : Slot} : Ok (M.dt (.bor 1)) (s0 :: .dat v :: l) P ↔ P v (s0 :: .dat v :: l) := Iff.rfl
theorem kO_1 {s0 : Slot} : Ok (M.dt (.bor 1)) (s0 :: .own v :: l) P ↔ P v (s0 :: .dat v :: l) := Iff.rfl
theorem vD_2 {s0 s1 : Slot} : Ok (mVar 2) (s0 :: s1 :: .dat v :: l) Q ↔ Q (.dat v) (s0 :: s1 :: .dat v :: l) := Iff.rfl
theorem vO_2 {s0 s1 : Slot} : Ok (mVar 2) (s0 :: s1 :: .own v :: l) Q ↔ Q (.bor 2) (s0 :: s1 :: .own v :: l) := Iff.rfl
theorem rD_2 {s0 s1 : Slot} : Ok (M.rd (.bor 2)) (s0 :: s1 :: .dat v :: l) P ↔ P v (s0 :: s1 :: .dat v :: l) := Iff.rfl
theorem rO_2 {s0 s1 : Slot} : Ok (M.rd (.bor 2)) (s0 :: s1 :: .own v :: l) P ↔ P v (s0 :: s1 :: .own v :: l) := Iff.rfl
theorem kD_2 {s0 s1 : Slot} : Ok (M.dt (.bor 2)) (s0 :: s1 :: .dat v :: l) P ↔ P v (s0 :: s1 :: .dat v :: l) := Iff.rfl
theorem kO_2 {s0 s1 : Slot} : Ok (M.dt (.bor 2)) (s0 :: s1 :: .own v :: l) P ↔ P v (s0 :: s1 :: .dat v :: l) := Iff.rfl
theorem vD_3 {s0 s1 s2 : Slot} : Ok (mVar 3) (s0 :: s1 :: s2 :: .dat v :: l) Q ↔ Q (.dat v) (s0 :: s1 :: s2 :: .dat v :: l) := Iff.rfl
theorem vO_3 {s0 s1 s2 : Slot} : Ok (mVar 3) (s0 :: s1 :: s2 :: .own v :: l) Q ↔ Q (.bor 3) (s0 :: s1 :: s2 :: .own v :: l) := Iff.rfl
theorem rD_3 {s0 s1 s2 : Slot} : Ok (M.rd (.bor 3)) (s0 :: s1 :: s2 :: .dat v :: l) P ↔ P v (s0 :: s1 :: s2 :: .dat v :: l) := Iff.rfl
theorem rO_3 {s0 s1 s2 : Slot} : Ok (M.rd (.bor 3)) (s0 :: s1 :: s2 :: .own v :: l) P ↔ P v (s0 :: s1 :: s2 :: .own v :: l) := Iff.rfl
theorem kD_3 {s0 s1 s2 : Slot} : Ok (M.dt (.bor 3)) (s0 :: s1 :: s2 :: .dat v :: l) P ↔ P v (s0 :: s1 :: s2 :: .dat v :: l) := Iff.rfl
theorem kO_3 {s0 s1 s2 : Slot} : Ok (M.dt (.bor 3)) (s0 :: s1 :: s2 :: .own v :: l) P ↔ P v (s0 :: s1 :: s2 :: .dat v :: l) := Iff.rfl
theorem vD_4 {s0 s1 s2 s3 : Slot} : Ok (mVar 4) (s0 :: s1 :: s2 :: s3 :: .dat v :: l) Q ↔ Q (.dat v) (s0 :: s1 :: s2 :: s3 :: .dat v :: l) := Iff.rfl
theorem vO_4 {s0 s1 s2 s3 : Slot} : Ok (mVar 4) (s0 :: s1 :: s2 :: s3 :: .own v :: l) Q ↔ Q (.bor 4) (s0 :: s1 :: s2 :: s3 :: .own v :: l) := Iff.rfl
theorem rD_4 {s0 s1 s2 s3 : Slot} : Ok (M.rd (.bor 4)) (s0 :: s1 :: s2 :: s3 :: .dat v :: l) P ↔ P v (s0 :: s1 :: s2 :: s3 :: .dat v :: l) := Iff.rfl
theorem rO_4 {s0 s1 s2 s3 : Slot} : Ok (M.rd (.bor 4)) (s0 :: s1 :: s2 :: s3 :: .own v :: l) P ↔ P v (s0 :: s1 :: s2 :: s3 :: .own v :: l) := Iff.rfl
theorem kD_4 {s0 s1 s2 s3 : Slot} : Ok (M.dt (.bor 4)) (s0 :: s1 :: s2 :: s3 :: .dat v :: l) P ↔ P v (s0 :: s1 :: s2 :: s3 :: .dat v :: l) := Iff.rfl
theorem kO_4 {s0 s1 s2 s3 : Slot} : Ok (M.dt (.bor 4)) (s0 :: s1 :: s2 :: s3 :: .own v :: l) P ↔ P v (s0 :: s1 :: s2 :: s3 :: .dat v :: l) := Iff.rfl
theorem vD_5 {s0 s1 s2 s3 s4 : Slot} : Ok (mVar 5) (s0 :: s1 :: s2 :: s3 :: s4 :: .dat v :: l) Q ↔ Q (.dat v) (s0 :: s1 :: s2 :: s3 :: s4 :: .dat v :: l) := Iff.rfl
theorem vO_5 {s0 s1 s2 s3 s4 : Slot} : Ok (mVar 5) (s0 :: s1 :: s2 :: s3 :: s4 :: .own v :: l) Q ↔ Q (.bor 5) (s0 :: s1 :: s2 :: s3 :: s4 :: .own v :: l) := Iff.rfl
theorem rD_5 {s0 s1 s2 s3 s4 : Slot} : Ok (M.rd (.bor 5)) (s0 :: s1 :: s2 :: s3 :: s4 :: .dat v :: l) P ↔ P v (s0 :: s1 :: s2 :: s3 :: s4 :: .dat v :: l) := Iff.rfl
theorem rO_5 {s0 s1 s2 s3 s4 : Slot} : Ok (M.rd (.bor 5)) (s0 :: s1 :: s2 :: s3 :: s4 :: .own v :: l) P ↔ P v (s0 :: s1 :: s2 :: s3 :: s4 :: .own v :: l) := Iff.rfl
theorem kD_5 {s0 s1 s2 s3 s4 : Slot} : Ok (M.dt (.bor 5)) (s0 :: s1 :: s2 :: s3 :: s4 :: .dat v :: l) P ↔ P v (s0 :: s1 :: s2 :: s3 :: s4 :: .dat v :: l) := Iff.rfl
theorem kO_5 {s0 s1 s2 s3 s4 : Slot} : Ok (M.dt (.bor 5)) (s0 :: s1 :: s2 :: s3 :: s4 :: .own v :: l) P ↔ P v (s0 :: s1 :: s2 :: s3 :: s4 :: .dat v :: l) := Iff.rfl
theorem vD_6 {s0 s1 s2 s3 s4 s5 : Slot} : Ok (mVar 6) (s0 :: s1 :: s2 :: s3 :: s4 :: s5 :: .dat v :: l) Q ↔ Q (.dat v) (s0 :: s1 :: s2 :: s3 :: s4 :: s5 :: .dat v :: l) := Iff.rfl
theorem vO_6 {s0 s1 s2 s3 s4 s5 : Slot} : Ok (mVar 6) (s0 :: s1 :: s2 :: s3 :: s4 :: s5 :: .own v :: l) Q ↔ Q (.bor 6) (s0 :: s1 :: s2 :: s3 :: s4 :: s5 :: .own v :: l) := Iff.rfl
theorem rD_6 {s0 s1 s2 s3 s4 s5 : Slot} : Ok (M.rd (.bor 6)) (s0 :: s1 :: s2 :: s3 :: s4 :: s5 :: .dat v :: l) P ↔ P v (s0 :: s1 :: s2 :: s3 :: s4 :: s5 :: .dat v :: l) := Iff.rfl
theorem rO_6 {s0 s1 s2 s3 s4 s5 : Slot} : Ok (M.rd (.bor 6)) (s0 :: s1 :: s2 :: s3 :: s4 :: s5 :: .own v :: l) P ↔ P v (s0 :: s1 :: s2 :: s3 :: s4 :: s5 :: .own v :: l) := Iff.rfl
theorem kD_6 {s0 s1 s2 s3 s4 s5 : Slot} : Ok (M.dt (.bor 6)) (s0 :: s1 :: s2 :: s3 :: s4 :: s5 :: .dat v :: l) P ↔ P v (s0 :: s1 :: s2 :: s3 :: s4 :: s5 :: .dat v :: l) := Iff.rfl
theorem kO_6 {s0 s1 s2 s3 s4 s5 : Slot} : Ok (M.dt (.bor 6)) (s0 :: s1 :: s2 :: s3 :: s4 :: s5 :: .own v :: l) P ↔ P v (s0 :: s1 :: s2 :: s3 :: s4 :: s5 :: .dat v :: l) := Iff.rfl
theorem vD_7 {s0 s1 s2 s3 s4 s5 s6 : Slot} : Ok (mVar 7) (s0 :: s1 :: s2 :: s3 :: s4 :: s5 :: s6 :: .dat v :: l) Q ↔ Q (.dat v) (s0 :: s1 :: s2 :: s3 :: s4 :: s5 :: s6 :: .dat v :: l) := Iff.rfl
theorem vO_7 {s0 s1 s2 s3 s4 s5 s6 : Slot} : Ok (mVar 7) (s0 :: s1 :: s2 :: s3 :: s4 :: s5 :: s6 :: .own v :: l) Q ↔ Q (.bor 7) (s0 :: s1 :: s2 :: s3 :: s4 :: s5 :: s6 :: .own v :: l) := Iff.rfl
theorem rD_7 {s0 s1 s2 s3 s4 s5 s6 : Slot} : Ok (M.rd (.bor 7)) (s0 :: s1 :: s2 :: s3 :: s4 :: s5 :: s6 :: .dat v :: l) P ↔ P v (s0 :: s1 :: s2 :: s3 :: s4 :: s5 :: s6 :: .dat v :: l) := Iff.rfl
theorem rO_7 {s0 s1 s2 s3 s4 s5 s6 : Slot} : Ok (M.rd (.bor 7)) (s0 :: s1 :: s2 :: s3 :: s4 :: s5 :: s6 :: .own v :: l) P ↔ P v (s0 :: s1 :: s2 :: s3 :: s4 :: s5 :: s6 :: .own v :: l) := Iff.rfl
theorem kD_7 {s0 s1 s2 s3 s4 s5 s6 : Slot} : Ok (M.dt (.bor 7)) (s0 :: s1 :: s2 :: s3 :: s4 :: s5 :: s6 :: .dat v :: l) P ↔ P v (s0 :: s1 :: s2 :: s3 :: s4 :: s5 :: s6 :: .dat v :: l) := Iff.rfl
theorem kO_7 {s0 s1 s2 s3 s4 s5 s6 : Slot} : Ok (M.dt (.bor 7)) (s0 :: s1 :: s2 :: s3 :: s4 :: s5 :: s6 :: .own v :: l) P ↔ P v (s0 :: s1 :: s2 :: s3 :: s4 :: s5 :: s6 :: .dat v :: l) := Iff.rfl
theorem vD_8 {s0 s1 s2 s3 s4 s5 s6 s7 : Slot} : Ok (mVar 8) (s0 :: s1 :: s2 :: s3 :: s4 :: s5 :: s6 :: s7 :: .dat v :: l) Q ↔ Q (.dat v) (s0 :: s1 :: s2 :: s3 :: s4 :: s5 :: s6 :: s7 :: .dat v :: l) := Iff.rfl
theorem vO_8 {s0 s1 s2 s3 s4 s5 s6 s7 : Slot} : Ok (mVar 8) (s0 :: s1 :: s2 :: s3 :: s4 :: s5 :: s6 :: s7 :: .own v :: l) Q ↔ Q (.bor 8) (s0 :: s1 :: s2 :: s3 :: s4 :: s5 :: s6 :: s7 :: .own v :: l) := Iff.rfl
theorem rD_8 {s0 s1 s2 s3 s4 s5 s6 s7 : Slot} : Ok (M.rd (.bor 8)) (s0 :: s1 :: s2 :: s3 :: s4 :: s5 :: s6 :: s7 :: .dat v :: l) P ↔ P v (s0 :: s1 :: s2 :: s3 :: s4 :: s5 :: s6 :: s7 :: .dat v :: l) := Iff.rfl
theorem rO_8 {s0 s1 s2 s3 s4 s5 s6 s7 : Slot} : Ok (M.rd (.bor 8)) (s0 :: s1 :: s2 :: s3 :: s4 :: s5 :: s6 :: s7 :: .own v :: l) P ↔ P v (s0 :: s1 :: s2 :: s3 :: s4 :: s5 :: s6 :: s7 :: .own v :: l) := Iff.rfl
theorem kD_8 {s0 s1 s2 s3 s4 s5 s6 s7 : Slot} : Ok (M.dt (.bor 8)) (s0 :: s1 :: s2 :: s3 :: s4 :: s5 :: s6 :: s7 :: .dat v :: l) P ↔ P v (s0 :: s1 :: s2 :: s3 :: s4 :: s5 :: s6 :: s7 :: .dat v :: l) := Iff.rfl
theorem kO_8 {s0 s1 s2 s3 s4 s5 s6 s7 : Slot} : Ok (M.dt (.bor 8)) (s0 :: s1 :: s2 :: s3 :: s4 :: s5 :: s6 :: s7 :: .own v :: l) P ↔ P v (s0 :: s1 :: s2 :: s3 :: s4 :: s5 :: s6 :: s7 :: .dat v :: l) := Iff.rfl
theorem vD_9 {s0 s1 s2 s3 s4 s5 s6 s7 s8 : Slot} : Ok (mVar 9) (s0 :: s1 :: s2 :: s3 :: s4 :: s5 :: s6 :: s7 :: s8 :: .dat v :: l) Q ↔ Q (.dat v) (s0 :: s1 :: s2 :: s3 :: s4 :: s5 :: s6 :: s7 :: s8 :: .dat v :: l) := Iff.rfl
theorem vO_9 {s0 s1 s2 s3 s4 s5 s6 s7 s8 : Slot} : Ok (mVar 9) (s0 :: s1 :: s2 :: s3 :: s4 :: s5 :: s6 :: s7 :: s8 :: .own v :: l) Q ↔ Q (.bor 9) (s0 :: s1 :: s2 :: s3 :: s4 :: s5 :: s6 :: s7 :: s8 :: .own v :: l) := Iff.rfl
theorem rD_9 {s0 s1 s2 s3 s4 s5 s6 s7 s8 : Slot} : Ok (M.rd (.bor 9)) (s0 :: s1 :: s2 :: s3 :: s4 :: s5 :: s6 :: s7 :: s8 :: .dat v :: l) P ↔ P v (s0 :: s1 :: s2 :: s3 :: s4 :: s5 :: s6 :: s7 :: s8 :: .dat v :: l) := Iff.rfl
theorem rO_9 {s0 s1 s2 s3 s4 s5 s6 s7 s8 : Slot} : Ok (M.rd (.bor 9)) (s0 :: s1 :: s2 :: s3 :: s4 :: s5 :: s6 :: s7 :: s8 :: .own v :: l) P ↔ P v (s0 :: s1 :: s2 :: s3 :: s4 :: s5 :: s6 :: s7 :: s8 :: .own v :: l) := Iff.rfl
theorem kD_9 {s0 s1 s2 s3 s4 s5 s6 s7 s8 : Slot} : Ok (M.dt (.bor 9)) (s0 :: s1 :: s2 :: s3 :: s4 :: s5 :: s6 :: s7 :: s8 :: .dat v :: l) P ↔ P v (s0 :: s1 :: s2 :: s3 :: s4 :: s5 :: s6 :: s7 :: s8 :: .dat v :: l) := Iff.rfl
theorem kO_9 {s0 s1 s2 s3 s4 s5 s6 s7 s8 : Slot} : Ok (M.dt (.bor 9)) (s0 :: s1 :: s2 :: s3 :: s4 :: s5 :: s6 :: s7 :: s8 :: .own v :: l) P ↔ P v (s0 :: s1 :: s2 :: s3 :: s4 :: s5 :: s6 :: s7 :: s8 :: .dat v :: l) := Iff.rfl
theorem vD_10 {s0 s1 s2 s3 s4 s5 s6 s7 s8 s9 : Slot} : Ok (mVar 10) (s0 :: s1 :: s2 :: s3 :: s4 :: s5 :: s6 :: s7 :: s8 :: s9 :: .dat v :: l) Q ↔ Q (.dat v) (s0 :: s1 :: s2 :: s3 :: s4 :: s5 :: s6 :: s7 :: s8 :: s9 :: .dat v :: l) := Iff.rfl
theorem vO_10 {s0 s1 s2 s3 s4 s5 s6 s7 s8 s9 : Slot} : Ok (mVar 10) (s0 :: s1 :: s2 :: s3 :: s4 :: s5 :: s6 :: s7 :: s8 :: s9 :: .own v :: l) Q ↔ Q (.bor 10) (s0 :: s1 :: s2 :: s3 :: s4 :: s5 :: s6 :: s7 :: s8 :: s9 :: .own v :: l) := Iff.rfl
theorem rD_10 {s0 s1 s2 s3 s4 s5 s6 s7 s8 s9 : Slot} : Ok (M.rd (.bor 10)) (s0 :: s1 :: s2 :: s3 :: s4 :: s5 :: s6 :: s7 :: s8 :: s9 :: .dat v :: l) P ↔ P v (s0 :: s1 :: s2 :: s3 :: s4 :: s5 :: s6 :: s7 :: s8 :: s9 :: .dat v :: l) := Iff.rfl
theorem rO_10 {s0 s1 s2 s3 s4 s5 s6 s7 s8 s9 : Slot} : Ok (M.rd (.bor 10)) (s0 :: s1 :: s2 :: s3 :: s4 :: s5 :: s6 :: s7 :: s8 :: s9 :: .own v :: l) P ↔ P v (s0 :: s1 :: s2 :: s3 :: s4 :: s5 :: s6 :: s7 :: s8 :: s9 :: .own v :: l) := Iff.rfl
theorem kD_10 {s0 s1 s2 s3 s4 s5 s6 s7 s8 s9 : Slot} : Ok (M.dt (.bor 10)) (s0 :: s1 :: s2 :: s3 :: s4 :: s5 :: s6 :: s7 :: s8 :: s9 :: .dat v :: l) P ↔ P v (s0 :: s1 :: s2 :: s3 :: s4 :: s5 :: s6 :: s7 :: s8 :: s9 :: .dat v :: l) := Iff.rfl
theorem kO_10 {s0 s1 s2 s3 s4 s5 s6 s7 s8 s9 : Slot} : Ok (M.dt (.bor 10)) (s0 :: s1 :: s2 :: s3 :: s4 :: s5 :: s6 :: s7 :: s8 :: s9 :: .own v :: l) P ↔ P v (s0 :: s1 :: s2 :: s3 :: s4 :: s5 :: s6 :: s7 :: s8 :: s9 :: .dat v :: l) := Iff.rfl
theorem vD_11 {s0 s1 s2 s3 s4 s5 s6 s7 s8 s9 s10 : Slot} : Ok (mVar 11) (s0 :: s1 :: s2 :: s3 :: s4 :: s5 :: s6 :: s7 :: s8 :: s9 :: s10 :: .dat v :: l) Q ↔ Q (.dat v) (s0 :: s1 :: s2 :: s3 :: s4 :: s5 :: s6 :: s7 :: s8 :: s9 :: s10 :: .dat v :: l) := Iff.rfl
theorem vO_11 {s0 s1 s2 s3 s4 s5 s6 s7 s8 s9 s10 : Slot} : Ok (mVar 11) (s0 :: s1 :: s2 :: s3 :: s4 :: s5 :: s6 :: s7 :: s8 :: s9 :: s10 :: .own v :: l) Q ↔ Q (.bor 11) (s0 :: s1 :: s2 :: s3 :: s4 :: s5 :: s6 :: s7 :: s8 :: s9 :: s10 :: .own v :: l) := Iff.rfl
theorem rD_11 {s0 s1 s2 s3 s4 s5 s6 s7 s8 s9 s10 : Slot} : Ok (M.rd (.bor 11)) (s0 :: s1 :: s2 :: s3 :: s4 :: s5 :: s6 :: s7 :: s8 :: s9 :: s10 :: .dat v :: l) P ↔ P v (s0 :: s1 :: s2 :: s3 :: s4 :: s5 :: s6 :: s7 :: s8 :: s9 :: s10 :: .dat v :: l) := Iff.rfl
theorem rO_11 {s0 s1 s2 s3 s4 s5 s6 s7 s8 s9 s10 : Slot} : Ok (M.rd (.bor 11)) (s0 :: s1 :: s2 :: s3 :: s4 :: s5 :: s6 :: s7 :: s8 :: s9 :: s10 :: .own v :: l) P ↔ P v (s0 :: s1 :: s2 :: s3 :: s4 :: s5 :: s6 :: s7 :: s8 :: s9 :: s10 :: .own v :: l) := Iff.rfl
theorem kD_11 {s0 s1 s2 s3 s4 s5 s6 s7 s8 s9 s10 : Slot} : Ok (M.dt (.bor 11)) (s0 :: s1 :: s2 :: s3 :: s4 :: s5 :: s6 :: s7 :: s8 :: s9 :: s10 :: .dat v :: l) P ↔ P v (s0 :: s1 :: s2 :: s3 :: s4 :: s5 :: s6 :: s7 :: s8 :: s9 :: s10 :: .dat v :: l) := Iff.rfl
theorem kO_11 {s0 s1 s2 s3 s4 s5 s6 s7 s8 s9 s10 : Slot} : Ok (M.dt (.bor 11)) (s0 :: s1 :: s2 :: s3 :: s4 :: s5 :: s6 :: s7 :: s8 :: s9 :: s10 :: .own v :: l) P ↔ P v (s0 :: s1 :: s2 :: s3 :: s4 :: s5 :: s6 :: s7 :: s8 :: s9 :: s10 :: .dat v :: l) := Iff.rfl
theorem vD_12 {s0 s1 s2 s3 s4 s5 s6 s7 s8 s9 s10 s11 : Slot} : Ok (mVar 12) (s0 :: s1 :: s2 :: s3 :: s4 :: s5 :: s6 :: s7 :: s8 :: s9 :: s10 :: s11 :: .dat v :: l) Q ↔ Q (.dat v) (s0 :: s1 :: s2 :: s3 :: s4 :: s5 :: s6 :: s7 :: s8 :: s9 :: s10 :: s11 :: .dat v :: l) := Iff.rfl
theorem vO_12 {s0 s1 s2 s3 s4 s5 s6 s7 s8 s9 s10 s11 : Slot} : Ok (mVar 12) (s0 :: s1 :: s2 :: s3 :: s4 :: s5 :: s6 :: s7 :: s8 :: s9 :: s10 :: s11 :: .own v :: l) Q ↔ Q (.bor 12) (s0 :: s1 :: s2 :: s3 :: s4 :: s5 :: s6 :: s7 :: s8 :: s9 :: s10 :: s11 :: .own v :: l) := Iff.rfl
theorem rD_12 {s0 s1 s2 s3 s4 s5 s6 s7 s8 s9 s10 s11 : Slot} : Ok (M.rd (.bor 12)) (s0 :: s1 :: s2 :: s3 :: s4 :: s5 :: s6 :: s7 :: s8 :: s9 :: s10 :: s11 :: .dat v :: l) P ↔ P v (s0 :: s1 :: s2 :: s3 :: s4 :: s5 :: s6 :: s7 :: s8 :: s9 :: s10 :: s11 :: .dat v :: l) := Iff.rfl
theorem rO_12 {s0 s1 s2 s3 s4 s5 s6 s7 s8 s9 s10 s11 : Slot} : Ok (M.rd (.bor 12)) (s0 :: s1 :: s2 :: s3 :: s4 :: s5 :: s6 :: s7 :: s8 :: s9 :: s10 :: s11 :: .own v :: l) P ↔ P v (s0 :: s1 :: s2 :: s3 :: s4 :: s5 :: s6 :: s7 :: s8 :: s9 :: s10 :: s11 :: .own v :: l) := Iff.rfl
theorem kD_12 {s0 s1 s2 s3 s4 s5 s6 s7 s8 s9 s10 s11 : Slot} : Ok (M.dt (.bor 12)) (s0 :: s1 :: s2 :: s3 :: s4 :: s5 :: s6 :: s7 :: s8 :: s9 :: s10 :: s11 :: .dat v :: l) P ↔ P v (s0 :: s1 :: s2 :: s3 :: s4 :: s5 :: s6 :: s7 :: s8 :: s9 :: s10 :: s11 :: .dat v :: l) := Iff.rfl
theorem kO_12 {s0 s1 s2 s3 s4 s5 s6 s7 s8 s9 s10 s11 : Slot} : Ok (M.dt (.bor 12)) (s0 :: s1 :: s2 :: s3 :: s4 :: s5 :: s6 :: s7 :: s8 :: s9 :: s10 :: s11 :: .own v :: l) P ↔ P v (s0 :: s1 :: s2 :: s3 :: s4 :: s5 :: s6 :: s7 :: s8 :: s9 :: s10 :: s11 :: .dat v :: l) := Iff.rfl
theorem vD_13 {s0 s1 s2 s3 s4 s5 s6 s7 s8 s9 s10 s11 s12 : Slot} : Ok (mVar 13) (s0 :: s1 :: s2 :: s3 :: s4 :: s5 :: s6 :: s7 :: s8 :: s9 :: s10 :: s11 :: s12 :: .dat v :: l) Q ↔ Q (.dat v) (s0 :: s1 :: s2 :: s3 :: s4 :: s5 :: s6 :: s7 :: s8 :: s9 :: s10 :: s11 :: s12 :: .dat v :: l) := Iff.rfl
theorem vO_13 {s0 s1 s2 s3 s4 s5 s6 s7 s8 s9 s10 s11 s12 : Slot} : Ok (mVar 13) (s0 :: s1 :: s2 :: s3 :: s4 :: s5 :: s6 :: s7 :: s8 :: s9 :: s10 :: s11 :: s12 :: .own v :: l) Q ↔ Q (.bor 13) (s0 :: s1 :: s2 :: s3 :: s4 :: s5 :: s6 :: s7 :: s8 :: s9 :: s10 :: s11 :: s12 :: .own v :: l) := Iff.rfl
theorem rD_13 {s0 s1 s2 s3 s4 s5 s6 s7 s8 s9 s10 s11 s12 : Slot} : Ok (M.rd (.bor 13)) (s0 :: s1 :: s2 :: s3 :: s4 :: s5 :: s6 :: s7 :: s8 :: s9 :: s10 :: s11 :: s12 :: .dat v :: l) P ↔ P v (s0 :: s1 :: s2 :: s3 :: s4 :: s5 :: s6 :: s7 :: s8 :: s9 :: s10 :: s11 :: s12 :: .dat v :: l) := Iff.rfl
theorem rO_13 {s0 s1 s2 s3 s4 s5 s6 s7 s8 s9 s10 s11 s12 : Slot} : Ok (M.rd (.bor 13)) (s0 :: s1 :: s2 :: s3 :: s4 :: s5 :: s6 :: s7 :: s8 :: s9 :: s10 :: s11 :: s12 :: .own v :: l) P ↔ P v (s0 :: s1 :: s2 :: s3 :: s4 :: s5 :: s6 :: s7 :: s8 :: s9 :: s10 :: s11 :: s12 :: .own v :: l) := Iff.rfl
theorem kD_13 {s0 s1 s2 s3 s4 s5 s6 s7 s8 s9 s10 s11 s12 : Slot} : Ok (M.dt (.bor 13)) (s0 :: s1 :: s2 :: s3 :: s4 :: s5 :: s6 :: s7 :: s8 :: s9 :: s10 :: s11 :: s12 :: .dat v :: l) P ↔ P v (s0 :: s1 :: s2 :: s3 :: s4 :: s5 :: s6 :: s7 :: s8 :: s9 :: s10 :: s11 :: s12 :: .dat v :: l) := Iff.rfl
theorem kO_13 {s0 s1 s2 s3 s4 s5 s6 s7 s8 s9 s10 s11 s12 : Slot} : Ok (M.dt (.bor 13)) (s0 :: s1 :: s2 :: s3 :: s4 :: s5 :: s6 :: s7 :: s8 :: s9 :: s10 :: s11 :: s12 :: .own v :: l) P ↔ P v (s0 :: s1 :: s2 :: s3 :: s4 :: s5 :: s6 :: s7 :: s8 :: s9 :: s10 :: s11 :: s12 :: .dat v :: l) := Iff.rfl
theorem vD_14 {s0 s1 s2 s3 s4 s5 s6 s7 s8 s9 s10 s11 s12 s13 : Slot} : Ok (mVar 14) (s0 :: s1 :: s2 :: s3 :: s4 :: s5 :: s6 :: s7 :: s8 :: s9 :: s10 :: s11 :: s12 :: s13 :: .dat v :: l) Q ↔ Q (.dat v) (s0 :: s1 :: s2 :: s3 :: s4 :: s5 :: s6 :: s7 :: s8 :: s9 :: s10 :: s11 :: s12 :: s13 :: .dat v :: l) := Iff.rfl
theorem vO_14 {s0 s1 s2 s3 s4 s5 s6 s7 s8 s9 s10 s11 s12 s13 : Slot} : Ok (mVar 14) (s0 :: s1 :: s2 :: s3 :: s4 :: s5 :: s6 :: s7 :: s8 :: s9 :: s10 :: s11 :: s12 :: s13 :: .own v :: l) Q ↔ Q (.bor 14) (s0 :: s1 :: s2 :: s3 :: s4 :: s5 :: s6 :: s7 :: s8 :: s9 :: s10 :: s11 :: s12 :: s13 :: .own v :: l) := Iff.rfl
theorem rD_14 {s0 s1 s2 s3 s4 s5 s6 s7 s8 s9 s10 s11 s12 s13 : Slot} : Ok (M.rd (.bor 14)) (s0 :: s1 :: s2 :: s3 :: s4 :: s5 :: s6 :: s7 :: s8 :: s9 :: s10 :: s11 :: s12 :: s13 :: .dat v :: l) P ↔ P v (s0 :: s1 :: s2 :: s3 :: s4 :: s5 :: s6 :: s7 :: s8 :: s9 :: s10 :: s11 :: s12 :: s13 :: .dat v :: l) := Iff.rfl
theorem rO_14 {s0 s1 s2 s3 s4 s5 s6 s7 s8 s9 s10 s11 s12 s13 : Slot} : Ok (M.rd (.bor 14)) (s0 :: s1 :: s2 :: s3 :: s4 :: s5 :: s6 :: s7 :: s8 :: s9 :: s10 :: s11 :: s12 :: s13 :: .own v :: l) P ↔ P v (s0 :: s1 :: s2 :: s3 :: s4 :: s5 :: s6 :: s7 :: s8 :: s9 :: s10 :: s11 :: s12 :: s13 :: .own v :: l) := Iff.rfl
theorem kD_14 {s0 s1 s2 s3 s4 s5 s6 s7 s8 s9 s10 s11 s12 s13 : Slot} : Ok (M.dt (.bor 14)) (s0 :: s1 :: s2 :: s3 :: s4 :: s5 :: s6 :: s7 :: s8 :: s9 :: s10 :: s11 :: s12 :: s13 :: .dat v :: l) P ↔ P v (s0 :: s1 :: s2 :: s3 :: s4 :: s5 :: s6 :: s7 :: s8 :: s9 :: s10 :: s11 :: s12 :: s13 :: .dat v :: l) := Iff.rfl
theorem kO_14 {s0 s1 s2 s3 s4 s5 s6 s7 s8 s9 s10 s11 s12 s13 : Slot} : Ok (M.dt (.bor 14)) (s0 :: s1 :: s2 :: s3 :: s4 :: s5 :: s6 :: s7 :: s8 :: s9 :: s10 :: s11 :: s12 :: s13 :: .own v :: l) P ↔ P v (s0 :: s1 :: s2 :: s3 :: s4 :: s5 :: s6 :: s7 :: s8 :: s9 :: s10 :: s11 :: s12 :: s13 :: .dat v :: l) := Iff.rfl
theorem vD_15 {s0 s1 s2 s3 s4 s5 s6 s7 s8 s9 s10 s11 s12 s13 s14 : Slot} : Ok (mVar 15) (s0 :: s1 :: s2 :: s3 :: s4 :: s5 :: s6 :: s7 :: s8 :: s9 :: s10 :: s11 :: s12 :: s13 :: s14 :: .dat v :: l) Q ↔ Q (.dat v) (s0 :: s1 :: s2 :: s3 :: s4 :: s5 :: s6 :: s7 :: s8 :: s9 :: s10 :: s11 :: s12 :: s13 :: s14 :: .dat v :: l) := Iff.rfl
theorem vO_15 {s0 s1 s2 s3 s4 s5 s6 s7 s8 s9 s10 s11 s12 s13 s14 : Slot} : Ok (mVar 15) (s0 :: s1 :: s2 :: s3 :: s4 :: s5 :: s6 :: s7 :: s8 :: s9 :: s10 :: s11 :: s12 :: s13 :: s14 :: .own v :: l) Q ↔ Q (.bor 15) (s0 :: s1 :: s2 :: s3 :: s4 :: s5 :: s6 :: s7 :: s8 :: s9 :: s10 :: s11 :: s12 :: s13 :: s14 :: .own v :: l) := Iff.rfl
theorem rD_15 {s0 s1 s2 s3 s4 s5 s6 s7 s8 s9 s10 s11 s12 s13 s14 : Slot} : Ok (M.rd (.bor 15)) (s0 :: s1 :: s2 :: s3 :: s4 :: s5 :: s6 :: s7 :: s8 :: s9 :: s10 :: s11 :: s12 :: s13 :: s14 :: .dat v :: l) P ↔ P v (s0 :: s1 :: s2 :: s3 :: s4 :: s5 :: s6 :: s7 :: s8 :: s9 :: s10 :: s11 :: s12 :: s13 :: s14 :: .dat v :: l) := Iff.rfl
theorem rO_15 {s0 s1 s2 s3 s4 s5 s6 s7 s8 s9 s10 s11 s12 s13 s14 : Slot} : Ok (M.rd (.bor 15)) (s0 :: s1 :: s2 :: s3 :: s4 :: s5 :: s6 :: s7 :: s8 :: s9 :: s10 :: s11 :: s12 :: s13 :: s14 :: .own v :: l) P ↔ P v (s0 :: s1 :: s2 :: s3 :: s4 :: s5 :: s6 :: s7 :: s8 :: s9 :: s10 :: s11 :: s12 :: s13 :: s14 :: .own v :: l) := Iff.rfl
theorem kD_15 {s0 s1 s2 s3 s4 s5 s6 s7 s8 s9 s10 s11 s12 s13 s14 : Slot} : Ok (M.dt (.bor 15)) (s0 :: s1 :: s2 :: s3 :: s4 :: s5 :: s6 :: s7 :: s8 :: s9 :: s10 :: s11 :: s12 :: s13 :: s14 :: .dat v :: l) P ↔ P v (s0 :: s1 :: s2 :: s3 :: s4 :: s5 :: s6 :: s7 :: s8 :: s9 :: s10 :: s11 :: s12 :: s13 :: s14 :: .dat v :: l) := Iff.rfl
theorem kO_15 {s0 s1 s2 s3 s4 s5 s6 s7 s8 s9 s10 s11 s12 s13 s14 : Slot} : Ok (M.dt (.bor 15)) (s0 :: s1 :: s2 :: s3 :: s4 :: s5 :: s6 :: s7 :: s8 :: s9 :: s10 :: s11 :: s12 :: s13 :: s14 :: .own v :: l) P ↔ P v (s0 :: s1 :: s2 :: s3 :: s4 :: s5 :: s6 :: s7 :: s8 :: s9 :: s10 :: s11 :: s12 :: s13 :: s14 :: .dat v :: l) := Iff.rfl
end
theorem cMul_r {i j : Int} (h1 : -18446744073709551616 < j) (h2 : j < 18446744073709551616) : cMul i j ↔ True := ⟨fun _ => trivial, fun _ => .inr (.inl ⟨h1, h2⟩)⟩
theorem cMul_l {i j : Int} (h1 : -18446744073709551616 < i) (h2 : i < 18446744073709551616) : cMul i j ↔ True := ⟨fun _ => trivial, fun _ => .inl ⟨h1, h2⟩⟩
theorem strq {a b : String} : (Str.ofString a = Str.ofString b) ↔ a = b := by
  refine ⟨fun h => ?_, fun h => by rw [h]⟩
  rw [Str.ofString_eq_toList, Str.ofString_eq_toList] at h
  have h2 : (a.toList.map Char.toNat).toArray = (b.toList.map Char.toNat).toArray := congrArg Str.cps h
  have h3 : a.toList.map Char.toNat = b.toList.map Char.toNat := by simpa using h2
  have inj : ∀ x y : Char, x.toNat = y.toNat → x = y := fun x y q => Char.ext (UInt32.toNat_inj.mp q)
  have h4 : ∀ {l m : List Char}, l.map Char.toNat = m.map Char.toNat → l = m := fun {l} => by
    induction l with
    | nil => intro m q; cases m <;> simp_all
    | cons c l ih =>
      intro m q
      cases m with
      | nil => simp at q
      | cons d m =>
        simp only [List.map_cons, List.cons.injEq] at q
        rw [inj c d q.1, ih q.2]
  exact String.toList_inj.mp (h4 h3)
theorem sz {n : Nat} (h : n ≤ 1000) : (n ≤ sizeLine) ↔ True := ⟨fun _ => trivial, fun _ => by rw [sizeLine_eq]; omega⟩
theorem szl {n : Nat} (h : n ≤ 1000) : (n < sizeLine) ↔ True := ⟨fun _ => trivial, fun _ => by rw [sizeLine_eq]; omega⟩
theorem dOk_int {i : Int} : dOk (.int i) = true ↔ True := ⟨fun _ => trivial, fun _ => rfl⟩
theorem dOk_bl {i : Bool} : dOk (.bl i) = true ↔ True := ⟨fun _ => trivial, fun _ => rfl⟩
theorem dOk_non : dOk .non = true ↔ True := ⟨fun _ => trivial, fun _ => rfl⟩
theorem veq_int {i j : Int} : veq (.int i) (.int j) = decide (i = j) := by
  first
    | rfl
    | (unfold veq; simp [toP, PyData.eqv])
theorem veq_str {a b : Str} : veq (.str a) (.str b) = decide (a = b) := by
  first
    | rfl
    | (unfold veq; simp [toP, PyData.eqv])
theorem ok_len {xs : List Val} : Ok (fLen [.lst xs]) e Q ↔ Q (.dat (.int xs.length)) e := Iff.rfl
theorem ok_lenT {xs : List Val} : Ok (fLen [.tup xs]) e Q ↔ Q (.dat (.int xs.length)) e := Iff.rfl
theorem ok_absI {i : Int} : Ok (fAbs [.int i]) e Q ↔ Q (.dat (.int (if i < 0 then -i else i))) e := Iff.rfl
theorem ok_intI {i : Int} : Ok (fInt [.int i]) e Q ↔ Q (.dat (.int i)) e := Iff.rfl
theorem ok_max2 {i j : Int} : Ok (fMax2 [.int i, .int j]) e Q ↔ Q (.dat (.int (if j > i then j else i))) e := Iff.rfl
theorem ok_min2 {i j : Int} : Ok (fMin2 [.int i, .int j]) e Q ↔ Q (.dat (.int (if j < i then j else i))) e := Iff.rfl
theorem ok_gTL {n : Nat} {ms : List Val → M Unit} {xs : List Val} {Q : Unit → Ev → Prop} : Ok (gT n ms (.lst xs)) e Q ↔ xs.length = n ∧ Ok (ms xs) e Q := by
  show Ok (if xs.length = n then ms xs else M.bad) e Q ↔ _
  by_cases h : xs.length = n
  · rw [if_pos h]; exact ⟨fun z => ⟨h, z⟩, fun z => z.2⟩
  · rw [if_neg h]; exact ⟨fun z => (ok_bad.mp z).elim, fun z => absurd z.1 h⟩
theorem ok_repr {v : Val} : Ok (fRepr [v]) e Q ↔ rOk v = true ∧ Q (.dat (.str (shownV v))) e := by
  show Ok (if rOk v = true then _ else _) e Q ↔ _
  by_cases h : rOk v = true
  · rw [if_pos h]; exact ⟨fun z => ⟨h, z⟩, fun z => z.2⟩
  · rw [if_neg h]; exact ⟨fun z => z.elim, fun z => h z.1⟩
theorem ok_all {bs : List Bool} : Ok (fAll [.lst (bs.map .bl)]) e Q ↔ Q (.dat (.bl (bs.all id))) e := by
  have h : bls? (bs.map Val.bl) = some bs := by
    induction bs with
    | nil => rfl
    | cons b bs ih => simp [bls?, ih]
  show Ok (match bls? (bs.map Val.bl) with
    | some bs => mV (.bl (bs.all id))
    | _ => M.bad) e Q ↔ _
  rw [h]
  exact Iff.rfl
theorem trues {rs : List Val} (h : ∀ r ∈ rs, r = .bl true) : rs = (List.replicate rs.length true).map .bl := by
  induction rs with
  | nil => rfl
  | cons r rs ih =>
    rw [h r (List.mem_cons_self ..), List.length_cons, List.replicate_succ, List.map_cons, ← ih fun r hr => h r (List.mem_cons_of_mem _ hr)]
theorem ok_allT {rs : List Val} (h : ∀ r ∈ rs, r = .bl true) : Ok (fAll [.lst rs]) e Q ↔ Q (.dat (.bl true)) e := by
  have h2 := trues h
  rw [h2, ok_all]
  have h3 : ∀ n : Nat, (List.replicate n true).all id = true := fun n => by induction n with
    | zero => rfl
    | succ n ih => rw [List.replicate_succ, List.all_cons, ih]; rfl
  rw [h3]
theorem veqs_self : ∀ (xs : List Val), (∀ x ∈ xs, veq x x = true) → PyData.eqvAll (toPs xs) (toPs xs) = true
  | [], _ => by first | rfl | simp [toPs, PyData.eqvAll]
  | x :: xs, h => by
    have h1 := h x (List.mem_cons_self ..)
    have h2 := veqs_self xs fun y hy => h y (List.mem_cons_of_mem _ hy)
    unfold veq at h1
    simp [toPs, PyData.eqvAll, h1, h2]
theorem veq_lst {xs : List Val} (h : ∀ x ∈ xs, veq x x = true) : veq (.lst xs) (.lst xs) = true := by
  unfold veq
  simp [toP, PyData.eqv, veqs_self xs h]
theorem veq_tup {xs : List Val} (h : ∀ x ∈ xs, veq x x = true) : veq (.tup xs) (.tup xs) = true := by
  unfold veq
  simp [toP, PyData.eqv, veqs_self xs h]
end Pu
set_option Elab.async false
set_option linter.all false
set_option maxRecDepth 100000
namespace Pu
open PySem PySem.Spec PyProof.Rows L2
def rDm : List V → Hp → VK → Prop := fun xs H Q => ∃ i j, xs = [.int i, .int j] ∧ CDivW i j ∧ ∀ p, H p = none → Q (.ref p) (upd H p (.tup [.int (i / j), .int (i % j)]))
theorem c_dm {X : Cx} : CallR X (.builtin "divmod") rDm := by
  rintro pins s σ H xs us Q I r ⟨i, j, rfl, hc, q⟩
  obtain ⟨u, w, rfl, ⟨t, rfl⟩, ⟨t', rfl⟩⟩ := vals2 r
  have pos : (0 : Int) < j := hc.1
  refine divmod_int (by omega) ?_ (.inl (PyProof.noPylong_of_log2 hc.2))
  rw [Int.fdiv_eq_ediv_of_nonneg i (by omega), Int.fmod_eq_emod_of_nonneg i (by omega)]
  have new : H s.heap.objs.size = none := I.hok.fresh (Nat.le_refl _)
  refine ⟨.ref s.heap.objs.size, _, I.laid (fun b o e => Heap.get?_push_of_some _ e) (Nat.le_refl _) ?_, rfl, q _ new⟩
  refine ⟨by rw [sizeLine_eq]; show 2 ≤ 16777216; decide, [.int (i / j) s.toks, .int (i % j) (s.toks + 1)], .cons ⟨_, rfl⟩ (.cons ⟨_, rfl⟩ .nil), _, Heap.get?_push_size s.heap rfl, rfl, 0, rfl⟩
def fDm (vs : List Val) : M RV := match vs with
  | [.int i, .int j] => if cDiv i j then mV (.tup [.int (i / j), .int (i % j)]) else M.bad
  | _ => M.bad
theorem v_dm {K : PySem.W.Frag} {W : WX} : FnV K W fDm rDm := by
  intro B F H e σ vs us Q C r h
  unfold fDm at h
  split at h
  · rename_i i j
    obtain ⟨u, z, rfl, r1, r2⟩ := r.two
    by_cases hc : cDiv i j
    · rw [if_pos hc] at h
      refine ⟨i, j, by rw [r1.int, r2.int], divD hc, fun p hp => ?_⟩
      obtain ⟨C3, s3, e3⟩ := C.growF (o := .tup [.int (i / j), .int (i % j)]) hp
      exact h.ok rfl C3 (VR.tup (SqT.of e3) (.cons (.int _) (.cons (.int _) .nil)))
    · rw [if_neg hc] at h
      exact h.elim
  · exact h.elim
theorem ok_dm {e : Ev} {Q : RV → Ev → Prop} {i j : Int} : Ok (fDm [.int i, .int j]) e Q ↔ cDiv i j ∧ Q (.dat (.tup [.int (i / j), .int (i % j)])) e := by
  show Ok (if cDiv i j then _ else M.bad) e Q ↔ _
  by_cases h : cDiv i j
  · rw [if_pos h]; exact ⟨fun z => ⟨h, z⟩, fun z => z.2⟩
  · rw [if_neg h]; exact ⟨fun z => z.elim, fun z => h z.1⟩
theorem v_max3 {K : PySem.W.Frag} {W : WX} : FnV K W fMax3 (rNuC3 nuMax3) := by
  intro B F H e σ vs us Q C r h
  unfold fMax3 at h
  split at h
  · rename_i a b c
    cases r with
    | cons r1 r =>
      obtain ⟨y, z, rfl, r2, r3⟩ := r.two
      refine ⟨.int a, .int b, .int c, .int (if (if a < b then b else a) < c then c else (if a < b then b else a)), by rw [r1.int, r2.int, r3.int], ?_, h.ok rfl C (VR.int _)⟩
      have two : ∀ i j : Int, nuMax2 (.int i) (.int j) = some (.int (if i < j then j else i)) := fun i j => by
        show (some (decide (i < j))).map _ = _
        by_cases h : i < j <;> simp [h]
      show (nuMax2 (.int a) (.int b)).bind _ = _
      rw [two]
      exact two _ c
  · exact h.elim
theorem ok_max3 {e : Ev} {Q : RV → Ev → Prop} {a b c : Int} : Ok (fMax3 [.int a, .int b, .int c]) e Q ↔ Q (.dat (.int (if (if a < b then b else a) < c then c else (if a < b then b else a)))) e := Iff.rfl
def fMin3 (vs : List Val) : M RV := match vs with
  | [.int a, .int b, .int c] => mV (.int (if c < (if b < a then b else a) then c else (if b < a then b else a)))
  | _ => M.bad
theorem v_min3 {K : PySem.W.Frag} {W : WX} : FnV K W fMin3 (rNuC3 nuMin3) := by
  intro B F H e σ vs us Q C r h
  unfold fMin3 at h
  split at h
  · rename_i a b c
    cases r with
    | cons r1 r =>
      obtain ⟨y, z, rfl, r2, r3⟩ := r.two
      refine ⟨.int a, .int b, .int c, .int (if c < (if b < a then b else a) then c else (if b < a then b else a)), by rw [r1.int, r2.int, r3.int], ?_, h.ok rfl C (VR.int _)⟩
      have two : ∀ i j : Int, nuMin2 (.int i) (.int j) = some (.int (if j < i then j else i)) := fun i j => by
        show (some (decide (j < i))).map _ = _
        by_cases h : j < i <;> simp [h]
      show (nuMin2 (.int a) (.int b)).bind _ = _
      rw [two]
      exact two _ c
  · exact h.elim
theorem ok_min3 {e : Ev} {Q : RV → Ev → Prop} {a b c : Int} : Ok (fMin3 [.int a, .int b, .int c]) e Q ↔ Q (.dat (.int (if c < (if b < a then b else a) then c else (if b < a then b else a)))) e := Iff.rfl
end Pu
set_option Elab.async false
set_option linter.all false
set_option maxRecDepth 100000
set_option maxHeartbeats 2000000
namespace Pu
open PySem PySem.Spec PyProof.Rows L2
theorem newEnum {v : Value} {ob : Obj} {H : Heap → Prop} (B : Begins v ob H) :
    Meets (Builtin.«enumerate.__new__» ⟨[.type "enumerate", v], []⟩) (fun _ R s => H s.heap ∧
      R (.ok (.ret (.ref (s.heap.push ob).objs.size))) { s with heap := (s.heap.push ob).push { cls := .type "enumerate", data := .fields #[.none, .bool false, .ref s.heap.objs.size, rawInt 0, .none, .none] } }) :=
  .of_wp fun P w A R s both => by
    obtain ⟨hp, g, d, tk, os⟩ := s
    obtain ⟨here, wish⟩ := both
    have sub := sub_enumerate
    have begin_ : ∀ {A' : Around} {E : Value → Shared → Prop} {Q : Value → Shared → Prop}, Q (.ref hp.objs.size) ⟨hp.push ob, g, d, tk, os⟩ → wpAny (model P w) A' (pyIter v) Q E ⟨hp, g, d, tk, os⟩ :=
      fun {A' E Q} q => B.iter P w A' E ⟨hp, g, d, tk, os⟩ Q here q
    wp_walk using begin_
    refine wpAny_stack_any fun st => wpAny_pure ?_
    split
    · rename_i c _ _ _ _ _
      cases (c == Value.type "enumerate") <;> (wp_walk using begin_; exact ⟨_, rfl, wish⟩)
    · wp_walk using begin_
      exact ⟨_, rfl, wish⟩
section
variable {P : Program} {w : World} {A : Around} {E : Value → Shared → Prop} {s : Shared}
theorem callEnum {v : Value} {ob : Obj} {H : Heap → Prop} {Q : Value → Shared → Prop} (B : Begins v ob H) (here : H s.heap)
    (k : ∀ h', IsEnum h' (s.heap.objs.size + 1) s.heap.objs.size 0 .none → h'.get? s.heap.objs.size = some ob → h'.objs.size = s.heap.objs.size + 2 →
      (∀ b o, s.heap.get? b = some o → h'.get? b = some o) → Q (.ref (s.heap.objs.size + 1)) { s with heap := h' }) :
    wpAny (model P w) A (call (.type "enumerate") [v]) Q E s := by
  have size1 : (s.heap.push ob).objs.size = s.heap.objs.size + 1 := Heap.size_push ..
  refine callType_new F.called_enumerate (by decide) (F.typeCall_enumerate_1 _) (F.newCall_enumerate_1 _) (fun obj => F.args_object_init_2 obj _) F.entry_enumerate_new (newEnum B) ⟨here, ?_⟩
  have top_ := Heap.get?_push_size (s.heap.push ob) (o := { cls := .type "enumerate", data := .fields #[.none, .bool false, .ref s.heap.objs.size, rawInt 0, .none, .none] }) rfl
  show _ ∧ _
  rw [size1] at top_ ⊢
  exact ⟨⟨_, top_, rfl⟩, k _ top_ (Heap.get?_push_of_some _ (Heap.get?_push_size _ B.free)) (by rw [Heap.size_push, size1]) fun b o x => Heap.get?_push_of_some _ (Heap.get?_push_of_some _ x)⟩
end
def SqB (K : PySem.W.Frag) : Bool → Hp → Addr → List V → Prop
  | true, H, a, xs => SqL K H a xs
  | false, H, a, xs => SqT K H a xs
def StB : Bool → Heap → Addr → Array Value → Prop
  | true, h, a, vs => h.IsList a vs
  | false, h, a, vs => h.IsTuple a vs
def itObj : Bool → Addr → Obj
  | true, a => { cls := .type "list_iterator", data := .fields #[.ref a, .int 0 0] }
  | false, a => { cls := .type "tuple_iterator", data := .fields #[.ref a, .int 0 0] }
theorem begB (b : Bool) (a : Addr) (vs : Array Value) : Begins (.ref a) (itObj b a) fun h => StB b h a vs := by
  cases b
  · exact begins_tuple a vs
  · exact begins_list a vs
theorem itB_new {b : Bool} {h : Heap} {it a : Addr} (e : h.get? it = some (itObj b a)) : ItB b h it a 0 := by
  cases b <;> exact ⟨_, e, rfl, rfl⟩
theorem ItB.lt {b : Bool} {h : Heap} {it a : Addr} {i : Nat} (x : ItB b h it a i) : it < h.objs.size := by
  obtain ⟨o, ho, _⟩ := x.obj
  exact Heap.lt_size ho
theorem StB.lt {b : Bool} {h : Heap} {a : Addr} {vs : Array Value} (x : StB b h a vs) : a < h.objs.size := by
  cases b <;> (obtain ⟨o, ho, _⟩ := x; exact Heap.lt_size ho)
section
variable {X : Cx} {pins : List (Addr × Obj)} {σ : Sig} {H : Hp} {s : Shared} {a : Addr} {xs ys : List V} {b : Bool}
theorem sqB_at (I : Inv X pins σ H s) (h : SqB X.K b H a xs) : ∃ its : List Value, Vals xs its ∧ StB b s.heap a its.toArray := by
  cases b
  · obtain ⟨its, r, p, _⟩ := I.tuple h
    exact ⟨its, r, p⟩
  · obtain ⟨its, r, p, _⟩ := I.list h
    exact ⟨its, r, p.isList⟩
theorem sqB_inj (I : Inv X pins σ H s) (h : SqB X.K b H a xs) (h' : SqB X.K b H a ys) : xs = ys := by
  cases b
  · exact I.tuple_inj h h'
  · exact I.list_inj h h'
end
theorem drawB {P : Program} {w : World} {A : Around} (b : Bool) (hh : A.handled = none) (it a : Addr) (ne : a ≠ it) (vs : Array Value) :
    Draws P w A it [it, a] vs.size (fun i v => vs[i]? = some v) (fun i h => ItB b h it a i ∧ StB b h a vs) := by
  cases b
  · exact Draws.tuple hh it a ne vs
  · exact Draws.list hh it a ne vs
def ItE (K : PySem.W.Frag) (b : Bool) (a : Addr) : It :=
  ⟨fun i H => ∃ (xs : List V) (x : V), SqB K b H a xs ∧ xs[i]? = some x, fun i H v H' => ∃ T x, v = .ref T ∧ H T = none ∧ H' = upd H T (.tup [.int (i : Nat), x]) ∧ ∀ xs, SqB K b H a xs → xs[i]? = some x, fun i H => ∃ xs : List V, SqB K b H a xs ∧ xs.length = i⟩
theorem turnE {P : Program} {w : World} {K : PySem.W.Frag} {elts : List Expr} {kk : Nat} {tpos : Pos} {b : Bool} {a e it : Addr} (ne1 : a ≠ it) (ne2 : e ≠ a) :
    Turn P w K (.Tuple elts kk tpos) (ItE K b a) [e, it] e (fun i h => (∃ old, IsEnum h e it ((i : Nat) : Int) old) ∧ ItB b h it a i ∧ e ≠ it) where
  mem := List.mem_cons_self ..
  obj := fun i h st c hc => by
    obtain ⟨⟨old, he⟩, hi, _⟩ := st
    rcases List.mem_cons.mp hc with rfl | hc
    · exact ⟨_, he, fun v q => nomatch q⟩
    · obtain rfl := List.mem_singleton.mp hc
      exact hi.obj
  keep := fun i h h' st k => by
    obtain ⟨⟨old, he⟩, hi, hne⟩ := st
    exact ⟨⟨old, k e (by simp) _ he⟩, hi.at fun o q => k it (by simp) o q, hne⟩
  item := by
    intro X hP hw hK hc i pins s σ H E I hf st hg
    subst hP hw hK
    obtain ⟨⟨old, he⟩, hit, hne⟩ := st
    obtain ⟨xs, x, hq, hx⟩ := hg
    obtain ⟨its, rv, tp⟩ := sqB_at I hq
    obtain ⟨u, hu, ru⟩ := rv.get hx
    have below_e : e < s.heap.objs.size := Heap.lt_size he
    have below_i : it < s.heap.objs.size := hit.lt
    have il : i < its.toArray.size := by
      rw [List.size_toArray]
      exact (List.getElem?_eq_some_iff.mp hu).1
    refine wpAny_pyNext_enum_itemD (drawB b (show X.A.in1.handled = none from I.ok.hd hc) it a ne1 its.toArray) he ⟨hit, tp⟩ il hne (by simp [hne, ne2]) fun y h' tk hy ho st' hT hsz hk => ?_
    have ey : y = u := by
      have : its.toArray[i]? = some u := by simpa using hu
      rw [this] at hy
      exact (Option.some.inj hy).symm
    subst ey
    refine ⟨_, rfl, wpAny_letOwnedTupleGo_enum (s := { s with heap := h', toks := tk + 1 }) ho fun h'' he' sb => ?_⟩
    have hT2 : h''.get? s.heap.objs.size = some { cls := .type "tuple", data := .seq #[.int i tk, y] } := (sb.2 _ (Nat.ne_of_gt below_e)).trans hT
    have new : ObjOk X.prog X.w (upd H s.heap.objs.size (.tup [.int (i : Nat), x])) h'' s.heap.objs.size (.tup [.int (i : Nat), x]) :=
      ⟨by rw [sizeLine_eq]; show 2 ≤ 16777216; decide, [.int i tk, y], .cons ⟨_, rfl⟩ (.cons ru .nil), ⟨_, hT2, rfl, _, rfl⟩⟩
    have I1 : Inv X pins σ (upd H s.heap.objs.size (.tup [.int (i : Nat), x])) { s with heap := h'', toks := tk + 1 } :=
      I.turnedNew (ch := [e, it]) (fun c ob hb q => (sb.2 c (fun z => hb (by simp [z]))).trans (hk c ob (fun z => hb (by simp [z])) (fun z => hb (by simp [z])) q)) hf (Nat.le_refl _) new
    refine ⟨.ref s.heap.objs.size, _, I1, rfl, ⟨_, x, rfl, I.hok.fresh (Nat.le_refl _), rfl, fun ys hy2 => by rw [sqB_inj I hy2 hq]; exact hx⟩, ⟨⟨y, ?_⟩, st'.1.at fun o q => (sb.2 it (Ne.symm hne)).trans q, hne⟩, fun c hb => ?_⟩
    · rw [show ((i + 1 : Nat) : Int) = (i : Int) + 1 by omega]
      exact he'
    · have lt : c < s.heap.objs.size := by
        rcases List.mem_cons.mp hb with rfl | hb
        · exact below_e
        · obtain rfl := List.mem_singleton.mp hb
          exact below_i
      rw [upd_ne (Nat.ne_of_lt lt)]
      exact (hf c hb).1
  done := by
    intro X hP hw hK hc i pins s σ H E I hf st hg
    subst hP hw hK
    obtain ⟨⟨old, he⟩, hit, hne⟩ := st
    obtain ⟨xs, hq, hx⟩ := hg
    obtain ⟨its, rv, tp⟩ := sqB_at I hq
    obtain ⟨f0, f1, f2, f3, f4, f5⟩ := hf it (by simp)
    have hl := rv.length
    have hn : i = its.toArray.size := by rw [List.size_toArray]; omega
    exact wpAny_pyNext_enum_endD (drawB b (show X.A.in1.handled = none from I.ok.hd hc) it a ne1 its.toArray) he (hn ▸ ⟨hit, tp⟩) fun h' eb => ⟨rfl, I.turned (t' := s.toks) (fun c o hb q => eb c o hb q) f0 f1 f3 f4 f5⟩
  self := fun A i s Q E st h => by
    obtain ⟨⟨_, he⟩, _⟩ := st
    exact wpAny_pyIter_enum he h
def iEnumB (K : PySem.W.Frag) (ta : TA) : TI := fun σ H R => ta σ H fun vs H1 => ∃ a xs b, vs = [.ref a] ∧ SqB K b H1 a xs ∧ R (ItE K b a) H1
theorem pi_enumB {X : Cx} {e : Expr} {ta : TA} {p pos tpos : Pos} {elts : List Expr} {kk : Nat} (hg : Gl X "enumerate") (hm : X.mg "enumerate" = none) (ha : PA X [e] ta) (hs : starEach [e] X.env = [(false, eval e X.env)] := by rfl) :
    PI X (.Tuple elts kk tpos) (.Call (.Name "enumerate" p) [e] [] pos) (iEnumB X.K ta) := by
  refine ⟨fun pins s σ H R I h => ?_⟩
  refine Call_ (ld_blt I hg hm boot_enumerate (PyProof.Rows.callWith_type1 (thn (ha.run pos pins s σ H _ I h) fun us s1 ⟨vs, H1, I1, r1, q1⟩ => ?_) hs rfl))
  obtain ⟨a, xs, b, ex, hq, q⟩ := q1
  subst ex
  cases r1 with
  | cons r rr =>
    cases rr
    cases r
    obtain ⟨its, rv, st⟩ := sqB_at I1 hq
    have al := st.lt
    refine callEnum (begB b a its.toArray) st fun h' he hit hsz hk => wpAny_pyIter_enum he ?_
    have I2 : Inv X pins σ H1 { s1 with heap := h' } := I1.kept (t' := s1.toks) hk
    refine ⟨s1.heap.objs.size + 1, [s1.heap.objs.size + 1, s1.heap.objs.size], _, _, H1, rfl, I2, turnE (a := a) (Nat.ne_of_lt al) (Nat.ne_of_gt (Nat.lt_succ_of_lt al)), ⟨⟨.none, he⟩, itB_new hit, Nat.succ_ne_self _⟩, fun c hb => ?_, q⟩
    have e' : c = s1.heap.objs.size + 1 ∨ c = s1.heap.objs.size := by simpa using hb
    have hle : s1.heap.objs.size ≤ c := by
      rcases e' with z | z
      · rw [z]; exact Nat.le_add_right _ _
      · rw [z]; exact Nat.le_refl _
    exact I1.fpOk hle (I1.hok.fresh hle)
theorem walkE {K : PySem.W.Frag} {b : Bool} {a : Addr} {xs : List V} : L2.Walk (ItE K b a) xs.length (fun H => SqB K b H a xs) (YPair (fun i => some (.int (i : Nat))) (fun i => xs[i]?)) := by
  refine ⟨fun i _ hi q => ⟨xs, xs[i], q, by simp [hi]⟩, fun _ q => ⟨xs, q, rfl⟩, fun i H v H' _ q y => ?_⟩
  obtain ⟨T, x, h1, h2, h3, h4⟩ := y
  exact ⟨T, .int (i : Nat), x, h1, h2, h3, rfl, h4 xs q⟩
def ItZ (K : PySem.W.Frag) (b1 b2 : Bool) (a1 a2 : Addr) : It :=
  ⟨fun i H => ∃ (xs ys : List V) (x y : V), SqB K b1 H a1 xs ∧ SqB K b2 H a2 ys ∧ xs[i]? = some x ∧ ys[i]? = some y,
    fun i H v H' => ∃ T x y, v = .ref T ∧ H T = none ∧ H' = upd H T (.tup [x, y]) ∧ (∀ xs, SqB K b1 H a1 xs → xs[i]? = some x) ∧ ∀ ys, SqB K b2 H a2 ys → ys[i]? = some y,
    fun i H => ∃ xs ys : List V, SqB K b1 H a1 xs ∧ SqB K b2 H a2 ys ∧ i = min xs.length ys.length⟩
theorem turnZ {P : Program} {w : World} {K : PySem.W.Frag} {elts : List Expr} {kk : Nat} {tpos : Pos} {b1 b2 : Bool} {a1 a2 z TI TO i1 i2 : Addr} (D : ZipSep2 z TI TO i1 i2 [i1, a1] [i2, a2]) (n1 : a1 ≠ i1) (n2 : a2 ≠ i2) :
    Turn P w K (.Tuple elts kk tpos) (ItZ K b1 b2 a1 a2) [z, TI, TO, i1, i2] z (fun i h => IsZip h z TI TO .none ∧ IsTupOf2 h TI (.ref i1) (.ref i2) ∧ (∃ x y, IsTupOf2 h TO x y) ∧ ItB b1 h i1 a1 i ∧ ItB b2 h i2 a2 i) where
  mem := by simp
  obj := fun i h st c hc => by
    obtain ⟨hz, hTI, ⟨x, y, hTO⟩, h1, h2⟩ := st
    have e' : c = z ∨ c = TI ∨ c = TO ∨ c = i1 ∨ c = i2 := by simpa using hc
    rcases e' with q | q | q | q | q
    · rw [q]; exact ⟨_, hz, fun v q => nomatch q⟩
    · rw [q]; exact ⟨_, hTI, fun v q => nomatch q⟩
    · rw [q]; exact ⟨_, hTO, fun v q => nomatch q⟩
    · rw [q]; exact h1.obj
    · rw [q]; exact h2.obj
  keep := fun i h h' st k => by
    obtain ⟨hz, hTI, ⟨x, y, hTO⟩, h1, h2⟩ := st
    exact ⟨k z (by simp) _ hz, k TI (by simp) _ hTI, ⟨x, y, k TO (by simp) _ hTO⟩, h1.at fun o q => k i1 (by simp) o q, h2.at fun o q => k i2 (by simp) o q⟩
  item := by
    intro X hP hw hK hc i pins s σ H E I hf st hg
    subst hP hw hK
    obtain ⟨hz, hTI, ⟨x0, y0, hTO⟩, h1, h2⟩ := st
    obtain ⟨xs, ys, x, y, hqx, hqy, hx, hy⟩ := hg
    obtain ⟨its, rv, p⟩ := sqB_at I hqx
    obtain ⟨its2, rv2, p2⟩ := sqB_at I hqy
    obtain ⟨u, hu, ru⟩ := rv.get hx
    obtain ⟨u2, hu2, ru2⟩ := rv2.get hy
    have hzl : z < s.heap.objs.size := Heap.lt_size hz
    have l1 : i < its.toArray.size := by rw [List.size_toArray]; exact (List.getElem?_eq_some_iff.mp hu).1
    have l2 : i < its2.toArray.size := by rw [List.size_toArray]; exact (List.getElem?_eq_some_iff.mp hu2).1
    have hh : X.A.in1.handled = none := I.ok.hd hc
    refine wpAny_pyNext_zipD2_item D (drawB b1 hh i1 a1 n1 its.toArray) (drawB b2 hh i2 a2 n2 its2.toArray) hz hTI hTO ⟨h1, p⟩ ⟨h2, p2⟩ l1 l2 fun y1 y2 h' tk r1 r2 z' TO' st1 st2 hT hsz hk => ?_
    have e1 : y1 = u := by
      have : its.toArray[i]? = some u := by simpa using hu
      rw [this] at r1
      exact (Option.some.inj r1).symm
    have e2 : y2 = u2 := by
      have : its2.toArray[i]? = some u2 := by simpa using hu2
      rw [this] at r2
      exact (Option.some.inj r2).symm
    subst e1 e2
    refine ⟨_, rfl, wpAny_letOwnedTupleGo_zip (s := { s with heap := h', toks := tk }) z' fun h'' z'' sb => ?_⟩
    have hT2 : h''.get? s.heap.objs.size = some { cls := .type "tuple", data := .seq #[y1, y2] } := (sb.2 _ (Nat.ne_of_gt hzl)).trans hT
    have new : ObjOk X.prog X.w (upd H s.heap.objs.size (.tup [x, y])) h'' s.heap.objs.size (.tup [x, y]) :=
      ⟨by rw [sizeLine_eq]; show 2 ≤ 16777216; decide, [y1, y2], .cons ru (.cons ru2 .nil), ⟨_, hT2, rfl, _, rfl⟩⟩
    have I1 : Inv X pins σ (upd H s.heap.objs.size (.tup [x, y])) { s with heap := h'', toks := tk } :=
      I.turnedNew (t' := tk) (ch := [z, TI, TO, i1, i2]) (fun c o hb q => (sb.2 c (fun q' => hb (by simp [q']))).trans (hk c o (fun q' => hb (by simp [q'])) (fun q' => hb (by simp [q'])) (fun q' => hb (by simp [q'])) (fun q' => hb (by simp [q'])) q)) hf (Nat.le_refl _) new
    refine ⟨.ref s.heap.objs.size, _, I1, rfl, ⟨_, x, y, rfl, I.hok.fresh (Nat.le_refl _), rfl, fun l hl => by rw [sqB_inj I hl hqx]; exact hx, fun l hl => by rw [sqB_inj I hl hqy]; exact hy⟩, ⟨z'', ?_, ⟨y1, y2, ?_⟩, ?_, ?_⟩, fun c hcm => ?_⟩
    · exact (sb.2 _ D.TIz).trans (hk _ _ D.TIz D.TITO D.TIi1 D.TIi2 hTI)
    · exact (sb.2 _ D.TOz).trans TO'
    · exact st1.1.at fun o q => (sb.2 _ (Ne.symm D.zi1)).trans q
    · exact st2.1.at fun o q => (sb.2 _ (Ne.symm D.zi2)).trans q
    · have hlt : c < s.heap.objs.size := by
        have e' : c = z ∨ c = TI ∨ c = TO ∨ c = i1 ∨ c = i2 := by simpa using hcm
        rcases e' with q | q | q | q | q
        · rw [q]; exact hzl
        · rw [q]; exact Heap.lt_size hTI
        · rw [q]; exact Heap.lt_size hTO
        · rw [q]; exact h1.lt
        · rw [q]; exact h2.lt
      rw [upd_ne (Nat.ne_of_lt hlt)]
      exact (hf c hcm).1
  done := by
    intro X hP hw hK hc i pins s σ H E I hf st hg
    subst hP hw hK
    obtain ⟨hz, hTI, ⟨x0, y0, hTO⟩, h1, h2⟩ := st
    obtain ⟨xs, ys, hqx, hqy, hend⟩ := hg
    obtain ⟨its, rv, p⟩ := sqB_at I hqx
    obtain ⟨its2, rv2, p2⟩ := sqB_at I hqy
    have l1 := rv.length
    have l2 := rv2.length
    have hh : X.A.in1.handled = none := I.ok.hd hc
    have s1 : its.toArray.size = xs.length := by rw [List.size_toArray]; omega
    have s2 : its2.toArray.size = ys.length := by rw [List.size_toArray]; omega
    exact wpAny_pyNext_zipD2_end D (drawB b1 hh i1 a1 n1 its.toArray) (drawB b2 hh i2 a2 n2 its2.toArray) hz hTI hTO ⟨h1, p⟩ ⟨h2, p2⟩ (by omega) (by omega) (by omega) fun h' tk hk => ⟨rfl, I.turnedL (t' := tk) (ch := [z, TI, TO, i1, i2]) (fun c o hb q =>
      hk c o (fun q' => hb (by simp [q'])) (fun q' => hb (by simp [q'])) (fun q' => hb (by simp [q'])) (fun q' => hb (by simp [q'])) q) hf⟩
  self := fun A i s Q E st h => wpAny_pyIter_zip st.1 h
def iZipB (K : PySem.W.Frag) (ta : TA) : TI := fun σ H R => ta σ H fun vs H1 => ∃ a1 a2 xs ys b1 b2, vs = [.ref a1, .ref a2] ∧ SqB K b1 H1 a1 xs ∧ SqB K b2 H1 a2 ys ∧ R (ItZ K b1 b2 a1 a2) H1
theorem nin2 {a b c : Nat} (h1 : a ≠ b) (h2 : a ≠ c) : a ∉ [b, c] := by simp [h1, h2]
theorem sep_new {n a1 a2 : Nat} (h1 : a1 < n) (h2 : a2 < n) : ZipSep2 (n + 4) (n + 2) (n + 3) n (n + 1) [n, a1] [n + 1, a2] :=
  ⟨show n + 2 ≠ n + 4 by omega, show n + 3 ≠ n + 4 by omega, show n + 2 ≠ n + 3 by omega, show n + 2 ≠ n by omega, List.mem_cons_self .., nin2 (by omega) (by omega), nin2 (by omega) (by omega),
    show n + 2 ≠ n + 1 by omega, List.mem_cons_self .., nin2 (by omega) (by omega), nin2 (by omega) (by omega), nin2 (by omega) (by omega), nin2 (by omega) (by omega)⟩
theorem pi_zipB {X : Cx} {e e2 : Expr} {ta : TA} {p pos tpos : Pos} {elts : List Expr} {kk : Nat} (hg : Gl X "zip") (hm : X.mg "zip" = none) (ha : PA X [e, e2] ta)
    (hs : starEach [e, e2] X.env = (false, eval e X.env) :: starEach [e2] X.env := by rfl) (hpl : (backTo pos (starEach [e2] X.env)).any (·.1) = false := by rfl) :
    PI X (.Tuple elts kk tpos) (.Call (.Name "zip" p) [e, e2] [] pos) (iZipB X.K ta) := by
  refine ⟨fun pins s σ H R I h => ?_⟩
  refine Call_ (ld_blt I hg hm PyProof.Rows.boot_zip (PyProof.Rows.callWith_type1 (thn (ha.run pos pins s σ H _ I h) fun us s1 ⟨vs, H1, I1, r1, q1⟩ => ?_) hs hpl))
  obtain ⟨a1, a2, xs, ys, b1, b2, ex, hqx, hqy, q⟩ := q1
  subst ex
  cases r1 with
  | cons r rr =>
    cases rr with
    | cons r' rr =>
      cases rr
      cases r
      cases r'
      obtain ⟨its, rv, p1⟩ := sqB_at I1 hqx
      obtain ⟨its2, rv2, p2⟩ := sqB_at I1 hqy
      refine zip_begins2 (begB b1 a1 its.toArray) (begB b2 a2 its2.toArray) p1 p2 fun h' hz hTI hTO h1 h2 hsz hk => wpAny_pyIter_zip hz ?_
      have I2 : Inv X pins σ H1 { s1 with heap := h' } := I1.kept (t' := s1.toks) hk
      refine ⟨s1.heap.objs.size + 4, [s1.heap.objs.size + 4, s1.heap.objs.size + 2, s1.heap.objs.size + 3, s1.heap.objs.size, s1.heap.objs.size + 1], _, _, H1, rfl, I2, turnZ (sep_new p1.lt p2.lt) (Nat.ne_of_lt p1.lt) (Nat.ne_of_lt (Nat.lt_succ_of_lt p2.lt)), ⟨hz, hTI, ⟨_, _, hTO⟩, itB_new h1, itB_new h2⟩, fun c hcm => ?_, q⟩
      have e' : c = s1.heap.objs.size + 4 ∨ c = s1.heap.objs.size + 2 ∨ c = s1.heap.objs.size + 3 ∨ c = s1.heap.objs.size ∨ c = s1.heap.objs.size + 1 := by simpa using hcm
      have hle : s1.heap.objs.size ≤ c := by
        rcases e' with z | z | z | z | z <;> rw [z] <;> first | exact Nat.le_refl _ | exact Nat.le_add_right _ _
      exact I1.fpOk hle (I1.hok.fresh hle)
theorem walkZ {K : PySem.W.Frag} {b1 b2 : Bool} {a1 a2 : Addr} {xs ys : List V} : L2.Walk (ItZ K b1 b2 a1 a2) (min xs.length ys.length) (fun H => SqB K b1 H a1 xs ∧ SqB K b2 H a2 ys) (YPair (fun i => xs[i]?) (fun i => ys[i]?)) := by
  refine ⟨fun i _ hi q => ?_, fun _ q => ⟨xs, ys, q.1, q.2, rfl⟩, fun i H v H' _ q y => ?_⟩
  · have h1 : i < xs.length := by omega
    have h2 : i < ys.length := by omega
    exact ⟨xs, ys, xs[i], ys[i], q.1, q.2, by simp [h1], by simp [h2]⟩
  · obtain ⟨T, x, z, h1, h2, h3, h4, h5⟩ := y
    exact ⟨T, x, z, h1, h2, h3, h4 xs q.1, h5 ys q.2⟩
theorem enumV_len : ∀ (k : Int) (xs : List Val), (enumV k xs).length = xs.length
  | _, [] => rfl
  | k, _ :: xs => congrArg Nat.succ (enumV_len (k + 1) xs)
theorem zipV_len : ∀ (xs ys : List Val), (zipV xs ys).length = min xs.length ys.length
  | [], ys => by simp [zipV]
  | _ :: _, [] => by simp [zipV]
  | _ :: xs, _ :: ys => by simp only [zipV, List.length_cons, zipV_len xs ys]; omega
theorem enumV_get : ∀ {xs : List Val} {k : Int} {i : Nat} {v : Val}, (enumV k xs)[i]? = some v → ∃ x, xs[i]? = some x ∧ v = .tup [.int (k + i), x]
  | [], k, i, v, h => by simp [enumV] at h
  | x :: xs, k, 0, v, h => by
    simp only [enumV, List.getElem?_cons_zero, Option.some.injEq] at h
    exact ⟨x, rfl, by rw [← h]; simp⟩
  | x :: xs, k, i + 1, v, h => by
    simp only [enumV, List.getElem?_cons_succ] at h ⊢
    obtain ⟨y, h1, h2⟩ := enumV_get h
    exact ⟨y, h1, by rw [h2, show k + 1 + (i : Int) = k + ((i + 1 : Nat) : Int) by omega]⟩
theorem zipV_get : ∀ {xs ys : List Val} {i : Nat} {v : Val}, (zipV xs ys)[i]? = some v → ∃ x y, xs[i]? = some x ∧ ys[i]? = some y ∧ v = .tup [x, y]
  | [], ys, i, v, h => by simp [zipV] at h
  | _ :: _, [], i, v, h => by simp [zipV] at h
  | x :: xs, y :: ys, 0, v, h => by
    simp only [zipV, List.getElem?_cons_zero, Option.some.injEq] at h
    exact ⟨x, y, rfl, rfl, h.symm⟩
  | x :: xs, y :: ys, i + 1, v, h => by
    simp only [zipV, List.getElem?_cons_succ] at h ⊢
    exact zipV_get h
def FxB (K : PySem.W.Frag) (F : Hp) : Bool → Addr → List V → Prop
  | true, a, us => Rd F a (.lst us)
  | false, a, us => SqT K F a us
theorem FxB.sq {K : PySem.W.Frag} {F H : Hp} {b : Bool} {a : Addr} {us : List V} (h : FxB K F b a us) (s : Same F H) : SqB K b H a us := by
  cases b
  · exact sqT_mono s h
  · exact Or.inl (rd_mono s h)
theorem seqV_fx {K : PySem.W.Frag} {F : Hp} {v : Val} {u : V} {xs : List Val} (h : VR K F v u) (q : seqV v = some xs) : ∃ a us b, u = .ref a ∧ FxB K F b a us ∧ VRs K F xs us := by
  cases h with
  | tup h1 h2 => cases q; exact ⟨_, _, false, rfl, h1, h2⟩
  | lst h1 h2 => cases q; exact ⟨_, _, true, rfl, h1, h2⟩
  | _ => cases q
section
variable {K : PySem.W.Frag} {B : Bg} {F H : Hp} {e : Ev} {σ : Sig}
theorem pair_new {B1 : Bg} {F1 H1 : Hp} {e1 : Ev} {σ1 : Sig} {T : Addr} {x y : Val} {u w : V} (C : Cur K B1 F1 H1 e1 σ1) (hT : H1 T = none) (h1 : VR K F1 x u) (h2 : VR K F1 y w) :
    ∃ F', Cur K B1 F' (upd H1 T (.tup [u, w])) e1 σ1 ∧ Same F1 F' ∧ VR K F' (.tup [x, y]) (.ref T) := by
  obtain ⟨C2, s, e⟩ := C.growF (o := .tup [u, w]) hT
  exact ⟨_, C2, s, .tup (.inl (.inl e)) (.cons (h1.mono s) (.cons (h2.mono s) .nil))⟩
theorem ri_enum {xs : List Val} {a : Addr} {us : List V} {b : Bool} (h1 : FxB K F b a us) (h2 : VRs K F xs us) : RI K B F H e σ (enumV 0 xs) (ItE K b a) := by
  have e1 := h2.length
  refine ⟨_, _, by rw [enumV_len, e1]; exact walkE (K := K) (b := b) (a := a) (xs := us), fun H s => h1.sq s, ?_⟩
  rintro i v B1 F1 H1 e1 σ1 x H' hv C s ⟨T, k, y, rfl, hT, rfl, hk, hy⟩
  obtain ⟨w, h3, rfl⟩ := enumV_get hv
  obtain ⟨w', h4, h5⟩ := h2.get' hy
  rw [h3] at h4; cases h4
  cases hk
  rw [show (0 : Int) + (i : Nat) = (i : Nat) by omega]
  exact pair_new C hT (.int _) (h5.mono s)
theorem ri_zip {xs ys : List Val} {a1 a2 : Addr} {us ws : List V} {b1 b2 : Bool} (h1 : FxB K F b1 a1 us) (h2 : VRs K F xs us) (h3 : FxB K F b2 a2 ws) (h4 : VRs K F ys ws) : RI K B F H e σ (zipV xs ys) (ItZ K b1 b2 a1 a2) := by
  have e1 := h2.length
  have e2 := h4.length
  refine ⟨fun H => SqB K b1 H a1 us ∧ SqB K b2 H a2 ws, _, by rw [zipV_len, e1, e2]; exact walkZ (K := K) (b1 := b1) (b2 := b2) (a1 := a1) (a2 := a2) (xs := us) (ys := ws), fun H s => ⟨h1.sq s, h3.sq s⟩, ?_⟩
  rintro i v B1 F1 H1 e1 σ1 x H' hv C s ⟨T, y, z, rfl, hT, rfl, hy, hz⟩
  obtain ⟨p, q, h5, h6, rfl⟩ := zipV_get hv
  obtain ⟨p', h7, h8⟩ := h2.get' hy
  rw [h5] at h7; cases h7
  obtain ⟨q', h9, h10⟩ := h4.get' hz
  rw [h6] at h9; cases h9
  exact pair_new C hT (h8.mono s) (h10.mono s)
end
section
variable {X : Cx} {W : WX} {a b : Expr} {ma : M RV} {ms : M (List RV)} {p pos tpos : Pos} {elts : List Expr} {kk : Nat}
theorem si_enum (gl : Gl X "enumerate") (fr : X.mg "enumerate" = none) (ha : SE X W a ma) (hs : starEach [a] X.env = [(false, eval a X.env)] := by rfl) : SI X W (.Tuple elts kk tpos) (.Call (.Name "enumerate" p) [a] [] pos) (mEnum ma) := by
  refine PI.imp (pi_enumB gl fr (sa_cons ha sa_nil hs) hs) fun σ H R h => ?_
  obtain ⟨np, F, e, Rl, h⟩ := h
  refine sa_1 (Cur.refl Rl) h fun r e1 F1 H1 x C1 q1 h1 => ?_
  obtain ⟨F2, e2, v, C2, s2, r2, h2, _⟩ := At.dt C1 q1 h1
  cases q : seqV v with
  | none => rw [q] at h2; exact h2.elim
  | some xs =>
    rw [q] at h2
    obtain ⟨a, us, b, rfl, f, rs⟩ := seqV_fx r2 q
    exact ⟨a, us, b, rfl, f.sq C2.rel.sub, h2.ok rfl C2 (ri_enum f rs)⟩
theorem si_zip (gl : Gl X "zip") (fr : X.mg "zip" = none) (ha : SA X W [a, b] ms) (hs : starEach [a, b] X.env = (false, eval a X.env) :: starEach [b] X.env := by rfl) (hpl : (backTo pos (starEach [b] X.env)).any (·.1) = false := by rfl) :
    SI X W (.Tuple elts kk tpos) (.Call (.Name "zip" p) [a, b] [] pos) (mZip ms) := by
  refine PI.imp (pi_zipB gl fr ha hs hpl) fun σ H R h => ?_
  obtain ⟨np, F, e, Rl, h⟩ := h
  refine use (R1 := RRs X.K) (Cur.refl Rl) h fun rs e1 F1 H1 us C1 q1 _ h1 => ?_
  obtain ⟨F2, e2, vs, C2, s2, r2, h2⟩ := At.dts C1 q1 h1
  split at h2
  · rename_i v w
    cases r2 with
    | cons r3 r4 => cases r4 with
      | cons r5 r6 =>
        cases r6
        split at h2
        · rename_i xs ys qx qy
          obtain ⟨a1, u1, b1, rfl, f1, g1⟩ := seqV_fx r3 qx
          obtain ⟨a2, u2, b2, rfl, f2, g2⟩ := seqV_fx r5 qy
          exact ⟨a1, a2, u1, u2, b1, b2, rfl, f1.sq C2.rel.sub, f2.sq C2.rel.sub, h2.ok rfl C2 (ri_zip f1 g1 f2 g2)⟩
        · exact h2.elim
  · exact h2.elim
end
end Pu
set_option Elab.async false
set_option linter.all false
set_option maxRecDepth 100000
set_option maxHeartbeats 2000000
namespace Pu
open PySem PySem.Spec PyProof.Rows L2
def mStar (a : M RV) (r : M (List RV)) : M (List RV) := a.bind fun x => (M.dt x).bind fun v => match seqV v with
  | some xs => r.bind fun ys => M.ret (xs.map .dat ++ ys)
  | none => M.bad
section
variable {K : PySem.W.Frag} {W : WX} {B : Bg} {F H : Hp} {σ : Sig} {e : Ev}
theorem RRs.pre {ds : List Val} {dvs : List V} {rs : List RV} {us : List V} (g : VRs K F ds dvs) (h : RRs K B F H e σ rs us) : RRs K B F H e σ (ds.map .dat ++ rs) (dvs ++ us) := by
  induction ds generalizing dvs with
  | nil => cases g; exact h
  | cons d ds ih => cases g with
    | cons a b => exact .cons a (fun v z => nomatch z) (ih b)
end
section
variable {X : Cx} {W : WX} {a : Expr} {es : List Expr} {ma : M RV} {mr : M (List RV)} {p : Pos}
theorem sa_star (ha : SE X W a ma) (hr : SA X W es mr) (hs : starEach (.Starred a p :: es) X.env = (true, eval a X.env) :: starEach es X.env := by rfl) : SA X W (.Starred a p :: es) (mStar ma mr) := by
  refine PA.imp (StX.pa_star ha hr hs) fun σ H Q h => ?_
  obtain ⟨np, F, e, Rl, h⟩ := h
  refine use (R1 := RR X.K) (Cur.refl Rl) h fun r e1 F1 H1 x C1 q1 _ h1 => ?_
  obtain ⟨F2, e2, v, C2, s2, r2, h2, _⟩ := At.dt C1 q1 h1
  cases q : seqV v with
  | none => rw [q] at h2; exact h2.elim
  | some xs =>
    rw [q] at h2
    obtain ⟨a, us, b, rfl, f, rs⟩ := seqV_fx r2 q
    refine ⟨a, us, rfl, ?_, use (R1 := RRs X.K) C2 h2 fun ys e3 F3 H3 ws C3 q3 c3 h3 => h3.ok rfl C3 (RRs.pre (rs.mono c3.post.sub) q3)⟩
    have z := f.sq C2.rel.sub
    cases b
    · exact .inl z
    · exact .inr z
end
def asI (m : M RV) : M Int := m.bind fun r => (M.rd r).bind fun v => match v with
  | .int i => M.ret i
  | _ => M.bad
def mLe3 (a b c d : M RV) : M Bool := (asI a).bind fun i => (asI b).bind fun j => if i ≤ j then (asI c).bind fun k => if j ≤ k then (asI d).bind fun l => M.ret (decide (k ≤ l)) else M.ret false else M.ret false
section
variable {X : Cx} {W : WX} {a b c d : Expr} {ma mb mc md : M RV} {ta tb tc td : TE} {pos : Pos}
def tLe3 (ta tb tc td : TE) : TT := fun σ H Q => ta σ H fun x H1 => tb σ H1 fun y H2 => ∃ i j, x = V.int i ∧ y = V.int j ∧ if i ≤ j then tc σ H2 fun z H3 => ∃ k, z = V.int k ∧ if j ≤ k then td σ H3 fun w H4 => ∃ l, w = V.int l ∧ Q (decide (k ≤ l)) H4 else Q false H3 else Q false H2
theorem pt_le3 (ha : PE X a ta) (hb : PE X b tb) (hc : PE X c tc) (hd : PE X d td) (hm : lastMarks [.LtE, .LtE, .LtE] [b, c, d] = false := by with_unfolding_all rfl) : PT X (.Compare a [.LtE, .LtE, .LtE] [b, c, d] pos) (tLe3 ta tb tc td) := by
  refine ⟨fun pins s σ H Q I h => ?_⟩
  refine isTrue_chain (thn (ha.run pins s σ H _ I h) fun v s1 ⟨x, H1, I1, r1, q1⟩ => test_link (thn (hb.run pins s1 σ H1 _ I1 q1) fun u s2 ⟨y, H2, I2, r2, i, j, ex, ey, q2⟩ =>
    thn (op_le pins s2 σ H2 x y v u (fun z H' => H' = H2 ∧ z = .bl (decide (i ≤ j))) I2 r1 r2 ⟨i, j, ex, ey, rfl, rfl⟩) fun d3 s3 ⟨z, H3, I3, r3, eh, ez⟩ => ?_)) hm
  subst ez eh
  cases r3
  refine wpAny_truthy_bool ?_
  by_cases hij : i ≤ j
  · rw [if_pos hij] at q2
    rw [decide_eq_true hij]
    refine ite_tt (test_link (thn (hc.run pins s3 σ H3 _ I3 q2) fun w s4 ⟨z, H4, I4, r4, k, ez, q4⟩ => thn (op_le pins s4 σ H4 y z u w (fun z' H' => H' = H4 ∧ z' = .bl (decide (j ≤ k))) I4 r2 r4 ⟨j, k, ey, ez, rfl, rfl⟩) fun d5 s5 ⟨z5, H5, I5, r5, eh5, ez5⟩ => ?_))
    subst ez5 eh5
    cases r5
    refine wpAny_truthy_bool ?_
    by_cases hjk : j ≤ k
    · rw [if_pos hjk] at q4
      rw [decide_eq_true hjk]
      refine ite_tt (test_last (thn (hd.run pins s5 σ H5 _ I5 q4) fun w' s6 ⟨z6, H6, I6, r6, l, e6, q6⟩ => thn (op_le pins s6 σ H6 z z6 w w' (fun z' H' => H' = H6 ∧ z' = .bl (decide (k ≤ l))) I6 r4 r6 ⟨k, l, ez, e6, rfl, rfl⟩) fun d7 s7 ⟨z7, H7, I7, r7, eh7, ez7⟩ => ?_))
      subst ez7 eh7
      cases r7
      exact wpAny_truthy_bool ⟨H7, I7, q6⟩
    · rw [if_neg hjk] at q4
      rw [decide_eq_false hjk]
      exact ite_ff ⟨H5, I5, q4⟩
  · rw [if_neg hij] at q2
    rw [decide_eq_false hij]
    exact ite_ff ⟨H3, I3, q2⟩
theorem st_le3 (ha : SE X W a ma) (hb : SE X W b mb) (hc : SE X W c mc) (hd : SE X W d md) (hm : lastMarks [.LtE, .LtE, .LtE] [b, c, d] = false := by with_unfolding_all rfl) : ST X W (.Compare a [.LtE, .LtE, .LtE] [b, c, d] pos) (mLe3 ma mb mc md) := by
  refine PT.imp (pt_le3 ha hb hc hd hm) fun σ H Q h => ?_
  obtain ⟨np, F, e, Rl, h⟩ := h
  unfold mLe3 asI at h
  rw [M.bind_assoc] at h
  refine use (R1 := RR X.K) (Cur.refl Rl) h fun r1 e1 F1 H1 x C1 q1 _ h1 => ?_
  rw [M.bind_assoc] at h1
  obtain ⟨v, rv, h1⟩ := At.rd C1.rel q1 h1
  cases v with
  | int i =>
    rw [M.ret_bind, M.bind_assoc] at h1
    refine use (R1 := RR X.K) C1 h1 fun r2 e2 F2 H2 y C2 q2 _ h2 => ?_
    rw [M.bind_assoc] at h2
    obtain ⟨w, rw_, h2⟩ := At.rd C2.rel q2 h2
    cases w with
    | int j =>
      rw [M.ret_bind] at h2
      refine ⟨i, j, rv.int, rw_.int, ?_⟩
      by_cases hij : i ≤ j
      · rw [if_pos hij] at h2 ⊢
        rw [M.bind_assoc] at h2
        refine use (R1 := RR X.K) C2 h2 fun r3 e3 F3 H3 z C3 q3 _ h3 => ?_
        rw [M.bind_assoc] at h3
        obtain ⟨v3, rv3, h3⟩ := At.rd C3.rel q3 h3
        cases v3 with
        | int k =>
          rw [M.ret_bind] at h3
          refine ⟨k, rv3.int, ?_⟩
          by_cases hjk : j ≤ k
          · rw [if_pos hjk] at h3 ⊢
            rw [M.bind_assoc] at h3
            refine use (R1 := RR X.K) C3 h3 fun r4 e4 F4 H4 w4 C4 q4 _ h4 => ?_
            rw [M.bind_assoc] at h4
            obtain ⟨v4, rv4, h4⟩ := At.rd C4.rel q4 h4
            cases v4 with
            | int l => exact ⟨l, rv4.int, h4.ok rfl C4 rfl⟩
            | _ => exact h4.elim
          · rw [if_neg hjk] at h3 ⊢
            exact h3.ok rfl C3 rfl
        | _ => exact h3.elim
      · rw [if_neg hij] at h2 ⊢
        exact h2.ok rfl C2 rfl
    | _ => exact h2.elim
  | _ => exact h1.elim
end
structure BindDf (d : He5.DefA) (ps : List Str) (c j : Nat) : Prop where
  ne : d.dfl ≠ []
  hn : c + (d.dfl.length - j) = ps.length
  all : ∀ (T : Addr) (kV doc pm : Value) (an : Option Addr) (cdv ct : Value) (us its : List Value), us.length = c → its.length = d.dfl.length →
    ∃ k, bindArgs (PySem.W.fnOf d.name d.qual d.params d.body d.scope (.ref T) kV doc pm an cdv ct) ⟨us, []⟩ = seqItems? (.ref T) >>= k ∧ k (some its.toArray) = pure (ps.zip (us ++ its.drop j))
section
variable {P : Program} {w : World} {K : PySem.W.Frag} {mg : Str → Option Value} {base : Heap} {k n c j : Nat} {d : He5.DefA} {ps : List Str} {m : M RV}
theorem tupAt_ok {a : Addr} (h : tupAt K a = true) (F : Hp) : SqT K F a [] := by
  unfold tupAt at h
  split at h
  · rename_i o e
    rw [Bool.and_eq_true] at h
    obtain ⟨h1, h2⟩ := h
    split at h2
    · rename_i its n e2
      have e3 : its = #[] := Array.isEmpty_iff.mp h2
      subst e3
      exact .inr ⟨o, #[], n, e, eq_of_beq h1, e2, by simp [sizeLine_eq], .nil⟩
    · cases h2
  · cases h
theorem FnB.partsDf (B : FnB P w K mg base k d ps n m) (bd : BindDf d ps c j) : ∃ fd ds, FnG P w K mg base k (d.at_ K) fd ps (spG K n m) ∧ Vals ((d.dvs K).drop j) ds ∧ Binds K fd ps ds ∧ PySem.W.keepIn K (.ref (d.at_ K)) = true := by
  obtain ⟨fd, D, F⟩ := B.ex
  have len : (d.dvs K).length = d.dfl.length := by unfold He5.DefA.dvs; rw [List.length_map]
  have ne : d.dvs K ≠ [] := fun z => bd.ne (List.map_eq_nil_iff.mp z)
  obtain ⟨ds, v, b⟩ := D.binds1 c j ne (by rw [len]; exact bd.hn) fun T kV doc pm an cdv ct us its h1 h2 => bd.all T kV doc pm an cdv ct us its h1 (by rw [h2, len])
  exact ⟨fd, ds, F, v, b, D.kp⟩
theorem fnB_bad (D : ∃ fd, FunD K d.name d.qual d.params d.body d.scope (d.dvs K) (d.kws K) (d.at_ K) fd) (hn : ps.length = n) : FnB P w K mg base k d ps n M.bad := by
  obtain ⟨fd, D⟩ := D
  refine ⟨fd, D, ⟨fun vs H Q E h => h.1.trans hn.symm, fun A outer s H args us vs Q E _ _ _ _ _ h => ?_⟩⟩
  obtain ⟨_, _, _, _, _, h⟩ := h
  exact h.elim
end
section
variable {X : Cx} {W : WX} {k n c j : Nat} {d : He5.DefA} {ps : List Str} {x : Str} {p pos : Pos} {e : Expr} {es : List Expr} {mf : M RV} {mr : M (List RV)} {dl : List Val}
theorem se_callDf (ms : List Bool) (B : FnB X.prog X.w X.K X.mg X.base k d ps n mf) (bd : BindDf d ps c j) (vc : VC X.K dl ((d.dvs X.K).drop j)) (G : Good X k W) (gl : Gl X x) (at_ : X.mg x = some (.ref (d.at_ X.K))) (ha : SA X W (e :: es) mr) (hn : ms.length = n := by rfl) (n1 : (x == ("__debug__" : Str)) = false := by decide)
    (n2 : starEach (e :: es) X.env = (false, eval e X.env) :: starEach es X.env := by rfl) (n3 : (backTo pos (starEach es X.env)).any (·.1) = false := by rfl) : SE X W (.Call (.Name x p) (e :: es) [] pos) (mCall ms mf mr dl) := by
  obtain ⟨fd, ds, F, v, hb, kp⟩ := B.partsDf bd
  exact se_call ms F G gl at_ kp hb v vc ha hn n1 n2 n3
end
inductive NmL (X : Cx) : List Nat → List Expr → Prop
  | nil : NmL X [] []
  | cons {i : Nat} {x : Str} {is : List Nat} {es : List Expr} {pos : Pos} : X.N[i]? = some x → Loc X.env.scope x → (X.fn x = true ∨ X.env.scope.names.lookup x = some .local) → NmL X is es → NmL X (i :: is) (.Name x pos :: es)
theorem nm_nil {X : Cx} : NmL X [] [] := .nil
theorem nm_cons {X : Cx} (i : Nat) {x : Str} {is : List Nat} {es : List Expr} {pos : Pos} (r : NmL X is es) (hi : X.N[i]? = some x := by rfl) (hx : Loc X.env.scope x := by first | exact Or.inl rfl | exact Or.inr rfl) (hf : X.fn x = true ∨ X.env.scope.names.lookup x = some .local := by first | exact .inl rfl | exact .inr rfl) : NmL X (i :: is) (.Name x pos :: es) := .cons hi hx hf r
theorem nm_pgs {X : Cx} (nd : X.N.Nodup) {is : List Nat} {es : List Expr} (h : NmL X is es) : PGs X es (fun us σ H Q => us.length = is.length ∧ Q (setsS is us σ) H) := by
  induction h with
  | nil =>
    refine PGs.imp pgs_nil fun us σ H Q ⟨h1, h2⟩ => ?_
    cases us with
    | nil => exact ⟨rfl, h2⟩
    | cons u us => cases h1
  | cons hi hx hf r ih =>
    refine PGs.imp (pgs_cons (pg_name nd hi hx hf) ih) fun us σ H Q ⟨h1, h2⟩ => ?_
    cases us with
    | nil => cases h1
    | cons u us => exact ⟨u, us, rfl, by simpa using h1, h2⟩
section
variable {X : Cx} {W : WX} {np k kt : Nat} {es tgs : List Expr} {ms : M (List RV)} {pt pos : Pos}
theorem ss_parN (is : List Nat) (p : Bool) {k2 pt2} (G : Good X k W) (ha : SA X W es ms) (hn : NmL X is tgs) (hp : p = true ∨ ∀ n ∈ is, np ≤ n := by decide)
    (len : (assignEach tgs X.env).length = is.length := by rfl) (hst : (assignEach tgs X.env).findIdx? (·.1) = none := by rfl)
    (hs : swapsWithSole [.Tuple tgs kt pt] (.Tuple es k2 pt2) pos.line X.env = pure false := by rfl) (hw : swappedStores [.Tuple tgs kt pt] (.Tuple es k2 pt2) X.env = pure none := by rfl)
    (hz : is.length ≤ sizeLine := by rw [sizeLine_eq]; decide) :
    SS X W np (.Assign [.Tuple tgs kt pt] (.Tuple es k2 pt2) pos) (mPar p is ms) := by
  refine PS.imp (ps_asg (pe_tup ha) (pg_tup G.calm (nm_pgs G.nd hn) len hst) hs hw) fun D σ H h => ?_
  obtain ⟨F, e, R, h⟩ := h
  refine useX (R1 := RRs X.K) (Cur.refl R) h fun rs e1 F1 H1 us C1 q1 _ h1 => ?_
  by_cases hl : us.length = is.length
  · refine ⟨by rw [hl]; exact hz, fun a na => ⟨a, us, rfl, .inl (.inl upd_same), hl, ?_⟩⟩
    obtain ⟨C2, _, _, _⟩ := C1.grow (o := .tup us) na
    exact par_ok hp C2 (q1.grow na) h1
  · exfalso
    have l := q1.length
    rw [if_neg (by omega)] at h1
    exact h1.elim
end
end Pu
set_option Elab.async false
set_option linter.all false
set_option maxRecDepth 100000
set_option maxHeartbeats 3200000
namespace Pu
open PySem PySem.Spec PyProof.Rows L2
abbrev bareSet (w : World) : Obj := { cls := .type "set", dict := none, data := .set #[] 0 (.fresh 0 0 (!w.params.followText "set-order")) }
section
variable {P : Program} {w : World} {A : Around} {E : Value → Shared → Prop} {s : Shared}
theorem setOfList {l : Addr} {vs : Array Value} (ns : List Int) {Q : Value → Shared → Prop} (quiet : A.handled = none) (src : s.heap.IsList l vs) (whole : IntsAre vs.toList ns) (few : ns.length + 1 < scanBound)
    (goal : ∀ (h' : Heap) (tk c : Nat), SetR w h' s.heap.objs.size (fun j => decide (j ∈ ns)) c → c ≤ ns.length → (∀ b o, s.heap.get? b = some o → h'.get? b = some o) → Q (.ref s.heap.objs.size) { s with heap := h', toks := tk }) :
    wpAny (model P w) A (call (.type "set") [.ref l]) Q E s := by
  have many : vs.size = ns.length := by
    have q := IntsAre.length whole
    rwa [Array.length_toList] at q
  have ⟨c, tl, order⟩ := F.called_set.mro
  have a1 := F.called_set.made; have a2 := F.called_set.sub; have a3 := F.called_set.notType; have a4 := F.called_set.canCreate; have a5 := F.typeCall_set_1 (.ref l)
  refine wpAny_call (codeAny_of_tree (show wpAny _ _ (callAny (.type "set") _) _ _ _ from ?_))
  refine wpAny_pure ⟨Code.quiet_builtin _ (by decide +kernel), codeAny_builtin F.entry_type_call ?_⟩
  rw [Around.under_plain (weight_type_call_type "set" [.ref l] []) rfl]
  repeat (any_goals (first | assumption | wp_step))
  refine codeAny_mono (code_set_led1 (.ref l) (E := E) (Q₁ := fun obj s₁ => obj = .ref s.heap.objs.size ∧ s₁ = { s with heap := s.heap.push (bareSet w) }) ⟨rfl, rfl⟩) fun r s₁ hr => ?_
  match r, hr with
  | .error e, hr => exact hr
  | .ok .next, hr => exact hr.elim
  | .ok .brk, hr => exact hr.elim
  | .ok .cont, hr => exact hr.elim
  | .ok (.ret obj), hr =>
    obtain ⟨rfl, rfl⟩ := hr
    have here : (s.heap.push (bareSet w)).get? s.heap.objs.size = some (bareSet w) := Heap.get?_push_size _ rfl
    have kind : Shared.TypeIs { s with heap := s.heap.push (bareSet w) } (.ref s.heap.objs.size) "set" := ⟨_, here, rfl⟩
    have ⟨init1, init2⟩ := And.intro F.called_set.init.lookup (F.called_set.init.bind (.ref s.heap.objs.size))
    repeat (any_goals (first | assumption | wp_step))
    refine codeAny_mono (codeAny_call_builtin (R := wants (fun r s₂ => r = .none ∧ ∃ h' tk c, s₂ = { s with heap := h', toks := tk } ∧ SetR w h' s.heap.objs.size (fun j => decide (j ∈ ns)) c ∧ c ≤ ns.length ∧
        (∀ b o, s.heap.get? b = some o → h'.get? b = some o)) E) F.called_set.init.plain F.entry_set_init (check_set_init_1 kind ?_)) fun r₂ s₂ hr₂ => ?_
    · obtain ⟨⟨lc, ld, lv, ls⟩, at_l, isl, nl, val⟩ := src
      cases isl
      cases val
      have at_l2 : (s.heap.push (bareSet w)).get? l = some { cls := .type "list", dict := ld, data := .seq vs nl, slots := ls } := Heap.get?_push_of_some _ at_l
      have ⟨no1, no2⟩ := And.intro F.sub_list_set F.sub_list_frozenset
      have no3 : (Value.type "list" == Value.type "dict") = false := by decide
      have src2 : (s.heap.push (bareSet w)).IsList l vs := ⟨_, at_l2, rfl, nl, rfl⟩
      unfold Builtin.«set.__init__» noKeywords Builtin.Frozenset.updateFrom
      generalize hold : pyIter = it_
      wp_walk
      subst hold
      refine wpAny_pyIter_list src2 (wpAny_bind (wpAny_runValue ?_))
      have below : l < s.heap.objs.size := Heap.lt_size at_l
      have size1 : (s.heap.push (bareSet w)).objs.size = s.heap.objs.size + 1 := Heap.size_push ..
      have apart1 : l ≠ (s.heap.push (bareSet w)).objs.size := by rw [size1]; exact Nat.ne_of_lt (Nat.lt_succ_of_lt below)
      have apart2 : s.heap.objs.size ∉ [(s.heap.push (bareSet w)).objs.size, l] := by
        rw [size1]
        exact nin2 (Nat.ne_of_lt (Nat.lt_succ_self _)) (Nat.ne_of_gt below)
      refine set_update_ints ((Walks.list (show A.in1.in1.in1.handled = none by simp [quiet]) _ l apart1 vs).toS) s.heap.objs.size apart2 ns many few (fun i v hv => ?_) (vs.size - 0) 0 _ (by omega) (Nat.zero_le _)
        ⟨⟨_, Heap.get?_push_size _ rfl, rfl, rfl⟩, src2.push _⟩ ⟨0, Nat.le_refl 0, setR_new_at (Heap.get?_push_of_some _ here)⟩ fun s' c' moved le made => ?_
      · have lt : i < ns.length := by rw [← many]; exact (Array.getElem?_eq_some_iff.mp hv).1
        obtain ⟨t, e⟩ := PyProof.Rows.IntsAre.int_at whole i v (by rwa [Array.getElem?_toList])
        exact ⟨ns[i], t, List.getElem?_eq_getElem lt, by rw [e, List.getD_eq_getElem?_getD, List.getElem?_eq_getElem lt] <;> rfl⟩
      · obtain ⟨h', g2, d', tk', os'⟩ := s'
        have ⟨eg, ed, eo⟩ : g2 = s.gens ∧ d' = s.drawn ∧ os' = s.os := ⟨moved.gens, moved.drawn, moved.os⟩
        subst eg ed eo
        refine wpAny_pure (show wpAny _ _ (ret Value.none) _ _ _ from wpAny_pure ⟨rfl, h', tk', c', rfl, made, by rw [← many]; exact le, fun b o e => ?_⟩)
        have lt : b < s.heap.objs.size := Heap.lt_size e
        refine moved.heap b o ?_ (Heap.get?_push_of_some _ (Heap.get?_push_of_some _ e))
        rw [size1]
        exact nin2 (Nat.ne_of_lt lt) (Nat.ne_of_lt (Nat.lt_succ_of_lt lt))
    · match r₂, hr₂ with
      | .error e, hr => exact hr
      | .ok .next, hr => exact hr.elim
      | .ok .brk, hr => exact hr.elim
      | .ok .cont, hr => exact hr.elim
      | .ok (.ret r), hr =>
        obtain ⟨rfl, h', tk, c', rfl, m1, m2, m3⟩ := hr
        repeat (any_goals (first | assumption | wp_step))
        exact goal _ _ _ m1 m2 m3
end
end Pu
set_option Elab.async false
set_option linter.all false
set_option maxRecDepth 100000
set_option maxHeartbeats 2000000
namespace Pu
open PySem PySem.Spec PyProof.Rows L2
def insU (x : Int) : List Int → List Int
  | [] => [x]
  | y :: r => if x < y then x :: y :: r else if x = y then y :: r else y :: insU x r
def sortU : List Int → List Int
  | [] => []
  | x :: r => insU x (sortU r)
theorem insU_mem {x k : Int} : ∀ {l : List Int}, k ∈ insU x l ↔ k = x ∨ k ∈ l
  | [] => by simp [insU]
  | y :: r => by
    unfold insU
    split
    · simp
    · split
      · rename_i h; subst h; simp
      · simp only [List.mem_cons, insU_mem (l := r)]
        constructor
        · rintro (h | h | h)
          · exact .inr (.inl h)
          · exact .inl h
          · exact .inr (.inr h)
        · rintro (h | h | h)
          · exact .inr (.inl h)
          · exact .inl h
          · exact .inr (.inr h)
theorem sortU_mem {k : Int} : ∀ {l : List Int}, k ∈ sortU l ↔ k ∈ l
  | [] => by simp [sortU]
  | x :: r => by simp [sortU, insU_mem, sortU_mem (l := r)]
theorem insU_ris {x : Int} : ∀ {l : List Int}, l.Pairwise (· < ·) → (insU x l).Pairwise (· < ·)
  | [], _ => by simp [insU]
  | y :: r, h => by
    have ⟨h1, h2⟩ := List.pairwise_cons.mp h
    unfold insU
    split
    · rename_i q
      refine List.pairwise_cons.mpr ⟨fun z hz => ?_, h⟩
      rcases List.mem_cons.mp hz with rfl | hz
      · exact q
      · exact Int.lt_trans q (h1 z hz)
    · split
      · exact h
      · rename_i q1 q2
        refine List.pairwise_cons.mpr ⟨fun z hz => ?_, insU_ris h2⟩
        rcases insU_mem.mp hz with rfl | hz
        · omega
        · exact h1 z hz
theorem sortU_ris : ∀ {l : List Int}, (sortU l).Pairwise (· < ·)
  | [] => List.Pairwise.nil
  | _ :: r => insU_ris (sortU_ris (l := r))
theorem ris_eq : ∀ {a b : List Int}, a.Pairwise (· < ·) → b.Pairwise (· < ·) → (∀ k, k ∈ a ↔ k ∈ b) → a = b
  | [], [], _, _, _ => rfl
  | [], y :: b, _, _, h => absurd ((h y).mpr List.mem_cons_self) (by simp)
  | x :: a, [], _, _, h => absurd ((h x).mp List.mem_cons_self) (by simp)
  | x :: a, y :: b, ha, hb, h => by
    have ⟨a1, a2⟩ := List.pairwise_cons.mp ha
    have ⟨b1, b2⟩ := List.pairwise_cons.mp hb
    have e : x = y := by
      have h1 := (h x).mp List.mem_cons_self
      have h2 := (h y).mpr List.mem_cons_self
      rcases List.mem_cons.mp h1 with q | q
      · exact q
      · rcases List.mem_cons.mp h2 with q2 | q2
        · exact q2.symm
        · have := b1 x q; have := a1 y q2; omega
    subst e
    refine congrArg _ (ris_eq a2 b2 fun k => ?_)
    have h3 := h k
    simp only [List.mem_cons] at h3
    constructor
    · intro q
      rcases h3.mp (.inr q) with z | z
      · have := a1 k q; omega
      · exact z
    · intro q
      rcases h3.mpr (.inr q) with z | z
      · have := b1 k q; omega
      · exact z
theorem insI_perm {x : Int} : ∀ {l : List Int}, (insI x l).Perm (x :: l)
  | [] => .refl _
  | y :: r => by
    unfold insI
    split
    · exact .refl _
    · exact ((insI_perm (l := r)).cons y).trans (.swap ..)
theorem sortI_perm : ∀ {l : List Int}, (sortI l).Perm l
  | [] => .nil
  | x :: r => insI_perm.trans (sortI_perm.cons x)
theorem insI_ris {x : Int} : ∀ {l : List Int}, l.Pairwise (· ≤ ·) → (insI x l).Pairwise (· ≤ ·)
  | [], _ => by simp [insI]
  | y :: r, h => by
    have ⟨h1, h2⟩ := List.pairwise_cons.mp h
    unfold insI
    split
    · rename_i q
      refine List.pairwise_cons.mpr ⟨fun z hz => ?_, h⟩
      rcases List.mem_cons.mp hz with rfl | hz
      · exact q
      · exact Int.le_trans q (h1 z hz)
    · rename_i q
      refine List.pairwise_cons.mpr ⟨fun z hz => ?_, insI_ris h2⟩
      rcases List.mem_cons.mp ((insI_perm (l := r)).mem_iff.mp hz) with rfl | hz
      · omega
      · exact h1 z hz
theorem sortI_ris : ∀ {l : List Int}, (sortI l).Pairwise (· ≤ ·)
  | [] => List.Pairwise.nil
  | _ :: r => insI_ris (sortI_ris (l := r))
theorem sorted_eq {a b : List Int} (p : a.Perm b) (ha : a.Pairwise (· ≤ ·)) (hb : b.Pairwise (· ≤ ·)) : a = b := List.Perm.eq_of_pairwise (fun _ _ _ _ h1 h2 => Int.le_antisymm h1 h2) ha hb p
theorem intsV_of {K : PySem.W.Frag} {F : Hp} : ∀ {vs : List Val} {us : List V} {ns : List Int}, VRs K F vs us → ints? vs = some ns → us = ns.map V.int
  | [], _, _, h, q => by cases h; cases q; rfl
  | v :: vs, _, ns, .cons a b, q => by
    cases v with
    | int i =>
      unfold ints? at q
      cases z : ints? vs with
      | none => rw [z] at q; cases q
      | some is =>
        rw [z] at q
        cases q
        cases a
        rw [intsV_of b z]
        rfl
    | _ => cases q
theorem vrs_ints {K : PySem.W.Frag} {F : Hp} : ∀ {ns : List Int}, VRs K F (ns.map .int) (ns.map V.int)
  | [] => .nil
  | i :: ns => .cons (.int i) vrs_ints
def mSort (m : M RV) : M RV := m.bind fun r => (M.rd r).bind fun v => match v with
  | .lst xs => match ints? xs with
    | some ns => M.ret (.tmp (.lst ((sortI ns).map .int)))
    | none => M.bad
  | _ => M.bad
def mSortSet (m : M RV) : M RV := m.bind fun r => (M.rd r).bind fun v => match v with
  | .lst xs => match ints? xs with
    | some ns => if ns.length < 60 then M.ret (.tmp (.lst ((sortU ns).map .int))) else M.bad
    | none => M.bad
  | _ => M.bad
def mLR1 (a : M RV) : M RV := a.bind fun r => (M.rd r).bind fun v => match v with
  | .int j => if j ≤ 16777216 ∧ -4611686018427387904 ≤ j then M.ret (.tmp (.lst (rangeV 0 j))) else M.bad
  | _ => M.bad
def mLR2 (a b : M RV) : M RV := a.bind fun r => b.bind fun s => (M.rd r).bind fun v => (M.rd s).bind fun w => match v, w with
  | .int i, .int j => if (-4611686018427387904 ≤ i ∧ i < 4611686018427387904 ∧ -4611686018427387904 ≤ j ∧ j < 4611686018427387904) ∧ j - i ≤ 16777216 then M.ret (.tmp (.lst (rangeV i j))) else M.bad
  | _, _ => M.bad
section
variable {X : Cx} {W : WX} {a b : Expr} {ma mb : M RV} {p p2 pos pos2 : Pos}
def rSetI (K : PySem.W.Frag) (w : World) : List V → Hp → VK → Prop := fun xs H Q => ∃ (l : Addr) (ns : List Int), xs = [V.ref l] ∧ SqL K H l (ns.map V.int) ∧ ns.length < 63 ∧
  ∀ (q : Addr) (c : Nat), H q = none → c ≤ ns.length → Q (.ref q) (upd H q (SetO w q (fun j => decide (j ∈ ns)) c))
theorem cr_setI (hc : X.calm = true) : CallR X (.type "set") (rSetI X.K X.w) := by
  intro pins s σ H xs us Q I r h
  obtain ⟨l, ns, rfl, hl, few, q⟩ := h
  cases r with
  | cons r1 r2 =>
    cases r2
    cases r1
    obtain ⟨its, rv, pl, _⟩ := I.list hl
    have whole : IntsAre its.toArray.toList ns := by rw [List.toList_toArray]; exact L2.intsAre_of rv
    refine setOfList ns (I.ok.hd hc) pl.isList whole (by unfold scanBound; omega) fun h' tk c R le k => ?_
    exact ⟨.ref _, _, I.laid (t' := tk) k (Nat.le_refl _) (setO_new R), rfl, q _ c (I.hok.fresh (Nat.le_refl _)) le⟩
theorem lst_new {K : PySem.W.Frag} {B : Bg} {F H : Hp} {e : Ev} {σ : Sig} {ns : List Int} {t : Addr} {Q : VK} (C : Cur K B F H e σ) (ht : H t = none) (h : At K W (RR K) B (M.ret (.tmp (.lst (ns.map .int)))) F e σ H Q) : Q (.ref t) (upd H t (.lst (ns.map V.int))) := by
  obtain ⟨C3, n3, f3, m3⟩ := C.grow (o := .lst (ns.map V.int)) ht
  exact h.ok (r := RV.tmp (.lst (ns.map .int))) rfl C3 ⟨t, rfl, f3, ⟨_, upd_same, vrs_ints⟩, n3, m3⟩
theorem se_sort (gl : Gl X "sorted") (fr : X.mg "sorted" = none) (ha : SE X W a ma) (h1 : starEach (a :: []) X.env = (false, eval a X.env) :: starEach [] X.env := by rfl) (h2 : (backTo pos (starEach [] X.env)).any (·.1) = false := by rfl) : SE X W (.Call (.Name "sorted" p) [a] [] pos) (mSort ma) := by
  refine PE.imp (pe_callB cr_sortedI gl fr (by decide +kernel) (sa_cons ha sa_nil h1) (by decide) (by decide) h1 h2) fun σ H Q h => ?_
  obtain ⟨np, F, e, Rl, h⟩ := h
  refine sa_1 (Cur.refl Rl) h fun r e1 F1 H1 x C1 q1 h1 => ?_
  obtain ⟨v, rv, h2⟩ := At.rd C1.rel q1 h1
  split at h2
  · rename_i xs
    split at h2
    · rename_i ns hn
      obtain ⟨l, us, rfl, h3, h4⟩ := rv.lst C1.rel.sub
      rw [intsV_of h4 hn] at h3
      refine ⟨l, ns, rfl, .inl h3, fun ns' t pm up ht => ?_⟩
      rw [sorted_eq (pm.trans sortI_perm.symm) up sortI_ris]
      exact lst_new (W := W) C1 ht h2
    · exact h2.elim
  · exact h2.elim
theorem se_sortSet (hc : X.calm = true) (gl : Gl X "sorted") (fr : X.mg "sorted" = none) (gl2 : Gl X "set") (fr2 : X.mg "set" = none) (ha : SE X W a ma)
    (h1 : starEach (a :: []) X.env = (false, eval a X.env) :: starEach [] X.env := by rfl) (h2 : (backTo pos2 (starEach [] X.env)).any (·.1) = false := by rfl)
    (h3 : starEach (.Call (.Name "set" p2) [a] [] pos2 :: []) X.env = (false, eval (.Call (.Name "set" p2) [a] [] pos2) X.env) :: starEach [] X.env := by rfl) (h4 : (backTo pos (starEach [] X.env)).any (·.1) = false := by rfl) :
    SE X W (.Call (.Name "sorted" p) [.Call (.Name "set" p2) [a] [] pos2] [] pos) (mSortSet ma) := by
  refine PE.imp (pe_callB (cr_sortedSet hc) gl fr (by decide +kernel) (pa_cons (pe_callTy (cr_setI hc) gl2 fr2 (by decide +kernel) (sa_cons ha sa_nil h1) (by decide) (by decide) h1 h2) pa_nil h3) (by decide) (by decide) h3 h4) fun σ H Q h => ?_
  obtain ⟨np, F, e, Rl, h⟩ := h
  show tA X.K W (mCons ma mNil) σ H _
  refine sa_1 (Cur.refl Rl) h fun r e1 F1 H1 x C1 q1 h1 => ?_
  obtain ⟨v, rv, h2⟩ := At.rd C1.rel q1 h1
  split at h2
  · rename_i xs
    split at h2
    · rename_i ns hn
      by_cases few : ns.length < 60
      · rw [if_pos few] at h2
        obtain ⟨l, us, rfl, h3, h4⟩ := rv.lst C1.rel.sub
        rw [intsV_of h4 hn] at h3
        refine ⟨l, ns, rfl, .inl h3, by omega, fun q c hq le => ?_⟩
        obtain ⟨C2, _, _, _⟩ := C1.grow (o := SetO X.w q (fun j => decide (j ∈ ns)) c) hq
        refine ⟨q, _, c, rfl, upd_same, by omega, fun ns' t up mem _ ht => ?_⟩
        rw [ris_eq up (sortU_ris (l := ns)) fun k => by rw [mem k, decide_eq_true_eq, sortU_mem]]
        exact lst_new (W := W) C2 ht h2
      · rw [if_neg few] at h2
        exact h2.elim
    · exact h2.elim
  · exact h2.elim
theorem rgV_eq {K : PySem.W.Frag} {F : Hp} {i j : Int} : VRs K F (rangeV i j) (rgV i j) := by
  unfold rangeV rgV
  generalize List.range (j - i).toNat = l
  induction l with
  | nil => exact .nil
  | cons x l ih => exact .cons (.int _) ih
theorem rng_new {K : PySem.W.Frag} {B : Bg} {F H : Hp} {e : Ev} {σ : Sig} {i j : Int} {t : Addr} {Q : VK} (C : Cur K B F H e σ) (ht : H t = none) (h : At K W (RR K) B (M.ret (.tmp (.lst (rangeV i j)))) F e σ H Q) : Q (.ref t) (upd H t (.lst (rgV i j))) := by
  obtain ⟨C3, n3, f3, m3⟩ := C.grow (o := .lst (rgV i j)) ht
  exact h.ok (r := RV.tmp (.lst (rangeV i j))) rfl C3 ⟨t, rfl, f3, ⟨_, upd_same, rgV_eq⟩, n3, m3⟩
theorem se_lr1 (hc : X.calm = true) (gl : Gl X "list") (fr : X.mg "list" = none) (gl2 : Gl X "range") (fr2 : X.mg "range" = none) (ha : SE X W a ma) (h1 : starEach [a] X.env = (false, eval a X.env) :: starEach [] X.env := by rfl)
    (h3 : starEach [.Call (.Name "range" p2) [a] [] pos2] X.env = (false, eval (.Call (.Name "range" p2) [a] [] pos2) X.env) :: starEach [] X.env := by rfl) : SE X W (.Call (.Name "list" p) [.Call (.Name "range" p2) [a] [] pos2] [] pos) (mLR1 ma) := by
  refine PE.imp (pe_listRg hc gl fr (prg_1 gl2 fr2 ha h1) h3) fun σ H Q h => ?_
  obtain ⟨np, F, e, Rl, h⟩ := h
  refine use (R1 := RR X.K) (Cur.refl Rl) h fun r e1 F1 H1 x C1 q1 _ h1 => ?_
  obtain ⟨v, rv, h2⟩ := At.rd C1.rel q1 h1
  split at h2
  · rename_i j
    by_cases hj : j ≤ 16777216 ∧ -4611686018427387904 ≤ j
    · rw [if_pos hj] at h2
      exact ⟨j, rv.int, ⟨by omega, by omega, by omega, by omega, by omega⟩, fun t ht => rng_new C1 ht h2⟩
    · rw [if_neg hj] at h2
      exact h2.elim
  · exact h2.elim
theorem se_lr2 (hc : X.calm = true) (gl : Gl X "list") (fr : X.mg "list" = none) (gl2 : Gl X "range") (fr2 : X.mg "range" = none) (ha : SE X W a ma) (hb : SE X W b mb) (h1 : starEach [a, b] X.env = (false, eval a X.env) :: starEach [b] X.env := by rfl) (h2 : starEach [b] X.env = (false, eval b X.env) :: starEach [] X.env := by rfl)
    (h3 : starEach [.Call (.Name "range" p2) [a, b] [] pos2] X.env = (false, eval (.Call (.Name "range" p2) [a, b] [] pos2) X.env) :: starEach [] X.env := by rfl) : SE X W (.Call (.Name "list" p) [.Call (.Name "range" p2) [a, b] [] pos2] [] pos) (mLR2 ma mb) := by
  refine PE.imp (pe_listRg hc gl fr (prg_2 gl2 fr2 ha hb h1 h2 (by rw [h2]; rfl)) h3) fun σ H Q h => ?_
  obtain ⟨np, F, e, Rl, h⟩ := h
  refine use (R1 := RR X.K) (Cur.refl Rl) h fun r1 e1 F1 H1 x C1 q1 _ h1 => ?_
  refine use (R1 := RR X.K) C1 h1 fun r2 e2 F2 H2 y C2 q2 c2 h2 => ?_
  obtain ⟨v, rv, h3⟩ := At.rd C2.rel (q1.carry c2) h2
  obtain ⟨w, rw_, h4⟩ := At.rd C2.rel q2 h3
  split at h4
  · rename_i i j
    by_cases hj : (-4611686018427387904 ≤ i ∧ i < 4611686018427387904 ∧ -4611686018427387904 ≤ j ∧ j < 4611686018427387904) ∧ j - i ≤ 16777216
    · rw [if_pos hj] at h4
      exact ⟨i, j, rv.int, rw_.int, ⟨by omega, by omega, by omega, by omega, by omega⟩, fun t ht => rng_new C2 ht h4⟩
    · rw [if_neg hj] at h4
      exact h4.elim
  · exact h4.elim
end
end Pu
set_option Elab.async false
set_option linter.all false
set_option maxRecDepth 100000
namespace Pu
open PySem PySem.Spec PyProof.Rows L2
structure BindKD (d : He5.DefA) (ps : List Str) (n : Nat) (ks : List Str) (g : List Nat) : Prop where
  ne : d.dfl ≠ []
  nd : g.Nodup
  all : ∀ (T : Addr) (kV doc pm : Value) (an : Option Addr) (cdv ct : Value) (us ws its : List Value), us.length = n → ws.length = ks.length → its.length = d.dfl.length →
    ∃ k, bindArgs (PySem.W.fnOf d.name d.qual d.params d.body d.scope (.ref T) kV doc pm an cdv ct) ⟨us, ks.zip ws⟩ = seqItems? (.ref T) >>= k ∧ k (some its.toArray) = pure (ps.zip (sel g (us ++ ws ++ its)))
structure KBD (K : PySem.W.Frag) (fd : FuncData) (ps : List Str) (n : Nat) (ks : List Str) (g : List Nat) (its : List Value) : Prop where
  to : ∀ (s : Shared) (us ws : List Value), K.In s.heap → us.length = n → ws.length = ks.length → BindsTo s fd ⟨us, ks.zip ws⟩ (ps.zip (sel g (us ++ ws ++ its)))
  nd : g.Nodup
section
variable {P : Program} {w : World} {K : PySem.W.Frag} {mg : Str → Option Value} {base : Heap} {k n c : Nat} {d : He5.DefA} {ps ks : List Str} {g : List Nat} {m : M RV}
theorem FnB.partsKD (B : FnB P w K mg base k d ps n m) (bd : BindKD d ps c ks g) : ∃ fd its, FnG P w K mg base k (d.at_ K) fd ps (spG K n m) ∧ Vals (d.dvs K) its ∧ KBD K fd ps c ks g its ∧ PySem.W.keepIn K (.ref (d.at_ K)) = true := by
  obtain ⟨fd, D, F⟩ := B.ex
  have len : (d.dvs K).length = d.dfl.length := by unfold He5.DefA.dvs; rw [List.length_map]
  have ne : d.dvs K ≠ [] := fun z => bd.ne (List.map_eq_nil_iff.mp z)
  have kp := D.kp
  obtain ⟨oc, od, dV, kV, doc, pm, an, cdv, ct, osl, rfl, lk, hcd, hD, hK⟩ := D.ex
  rcases hD with ⟨e, _⟩ | ⟨_, T, o, its, m, rfl, lT, oT, rT⟩
  · exact absurd e ne
  · refine ⟨_, its, F, rT, ⟨fun s us ws X h1 h2 => ?_, bd.nd⟩, kp⟩
    obtain ⟨k, e1, e2⟩ := bd.all T kV doc pm an cdv ct us ws its h1 h2 (rT.length.symm.trans len)
    refine BindsTo.of_looks fun M => ?_
    rw [e1]
    exact looks_items X lT oT (.of_pure e2)
end
def mCallKD (ms : List Bool) (f : M RV) (as ks : M (List RV)) (n m : Nat) (g : List Nat) (dl : List Val) : M RV := as.bind fun rs => ks.bind fun zs => if rs.length = n ∧ zs.length = m then runF ms f (sel g (rs ++ zs ++ dl.map .dat)) else M.bad
def cKD (n m : Nat) (sp : Sp) (W : WX) (g : List Nat) (dvs : List V) (t u : TA) : TE := fun σ H Q => t σ H fun vs H1 => u σ H1 fun zs H2 => vs.length = n ∧ zs.length = m ∧ sp (sel g (vs ++ zs ++ dvs)) H2 Q (WE W σ)
section
variable {X : Cx} {W : WX} {k n : Nat} {f : Addr} {fd : FuncData} {ps ks : List Str} {x : Str} {p pos : Pos} {e : Expr} {es : List Expr} {kws : List Keyword} {mf : M RV} {mr mk : M (List RV)} {sp : Sp} {t u : TA} {g : List Nat} {dvs : List V} {its : List Value} {dl : List Val}
theorem goKD {pins : List (Addr × Obj)} {σ : Sig} {H : Hp} {s : Shared} {Q : VK} {us ws : List Value} {vs zs : List V} (F : FnG X.prog X.w X.K X.mg X.base k f fd ps sp) (hr : Room k X.A) (hG : X.A.guards = some []) (tk : L2N.Takes X W) (hb : KBD X.K fd ps n ks g its) (hv : Vals dvs its)
    (I : Inv X pins σ H s) (r : Vals vs us) (rz : Vals zs ws) (l1 : vs.length = n) (l2 : zs.length = ks.length) (h : sp (sel g (vs ++ zs ++ dvs)) H Q (WE W σ)) : wpAny (model X.prog X.w) X.A (call (.ref f) us (ks.zip ws)) (EP X pins σ Q) X.xe s :=
  goG F hr hG tk I (hb.to s us ws I.kIn (r.length.symm.trans l1) (rz.length.symm.trans l2)) (sel_vals ((r.append rz).append hv)) h
theorem pg_callKDs (F : FnG X.prog X.w X.K X.mg X.base k f fd ps sp) (hr : Room k X.A) (hG : X.A.guards = some []) (tk : L2N.Takes X W) (gl : Gl X x)
    (at_ : X.mg x = some (.ref f)) (kp : PySem.W.keepIn X.K (.ref f) = true) (hb : KBD X.K fd ps n ks g its) (hv : Vals dvs its) (ha : PA X (e :: es) t) (hk : PK X kws u)
    (k1 : (backToKw pos (keywordEach kws X.env)).all (·.1.isSome) = true := by rfl) (k2 : (backToKw pos (keywordEach kws X.env)).filterMap (·.1) = ks := by rfl) (n1 : (x == ("__debug__" : Str)) = false := by decide)
    (n2 : starEach (e :: es) X.env = (false, eval e X.env) :: starEach es X.env := by rfl)
    (n3 : ((backTo pos (starEach (e :: es) X.env)).any (·.1) || (backToKw pos (keywordEach kws X.env)).any (·.1.isNone)) = false := by rfl) : PE X (.Call (.Name x p) (e :: es) kws pos) (cKD n ks.length sp W g dvs t u) := by
  constructor
  intro pins s σ H Q I h
  refine wpAny_Call_Name_kw (ld_glob I gl at_ ?_ n1)
  refine PySem.W.callWith_KW (h₀ := X.base) I.ok.mod.kin kp k1 (thn (ha.run pos pins s σ H _ I h) ?_) n3 n2
  rintro us s1 ⟨vs, H1, I1, r, q⟩
  refine thn (hk.run pos pins s1 σ H1 _ I1 q) ?_
  rintro ws s2 ⟨zs, H2, I2, rz, l1, l2, q2⟩
  refine ⟨I2.kIn, ?_⟩
  rw [k2]
  exact goKD F hr hG tk hb hv I2 r rz l1 l2 q2
theorem pg_callKD0 (F : FnG X.prog X.w X.K X.mg X.base k f fd ps sp) (hr : Room k X.A) (hG : X.A.guards = some []) (tk : L2N.Takes X W) (gl : Gl X x)
    (at_ : X.mg x = some (.ref f)) (kp : PySem.W.keepIn X.K (.ref f) = true) (hb : KBD X.K fd ps 0 ks g its) (hv : Vals dvs its) (hk : PK X kws u)
    (k1 : (backToKw pos (keywordEach kws X.env)).all (·.1.isSome) = true := by rfl) (k2 : (backToKw pos (keywordEach kws X.env)).filterMap (·.1) = ks := by rfl) (n1 : (x == ("__debug__" : Str)) = false := by decide)
    (n3 : ((backTo pos (starEach [] X.env)).any (·.1) || (backToKw pos (keywordEach kws X.env)).any (·.1.isNone)) = false := by rfl) : PE X (.Call (.Name x p) [] kws pos) (cKD 0 ks.length sp W g dvs tNil u) := by
  constructor
  intro pins s σ H Q I h
  refine wpAny_Call_Name_kw (ld_glob I gl at_ ?_ n1)
  refine PySem.W.callWith_KW0 (h₀ := X.base) I.ok.mod.kin kp k1 ?_ n3
  refine thn (hk.run pos pins s σ H _ I h) ?_
  rintro ws s2 ⟨zs, H2, I2, rz, l1, l2, q2⟩
  refine ⟨I2.kIn, ?_⟩
  rw [k2]
  exact goKD (us := []) F hr hG tk hb hv I2 .nil rz l1 l2 q2
theorem kwd_ok {K : PySem.W.Frag} {B : Bg} {F F1 F2 H H1 H2 : Hp} {e e1 e2 : Ev} {σ : Sig} {ms : List Bool} {rs zs : List RV} {us xs : List V} {m nn : Nat} {Q : VK} (C1 : Cur K B F1 H1 e1 σ) (q1 : RRs K B F1 H1 e1 σ rs us) (c2 : Cur K (bg B.np F1 H1 e1 σ) F2 H2 e2 σ)
    (q2 : RRs K (bg B.np F1 H1 e1 σ) F2 H2 e2 σ zs xs) (vc : VC K dl dvs) (nd : g.Nodup) (hn : ms.length = nn) (h : At K W (RR K) B (if rs.length = n ∧ zs.length = m then runF ms mf (sel g (rs ++ zs ++ dl.map .dat)) else M.bad) F2 e2 σ H2 Q) : us.length = n ∧ xs.length = m ∧ spG K nn mf (sel g (us ++ xs ++ dvs)) H2 Q (WE W σ) := by
  by_cases hh : rs.length = n ∧ zs.length = m
  · rw [if_pos hh] at h
    exact ⟨q1.length.symm.trans hh.1, q2.length.symm.trans hh.2, call_ok (C1.trans c2) (((RRs.join C1 c2 q2 q1).app (vc F2)).sel nd) h hn⟩
  · rw [if_neg hh] at h
    exact h.elim
theorem se_callKD {nn : Nat} {d : He5.DefA} {c : Nat} (ms : List Bool) (Bf : FnB X.prog X.w X.K X.mg X.base k d ps nn mf) (bd : BindKD d ps c ks g) (vc : VC X.K dl (d.dvs X.K)) (G : Good X k W) (gl : Gl X x)
    (at_ : X.mg x = some (.ref (d.at_ X.K))) (ha : SA X W (e :: es) mr) (hk : SK X W kws mk) (hn : ms.length = nn := by rfl)
    (k1 : (backToKw pos (keywordEach kws X.env)).all (·.1.isSome) = true := by rfl) (k2 : (backToKw pos (keywordEach kws X.env)).filterMap (·.1) = ks := by rfl) (n1 : (x == ("__debug__" : Str)) = false := by decide)
    (n2 : starEach (e :: es) X.env = (false, eval e X.env) :: starEach es X.env := by rfl)
    (n3 : ((backTo pos (starEach (e :: es) X.env)).any (·.1) || (backToKw pos (keywordEach kws X.env)).any (·.1.isNone)) = false := by rfl) : SE X W (.Call (.Name x p) (e :: es) kws pos) (mCallKD ms mf mr mk c ks.length g dl) := by
  obtain ⟨fd, its, F, hv, hb, kp⟩ := Bf.partsKD bd
  refine PE.imp (pg_callKDs F G.room G.gd G.tk gl at_ kp hb hv ha hk k1 k2 n1 n2 n3) fun σ H Q h => ?_
  obtain ⟨np, F, e, R, h⟩ := h
  refine use (R1 := RRs X.K) (Cur.refl R) h fun rs e1 F1 H1 us C1 q1 _ h1 => ?_
  exact useS (R1 := RRs X.K) C1 h1 fun zs e2 F2 H2 xs C2 q2 c2 h2 => kwd_ok (F := F) (H := H) (e := e) C1 q1 c2 q2 vc hb.nd hn h2
theorem se_callKD0 {nn : Nat} {d : He5.DefA} (ms : List Bool) (Bf : FnB X.prog X.w X.K X.mg X.base k d ps nn mf) (bd : BindKD d ps 0 ks g) (vc : VC X.K dl (d.dvs X.K)) (G : Good X k W) (gl : Gl X x)
    (at_ : X.mg x = some (.ref (d.at_ X.K))) (hk : SK X W kws mk) (hn : ms.length = nn := by rfl)
    (k1 : (backToKw pos (keywordEach kws X.env)).all (·.1.isSome) = true := by rfl) (k2 : (backToKw pos (keywordEach kws X.env)).filterMap (·.1) = ks := by rfl) (n1 : (x == ("__debug__" : Str)) = false := by decide)
    (n3 : ((backTo pos (starEach [] X.env)).any (·.1) || (backToKw pos (keywordEach kws X.env)).any (·.1.isNone)) = false := by rfl) : SE X W (.Call (.Name x p) [] kws pos) (mCallKD ms mf mNil mk 0 ks.length g dl) := by
  obtain ⟨fd, its, F, hv, hb, kp⟩ := Bf.partsKD bd
  refine PE.imp (pg_callKD0 F G.room G.gd G.tk gl at_ kp hb hv hk k1 k2 n1 n3) fun σ H Q h => ?_
  obtain ⟨np, F, e, R, h⟩ := h
  have C := Cur.refl (np := np) R
  have h0 : At X.K W (RR X.K) (bg np F H e σ) (mk.bind fun zs => if ([] : List RV).length = 0 ∧ zs.length = ks.length then runF ms mf (sel g ([] ++ zs ++ dl.map .dat)) else M.bad) F e σ H Q := h
  exact useS (R1 := RRs X.K) C h0 fun zs e2 F2 H2 xs C2 q2 c2 h2 => kwd_ok (us := []) (F := F) (H := H) (e := e) C .nil c2 q2 vc hb.nd hn h2
end
theorem Ok.iff' {α : Type} {m : M α} {e : Ev} {P R : α → Ev → Prop} (h : ∀ a e, P a e ↔ R a e) : Ok m e P ↔ Ok m e R := ⟨fun q => Ok.mono q fun a e' => (h a e').mp, fun q => Ok.mono q fun a e' => (h a e').mpr⟩
theorem ok_callKD {ms : List Bool} {f : M RV} {as ks : M (List RV)} {n m : Nat} {g : List Nat} {dl : List Val} {e : Ev} {Q : RV → Ev → Prop} : Ok (mCallKD ms f as ks n m g dl) e Q ↔ Ok as e fun rs e1 => Ok ks e1 fun zs e2 => (rs.length = n ∧ zs.length = m) ∧ Ok (runF ms f (sel g (rs ++ zs ++ dl.map .dat))) e2 Q := by
  unfold mCallKD
  rw [ok_bind]
  refine Ok.iff' fun rs e1 => ?_
  rw [ok_bind]
  refine Ok.iff' fun zs e2 => ?_
  by_cases h : rs.length = n ∧ zs.length = m
  · rw [if_pos h]; exact ⟨fun q => ⟨h, q⟩, fun q => q.2⟩
  · rw [if_neg h]; exact ⟨fun q => (ok_bad.mp q).elim, fun q => absurd q.1 h⟩
end Pu
set_option Elab.async false
set_option linter.all false
set_option maxRecDepth 100000
set_option maxHeartbeats 2000000
namespace Pu
open PySem PySem.Spec PyProof.Rows L2
def less (S : List Addr) (F : Hp) : Hp := fun a => if a ∈ S then none else F a
section
variable {K : PySem.W.Frag} {F H : Hp} {S : List Addr}
theorem less_in {a : Addr} (h : a ∈ S) : less S F a = none := by unfold less; rw [if_pos h]
theorem less_out {a : Addr} (h : a ∉ S) : less S F a = F a := by unfold less; rw [if_neg h]
theorem VR.less {v : Val} {u : V} (hS : ∀ a ∈ S, ∃ us, F a = some (.lst us)) (h : VR K F v u) : noLst v = true → VR K (less S F) v u :=
  VR.rec (motive_1 := fun v u _ => noLst v = true → VR K (Pu.less S F) v u) (motive_2 := fun vs us _ => noLsts vs = true → VRs K (Pu.less S F) vs us)
    (fun _ => .non) (fun b _ => .bl b) (fun i _ => .int i) (fun x _ => .str x) (fun n _ => .ty n) (fun x _ => .glo x)
    (fun {a us xs} s _ ih q => .tup (by
      rcases s with (s | ⟨o, s⟩) | s
      · refine .inl (.inl ?_)
        rw [less_out fun z => by obtain ⟨w, e⟩ := hS _ z; rw [e] at s; cases s]
        exact s
      · refine .inl (.inr ⟨o, ?_⟩)
        rw [less_out fun z => by obtain ⟨w, e⟩ := hS _ z; rw [e] at s; cases s]
        exact s
      · exact .inr s) (ih (by simpa [noLst] using q)))
    (fun _ _ _ q => by simp [noLst] at q) (fun _ _ _ _ q => by simp [noLst] at q) (fun _ _ _ _ q => by simp [noLst] at q) (fun _ => .nil)
    (fun _ _ i1 i2 q => by
      rw [noLsts, Bool.and_eq_true] at q
      exact .cons (i1 q.1) (i2 q.2)) h
end
section
variable {K : PySem.W.Frag} {W : WX} {B : Bg} {F F1 H H1 : Hp} {e e' : Ev} {σ : Sig} {iF : Nat} {A : Addr} {bs : List Addr} {xs : List (List Val)}
theorem InR.snoc {xs : List (List Val)} {bs : List Addr} (h : InR K B F H xs bs) {t : Addr} {ys : List Val} {us : List V} (h1 : H t = some (.lst us)) (h2 : VRs K F ys us) (h3 : F t = none) (h4 : B.mine t) : InR K B F H (xs ++ [ys]) (bs ++ [t]) := by
  induction h with
  | nil => exact .cons h1 h2 h3 h4 .nil
  | cons a b c d _ ih => exact .cons a b c d ih
theorem InR.vrs {xs : List (List Val)} {bs : List Addr} (h : InR K B F H xs bs) (s : Same F F1) (k : ∀ b ∈ bs, F1 b = H b) : VRs K F1 (xs.map .lst) (bs.map .ref) := by
  induction h with
  | nil => exact .nil
  | cons h1 h2 h3 h4 _ ih => exact .cons (.lst (.inl ((k _ List.mem_cons_self).trans h1)) (h2.mono s)) (ih fun b hb => k b (List.mem_cons_of_mem _ hb))
def seen (S : List Addr) (F H : Hp) : Hp := fun a => if a ∈ S then H a else F a
theorem seen_in {S : List Addr} {a : Addr} (h : a ∈ S) : seen S F H a = H a := by unfold seen; rw [if_pos h]
theorem seen_out {S : List Addr} {a : Addr} (h : a ∉ S) : seen S F H a = F a := by unfold seen; rw [if_neg h]
theorem seen_sub {S : List Addr} (h : ∀ a ∈ S, F a = none) : Same F (seen S F H) := fun a o q => by
  by_cases ha : a ∈ S
  · rw [h a ha] at q; cases q
  · rw [seen_out ha]; exact q
theorem NX.read (N : NX K B iF A bs xs F H e σ) : Rel K (seen (A :: bs) F H) H e σ ∧ ∀ {np : Nat} {F2 H2 : Hp} {e2 : Ev}, Cur K (bg np (seen (A :: bs) F H) H e σ) F2 H2 e2 σ →
    NX K B iF A bs xs (less (A :: bs) F2) H2 e σ ∧ Same F (less (A :: bs) F2) ∧ (∀ v u, noLst v = true → VR K F2 v u → VR K (less (A :: bs) F2) v u) ∧ (∀ vs us, noLsts vs = true → VRs K F2 vs us → VRs K (less (A :: bs) F2) vs us) ∧
      ∀ t, F2 t = none → (bg np (seen (A :: bs) F H) H e σ).mine t → t ∉ A :: bs ∧ less (A :: bs) F2 t = none ∧ B.mine t := by
  have inn := N.x7.at
  have nS := N.nS
  have sb := seen_sub (H := H) nS
  have AS : A ∈ A :: bs := List.mem_cons_self
  have old : ∀ {i : Nat} {s : Slot}, i ≠ iF → e[i]? = some s → (e.set iF .un)[i]? = some s := fun {i s} hi q => by rw [List.getElem?_set_ne (Ne.symm hi)]; exact q
  refine ⟨⟨fun a o q => ?_, by have := N.cur.rel.len; rwa [List.length_set] at this, fun i s o q1 q2 => ?_, fun i j v w a q1 => absurd q1 (noOwn_get N.no), N.cur.rel.tb, fun a ps q => ?_⟩, fun {np F2 H2 e2} C => ?_⟩
  · by_cases ha : a ∈ A :: bs
    · rw [seen_in ha] at q; exact q
    · rw [seen_out ha] at q; exact N.cur.rel.sub a o q
  rotate_left
  · by_cases ha : a ∈ A :: bs
    · rw [seen_in ha] at q
      obtain ⟨us, h⟩ := N.has a ha
      rw [h] at q; cases q
    · rw [seen_out ha] at q; exact N.cur.rel.nt a ps q
  rotate_left
  · by_cases hi : i = iF
    · subst hi
      rw [N.x1] at q1; cases q1
      rw [N.x2] at q2; cases q2
      exact ⟨_, rfl, .lst (.inl ((seen_in AS).trans N.x3)) (N.x7.vrs sb fun b hb => seen_in (List.mem_cons_of_mem _ hb))⟩
    · have z := N.cur.rel.slot i s o (old hi q1) q2
      cases s with
      | un => trivial
      | own v => exact absurd q1 (noOwn_get N.no)
      | dat v =>
        obtain ⟨u, e1, e2⟩ := z
        exact ⟨u, e1, e2.mono sb⟩
  · have up : ∀ a o, seen (A :: bs) F H a = some o → F2 a = some o := C.post.sub
    have keepH : ∀ a ∈ A :: bs, H2 a = H a := fun a ha => by
      obtain ⟨us, ho⟩ := N.has a ha
      rw [ho]
      exact C.rel.sub a _ (up a _ (by rw [seen_in ha]; exact ho))
    have lsts : ∀ a ∈ A :: bs, ∃ us, F2 a = some (.lst us) := fun a ha => by
      obtain ⟨us, q⟩ := N.has a ha
      exact ⟨us, up _ _ (by rw [seen_in ha]; exact q)⟩
    have noO : ∀ a, ¬ Own e σ a := fun a ⟨i, v, q, _⟩ => noOwn_get N.no q
    have s3 : Same F (less (A :: bs) F2) := fun a o q => by
      have na : a ∉ A :: bs := fun z => by rw [nS a z] at q; cases q
      rw [less_out na]
      exact up a o (by rw [seen_out na]; exact q)
    refine ⟨⟨⟨⟨N.cur.post.sub.trans s3, fun a o q n t5 => ?_, fun a q => ?_, fun a q => N.cur.post.kp a (C.post.kp a q)⟩, ⟨fun a o q => ?_, N.cur.rel.len, fun i s o q1 q2 => ?_, N.cur.rel.inj, C.rel.tb, fun a ps q => (by
      by_cases ha : a ∈ A :: bs
      · rw [less_in ha] at q; cases q
      · rw [less_out ha] at q; exact C.rel.nt a ps q)⟩, N.cur.own, N.cur.ln, N.cur.par⟩, N.no,
      N.x1, N.x2, (keepH A AS).trans N.x3, less_in AS, N.x5, N.x6, N.x7.go s3 (fun b hb => keepH b (List.mem_cons_of_mem _ hb)) fun b hb => less_in (List.mem_cons_of_mem _ hb)⟩, s3, fun v u nl r => r.less lsts nl, fun vs us nl r => ?_, fun t h1 h2 => ?_⟩
    · exact C.post.fr a o (N.cur.post.fr a o q n t5) (noO a) t5
    · have na : a ∉ A :: bs := fun z => q (less_in z)
      rw [less_out na] at q
      rcases C.post.nw a q with z | z
      · have z' : seen (A :: bs) F H a ≠ none := z
        rw [seen_out na] at z'
        exact N.cur.post.nw a z'
      · rcases z with z | z
        · exact absurd z (noO a)
        · exact .inr (.inr (N.cur.post.kp a z))
    · have na : a ∉ A :: bs := fun z => by rw [less_in z] at q; cases q
      rw [less_out na] at q
      exact C.rel.sub a o q
    · have z := N.cur.rel.slot i s o q1 q2
      cases s with
      | un => trivial
      | dat v =>
        obtain ⟨u, e1, e2⟩ := z
        exact ⟨u, e1, e2.mono s3⟩
      | own v =>
        exfalso
        rcases getset q1 with ⟨_, z, _⟩ | ⟨_, z⟩
        · cases z
        · exact noOwn_get N.no z
    · clear C up keepH s3
      induction vs generalizing us with
      | nil => cases r; exact .nil
      | cons v vs ih =>
        cases r with
        | cons a b =>
          rw [noLsts, Bool.and_eq_true] at nl
          exact .cons (a.less lsts nl.1) (ih _ nl.2 b)
    · have na : t ∉ A :: bs := fun z => by
        obtain ⟨us, q⟩ := lsts t z
        rw [q] at h1; cases h1
      refine ⟨na, by rw [less_out na]; exact h1, ?_⟩
      rcases h2 with z | z
      · exact absurd z (noO t)
      · exact .inr (N.cur.post.kp t z)
theorem NX.ex_ {m : M RV} {v : Val} {Q : VK} (N : NX K B iF A bs xs F H e σ) (hm : m e = .ok (.dat v) e') (k : ∀ F1 H1 u, NX K B iF A bs xs F1 H1 e σ → Same F F1 → (noLst v = true → VR K F1 v u) → Q u H1) : tE K W m σ H Q := by
  obtain ⟨R, go⟩ := N.read
  refine ⟨0, _, e, R, ?_⟩
  unfold At
  rw [hm]
  intro F2 H2 u C r
  obtain ⟨N3, s3, v3, _, _⟩ := go C
  exact k _ H2 u N3 s3 fun nl => v3 v u nl r
theorem NX.exL {m : M RV} {ys : List Val} {Q : VK} (N : NX K B iF A bs xs F H e σ) (hm : m e = .ok (.tmp (.lst ys)) e') (nl : noLsts ys = true)
    (k : ∀ F1 H1 t us, NX K B iF A bs xs F1 H1 e σ → Same F F1 → t ∉ A :: bs → H1 t = some (.lst us) → VRs K F1 ys us → F1 t = none → B.mine t → Q (.ref t) H1) : tE K W m σ H Q := by
  obtain ⟨R, go⟩ := N.read
  refine ⟨0, _, e, R, ?_⟩
  unfold At
  rw [hm]
  intro F2 H2 u C r
  obtain ⟨N3, s3, _, v3, t3⟩ := go C
  obtain ⟨t, rfl, h1, ⟨us, h2, h3⟩, _, h5⟩ := r
  obtain ⟨a1, a2, a3⟩ := t3 t h1 h5
  exact k _ H2 t us N3 s3 a1 h2 (v3 _ _ nl h3) a2 a3
theorem NX.tst {m : M Bool} {b : Bool} {Q : Bool → Hp → Prop} (N : NX K B iF A bs xs F H e σ) (hm : m e = .ok b e') (k : ∀ F1 H1, NX K B iF A bs xs F1 H1 e σ → Same F F1 → Q b H1) : tT K W m σ H Q := by
  obtain ⟨R, go⟩ := N.read
  refine ⟨0, _, e, R, ?_⟩
  unfold At
  rw [hm]
  intro F2 H2 u C r
  obtain ⟨N3, s3, _⟩ := go C
  rw [← r]
  exact k _ H2 N3 s3
theorem noOwn_set {e : Ev} {i : Nat} {v : Val} (h : noOwnE e = true) : noOwnE (e.set i (.dat v)) = true := by
  refine List.all_eq_true.mpr fun s hs => ?_
  rcases List.mem_or_eq_of_mem_set hs with h1 | h1
  · exact List.all_eq_true.mp h s h1
  · subst h1; rfl
theorem NX.setDat {i : Nat} {v : Val} {u : V} (N : NX K B iF A bs xs F H e σ) (hi : i ≠ iF) (r : VR K F v u) : NX K B iF A bs xs F H (e.set i (.dat v)) (σ.set i (some u)) :=
  ⟨by rw [List.set_comm _ _ hi]; exact N.cur.setDat r, noOwn_set N.no, by rw [List.getElem?_set_ne hi]; exact N.x1, by rw [List.getElem?_set_ne hi]; exact N.x2, N.x3, N.x4, N.x5, N.x6, N.x7⟩
theorem NX.app {t : Addr} {ys : List Val} {us : List V} (N : NX K B iF A bs xs F H e σ) (h1 : t ∉ A :: bs) (h2 : H t = some (.lst us)) (h3 : VRs K F ys us) (h4 : F t = none) (h5 : B.mine t) :
    NX K B iF A (bs ++ [t]) (xs ++ [ys]) F (upd H A (.lst (bs.map .ref ++ [.ref t]))) (e.set iF (.dat (.lst (xs.map .lst ++ [.lst ys])))) σ := by
  have tA : t ≠ A := fun z => h1 (by rw [z]; exact List.mem_cons_self)
  obtain ⟨n1, n2⟩ := List.nodup_cons.mp N.x6
  have hl : iF < e.length := (List.getElem?_eq_some_iff.mp N.x1).1
  refine ⟨?_, noOwn_set N.no, ?_, N.x2, ?_, N.x4, N.x5, ?_, ?_⟩
  · rw [List.set_set]
    exact N.cur.write N.x4 (fun ⟨i, v, q, _⟩ => by
      rcases getset q with ⟨_, z, _⟩ | ⟨_, z⟩
      · cases z
      · exact noOwn_get N.no z) N.x5 N.x3
  · rw [List.getElem?_set_self hl, List.map_append]; rfl
  · rw [upd_same, List.map_append]; rfl
  · refine List.nodup_cons.mpr ⟨fun z => ?_, List.nodup_append.mpr ⟨n2, by simp, fun a ha b hb z => ?_⟩⟩
    · rcases List.mem_append.mp z with z | z
      · exact n1 z
      · exact tA (List.mem_singleton.mp z).symm
    · rw [List.mem_singleton] at hb
      subst hb z
      exact h1 (List.mem_cons_of_mem _ ha)
  · have w : InR K B F (upd H A (.lst (bs.map .ref ++ [.ref t]))) xs bs := N.x7.go (Same.refl _) (fun b hb => upd_ne fun z => n1 (by rw [← z]; exact hb)) fun b hb => (N.x7.at b hb).1
    exact w.snoc ((upd_ne tA).trans h2) h3 h4 h5
theorem NX.put {n j : Nat} {b : Addr} {ys : List Val} {us : List V} {v : Val} {u : V} (N : NX K B iF A bs xs F H e σ) (h1 : xs[n]? = some ys) (h2 : bs[n]? = some b) (h3 : H b = some (.lst us)) (h4 : VRs K F ys us) (h5 : VR K F v u) :
    NX K B iF A bs (xs.set n (ys.set j v)) F (upd H b (.lst (us.set j u))) (e.set iF (.dat (.lst ((xs.map .lst).set n (.lst (ys.set j v)))))) σ := by
  obtain ⟨n1, n2⟩ := List.nodup_cons.mp N.x6
  have hl : iF < e.length := (List.getElem?_eq_some_iff.mp N.x1).1
  have hb := List.mem_of_getElem? h2
  have inn := N.x7.at b hb
  refine ⟨?_, noOwn_set N.no, ?_, N.x2, (upd_ne fun z => n1 (by rw [z]; exact hb)).trans N.x3, N.x4, N.x5, N.x6, N.x7.set n2 h2 (h4.set h5 j)⟩
  · rw [List.set_set]
    exact N.cur.write inn.1 (fun ⟨i, v, q, _⟩ => by
      rcases getset q with ⟨_, z, _⟩ | ⟨_, z⟩
      · cases z
      · exact noOwn_get N.no z) inn.2.1 h3
  · rw [List.getElem?_set_self hl, List.map_set]
theorem NX.thaw (N : NX K B iF A bs xs F H e σ) : Cur K B (seen (A :: bs) F H) H e σ ∧ Same F (seen (A :: bs) F H) := by
  obtain ⟨R, _⟩ := N.read
  have sb := seen_sub (H := H) N.nS
  refine ⟨⟨⟨N.cur.post.sub.trans sb, N.cur.post.fr, fun a q => ?_, N.cur.post.kp⟩, R, fun a ⟨i, v, q, _⟩ => absurd q (noOwn_get N.no), by have := N.cur.ln; rwa [List.length_set] at this, fun i v _ q => absurd q (noOwn_get N.no)⟩, sb⟩
  by_cases ha : a ∈ A :: bs
  · exact .inr (N.mine a ha)
  · rw [seen_out ha] at q
    exact N.cur.post.nw a q
theorem NX.start {B : Bg} (C : Cur K B F H e σ) (hi : e[iF]? = some (.own (.lst []))) (hn : noOwnE (e.set iF .un) = true) : ∃ A, NX K B iF A [] [] F H (e.set iF (.dat (.lst []))) σ := by
  have hl : iF < e.length := (List.getElem?_eq_some_iff.mp hi).1
  obtain ⟨o, ho⟩ : ∃ o, σ[iF]? = some o := by
    have := C.rel.len
    exact ⟨σ[iF]'(by omega), List.getElem?_eq_getElem _⟩
  obtain ⟨A, rfl, h1, us, h2, h3⟩ := C.rel.slot iF _ _ hi ho
  cases h3
  refine ⟨A, by rw [List.set_set]; exact C.forget, ?_, by rw [List.getElem?_set_self hl]; rfl, ho, h2, h1, C.own A ⟨iF, _, hi, ho⟩, by simp, .nil⟩
  have : e.set iF (.dat (.lst [])) = (e.set iF .un).set iF (.dat (.lst [])) := by rw [List.set_set]
  rw [this]
  exact noOwn_set hn
end
end Pu
set_option Elab.async false
set_option linter.all false
set_option maxRecDepth 100000
set_option maxHeartbeats 2000000
namespace Pu
open PySem PySem.Spec PyProof.Rows L2
def tN (K : PySem.W.Frag) (iF : Nat) (m : S) : TS := fun D σ H => ∃ B F e, NR K B iF F H e σ ∧ AtN K B iF F m e D
abbrev SN (X : Cx) (iF : Nat) (st : Stmt) (m : S) : Prop := PS X st (tN X.K iF m)
abbrev SNB (X : Cx) (iF : Nat) (b : List Stmt) (m : S) : Prop := PSs X b (tN X.K iF m)
section
variable {K : PySem.W.Frag} {B : Bg} {F H : Hp} {e e' : Ev} {σ : Sig} {iF : Nat} {D : Ends}
theorem mK_bind {α β : Type} {m : M α} {f : α → M β} : ((mK m).bind f) e = match m e with
  | .ok a _ => f a e
  | _ => .bad := by
  unfold M.bind mK
  cases m e <;> rfl
theorem AtN.not {m : S} (h : AtN K B iF F m e D) (hm : m e = .bad) : False := by
  unfold AtN at h
  rw [hm] at h
  exact h
end
section
variable {X : Cx} {iF k : Nat} {st : Stmt} {rest a b : List Stmt} {ma mb : S} {x c : Expr} {m : M RV} {mc : M Bool} {pos : Pos}
theorem nb_one (h : SN X iF st ma) : SNB X iF [st] ma := pss_one h
theorem nb_nil : SNB X iF [] mSkip := PSs.imp pss_nil fun D σ H ⟨B, F, e, N, h⟩ => h.nx rfl (Same.refl _) N
theorem nb_cons (h1 : SN X iF st ma) (h2 : SNB X iF rest mb) : SNB X iF (st :: rest) (mSeq ma mb) := by
  refine PSs.imp (pss_cons h1 h2) fun D σ H h => ?_
  obtain ⟨B, F, e, N, h⟩ := h
  refine ⟨B, F, e, N, ?_⟩
  unfold AtN mSeq at h
  unfold AtN
  cases z : ma e with
  | bad => rw [z] at h; exact h
  | rs x e' => rw [z] at h; exact h
  | ok o e' =>
    rw [z] at h
    cases o with
    | nx => exact fun F' H' σ' s N' => ⟨B, F', e', N', AtN.mono (m := mb) h s⟩
    | bk => exact h
    | ct => exact h
    | rt r => cases r with
      | dat v => cases v <;> exact h
      | _ => exact h
theorem n_if {W : WX} (G : Good X k W) (hc : ST X W c mc) (ha : SNB X iF a ma) (hb : SNB X iF b mb) : SN X iF (.If c a b pos) (mNIf mc ma mb) := by
  refine PS.imp (ps_if hc ha hb) fun D σ H h => ?_
  obtain ⟨B, F, e, ⟨A, bs, xs, N⟩, h⟩ := h
  cases hm : mc e with
  | bad => exact (h.not (by unfold mNIf mIf; rw [mK_bind, hm])).elim
  | rs x e' => exact (h.not (by unfold mNIf mIf; rw [mK_bind, hm])).elim
  | ok r e' =>
    have hh : AtN X.K B iF F (if r = true then ma else mb) e D := by
      unfold AtN at h ⊢
      unfold mNIf mIf at h
      rw [mK_bind, hm] at h
      exact h
    refine N.tst hm fun F1 H1 N1 s1 => ?_
    cases r with
    | true => exact ⟨B, F1, e, ⟨_, _, _, N1⟩, AtN.mono hh s1⟩
    | false => exact ⟨B, F1, e, ⟨_, _, _, N1⟩, AtN.mono hh s1⟩
theorem n_set {W : WX} (i : Nat) {y : Str} {pos' : Pos} (G : Good X k W) (hm : SE X W x m) (hne : i ≠ iF := by decide) (hi : X.N[i]? = some y := by rfl) (hx : Loc X.env.scope y := by first | exact Or.inl rfl | exact Or.inr rfl) (hs : swapsWith x (some (.Name y pos')) pos.line X.env = pure false := by rfl)
    (hf : X.fn y = true ∨ X.env.scope.names.lookup y = some .local := by first | exact .inl rfl | exact .inr rfl) : SN X iF (.Assign [.Name y pos'] x pos) (mNSet i m) := by
  refine PS.imp (ps_set G.nd hi hx hm hs hf) fun D σ H h => ?_
  obtain ⟨B, F, e, ⟨A, bs, xs, N⟩, h⟩ := h
  cases hm : m e with
  | bad => exact (h.not (by unfold mNSet; rw [mK_bind, hm])).elim
  | rs x e' => exact (h.not (by unfold mNSet; rw [mK_bind, hm])).elim
  | ok r e' => cases r with
    | tmp v => exact (h.not (by unfold mNSet; rw [mK_bind, hm]; rfl)).elim
    | bor v => exact (h.not (by unfold mNSet; rw [mK_bind, hm]; rfl)).elim
    | dat v =>
      by_cases nl : noLst v = true
      · refine N.ex_ hm fun F1 H1 u N1 s1 r => ?_
        exact h.nx (by unfold mNSet; rw [mK_bind, hm]; simp only [if_pos nl]) s1 ⟨_, _, _, N1.setDat hne (r nl)⟩
      · exact (h.not (by unfold mNSet; rw [mK_bind, hm]; simp only [if_neg nl]; rfl)).elim
theorem n_ret {W : WX} (G : Good X k W) (hm : SE X W x m) : SN X iF (.Return (some x) pos) (mRet (mK m)) := by
  refine PS.imp (ps_ret hm) fun D σ H h => ?_
  obtain ⟨B, F, e, ⟨A, bs, xs, N⟩, h⟩ := h
  cases hm : m e with
  | bad => exact (h.not (by unfold mRet; rw [mK_bind, hm])).elim
  | rs x e' => exact (h.not (by unfold mRet; rw [mK_bind, hm])).elim
  | ok r e' => cases r with
    | tmp v => unfold AtN mRet at h; rw [mK_bind, hm] at h; exact h.elim
    | bor v => unfold AtN mRet at h; rw [mK_bind, hm] at h; exact h.elim
    | dat v => cases v with
      | non =>
        refine N.ex_ hm fun F1 H1 u N1 s1 r => ?_
        cases r rfl
        unfold AtN mRet at h
        rw [mK_bind, hm] at h
        exact h _ _ _ s1 ⟨_, _, _, N1⟩
      | _ => unfold AtN mRet at h; rw [mK_bind, hm] at h; exact h.elim
theorem n_app {W : WX} {y : Str} {ea : Expr} {p1 apos cpos : Pos} (G : Good X k W) (ha : SE X W ea m) (hN : X.N[iF]? = some y := by rfl) (hv : Vis X.env.scope y := by first | exact Or.inl rfl | exact Or.inr (Or.inl rfl) | exact Or.inr (Or.inr rfl)) (hd : (y == ("__debug__" : Str)) = false := by decide)
    (hcd : (y == ("__classdict__" : Str)) = false := by decide) (hbase : attributeBase (.Name y p1) "append" X.env (eval (.Name y p1) X.env) = eval (.Name y p1) X.env := by rfl)
    (hfew : ((backTo cpos (starEach [ea] X.env)).all (fun x => !x.1) && (backToKw cpos (keywordEach [] X.env)).all (fun x => x.1.isSome) && decide ([ea].length + ([] : List Keyword).length + (if ([] : List Keyword).isEmpty then 0 else 1) < 30)) = true := by rfl)
    (hline : (apos.endLine == cpos.line) = true := by rfl) (hs : starEach [ea] X.env = (false, eval ea X.env) :: starEach [] X.env := by rfl) (hplain : (backTo cpos (starEach [] X.env)).any (·.1) = false := by rfl)
    (hsw : swapsWith (.Call (.Attribute (.Name y p1) "append" apos) [ea] [] cpos) none pos.line X.env = pure false := by rfl) :
    SN X iF (.Expr (.Call (.Attribute (.Name y p1) "append" apos) [ea] [] cpos) pos) (mNApp iF m) := by
  refine PS.imp (ps_expr (pe_bm PySem.F.plainAttrs_list PySem.F.slot_list_append PySem.F.type_list_append (show MtR X "list.append" rAppend from mt_append) (pe_var hN hv hd hcd) (pa_cons ha pa_nil hs) hbase hfew hline hs hplain) hsw) fun D σ H h => ?_
  obtain ⟨B, F, e, ⟨A, bs, xs, N⟩, h⟩ := h
  cases hm : m e with
  | bad => exact (h.not (by unfold mNApp; rw [mK_bind, hm])).elim
  | rs x e' => exact (h.not (by unfold mNApp; rw [mK_bind, hm])).elim
  | ok r e' => cases r with
    | dat v => exact (h.not (by unfold mNApp; rw [mK_bind, hm]; rfl)).elim
    | bor v => exact (h.not (by unfold mNApp; rw [mK_bind, hm]; rfl)).elim
    | tmp v => cases v with
      | lst ys =>
        by_cases nl : noLsts ys = true
        · by_cases hl : (xs.map Val.lst).length < sizeLine
          · refine ⟨.ref A, N.x2, .inl ⟨rfl, _, SqL.of N.x3⟩, ?_⟩
            refine N.exL hm nl fun F1 H1 t us N1 s1 t1 t2 t3 t4 t5 => ?_
            refine ⟨A, bs.map .ref, .ref t, rfl, rfl, N1.x3, by rw [List.length_map, ← N1.x7.len]; rwa [List.length_map] at hl, ?_⟩
            exact h.nx (by unfold mNApp; rw [mK_bind, hm]; simp only [if_pos nl, N.x1, if_pos hl]) s1 ⟨_, _, _, N1.app t1 t2 t3 t4 t5⟩
          · exact (h.not (by unfold mNApp; rw [mK_bind, hm]; simp only [if_pos nl, N.x1, if_neg hl])).elim
        · exact (h.not (by unfold mNApp; rw [mK_bind, hm]; simp only [if_neg nl]; rfl)).elim
      | _ => exact (h.not (by unfold mNApp; rw [mK_bind, hm]; rfl)).elim
theorem atI_map {α β : Type} {f : α → β} {l : List α} {k : Int} {n : Nat} {b : α} (h1 : ixN l.length k = some n) (h2 : l[n]? = some b) : atI (l.map f) k = some (f b) := by
  unfold atI
  rw [List.length_map, h1]
  simp [h2]
theorem n_put {W : WX} {y : Str} {e1 e2 ev : Expr} {m1 m2 mv : M RV} {p1 p2 p3 : Pos} (G : Good X k W) (h1 : SE X W e1 m1) (h2 : SE X W e2 m2) (hv : SE X W ev mv) (hN : X.N[iF]? = some y := by rfl) (hvs : Vis X.env.scope y := by first | exact Or.inl rfl | exact Or.inr (Or.inl rfl) | exact Or.inr (Or.inr rfl)) (hd : (y == ("__debug__" : Str)) = false := by decide)
    (hcd : (y == ("__classdict__" : Str)) = false := by decide) (hp : PlainIx e1 := by exact fun _ _ => rfl)
    (ha : ∀ v, assign (.Subscript (.Subscript (.Name y p1) e1 p2) e2 p3) X.env v = (do
      let ov ← holding [v] (eval (.Subscript (.Name y p1) e1 p2) X.env)
      let iv ← holding [v, ov] (eval e2 X.env)
      standAt p3
      holding [v, ov, iv] (setItem ov iv v)
      release [v, ov, iv] []) := by intro _; rfl)
    (hs : swapsWithSole [.Subscript (.Subscript (.Name y p1) e1 p2) e2 p3] ev pos.line X.env = pure false := by rfl) (hw : swappedStores [.Subscript (.Subscript (.Name y p1) e1 p2) e2 p3] ev X.env = pure none := by rfl)
    (hq : (assignEach [.Subscript (.Subscript (.Name y p1) e1 p2) e2 p3] X.env).map (·.2) = [assign (.Subscript (.Subscript (.Name y p1) e1 p2) e2 p3) X.env] := by rfl) :
    SN X iF (.Assign [.Subscript (.Subscript (.Name y p1) e1 p2) e2 p3] ev pos) (mNPut iF m1 m2 mv) := by
  refine PS.imp (ps_asg hv (pg_sub (pe_ix ix_list (pe_var hN hvs hd hcd) h1 hp) h2 (set_list (X := X)) ha) hs hw hq) fun D σ H h => ?_
  obtain ⟨B, F, e, ⟨A, bs, xs, N⟩, h⟩ := h
  have bad : mNPut iF m1 m2 mv e = .bad → False := fun z => h.not z
  unfold mNPut at bad
  rw [mK_bind] at bad
  cases hmv : mv e with
  | bad => rw [hmv] at bad; exact (bad rfl).elim
  | rs x e' => rw [hmv] at bad; exact (bad rfl).elim
  | ok r e' =>
    rw [hmv] at bad
    simp only [mK_bind] at bad
    cases hm1 : m1 e with
    | bad => simp only [hm1] at bad; exact (bad trivial).elim
    | rs x e' => simp only [hm1] at bad; exact (bad trivial).elim
    | ok r1 e1' =>
      simp only [hm1, mK_bind] at bad
      cases hm2 : m2 e with
      | bad => simp only [hm2] at bad; exact (bad trivial).elim
      | rs x e' => simp only [hm2] at bad; exact (bad trivial).elim
      | ok r2 e2' =>
        simp only [hm2] at bad
        have bad' : ∀ {q : Res Out}, q = .bad → (match r, r1, r2 with
            | .dat v, .dat (.int k1), .dat (.int k2) => if noLst v = true then putN iF v k1 k2 else M.bad
            | _, _, _ => M.bad) e = q → False := fun q1 q2 => bad (q2.trans q1)
        have val : ∀ {q : Ev}, (match r, r1, r2 with
            | .dat v, .dat (.int k1), .dat (.int k2) => if noLst v = true then putN iF v k1 k2 else M.bad
            | _, _, _ => M.bad) e = .ok .nx q → mNPut iF m1 m2 mv e = .ok .nx q := fun {q} z => by
          unfold mNPut
          rw [mK_bind, hmv]
          simp only [mK_bind, hm1, hm2]
          exact z
        clear bad
        obtain ⟨v, rfl⟩ : ∃ v, r = .dat v := by
          cases r with
          | dat v => exact ⟨v, rfl⟩
          | _ => exact (bad' rfl rfl).elim
        obtain ⟨k1, rfl⟩ : ∃ k, r1 = .dat (.int k) := by
          cases r1 with
          | dat v => cases v with
            | int k => exact ⟨k, rfl⟩
            | _ => exact (bad' rfl rfl).elim
          | _ => exact (bad' rfl rfl).elim
        obtain ⟨k2, rfl⟩ : ∃ k, r2 = .dat (.int k) := by
          cases r2 with
          | dat v => cases v with
            | int k => exact ⟨k, rfl⟩
            | _ => exact (bad' rfl rfl).elim
          | _ => exact (bad' rfl rfl).elim
        simp only at bad' val
        by_cases nl : noLst v = true
        · rw [if_pos nl] at bad' val
          unfold putN at bad' val
          simp only [N.x1] at bad' val
          cases q1 : ixN (xs.map Val.lst).length k1 with
          | none => simp only [q1] at bad'; exact (bad' rfl rfl).elim
          | some n =>
            have n1 := (ixN_seq q1).2.1
            rw [List.length_map] at n1
            have q2 : xs[n]? = some xs[n] := List.getElem?_eq_getElem n1
            have q3 : (xs.map Val.lst)[n]? = some (.lst xs[n]) := by rw [List.getElem?_map, q2]; rfl
            simp only [q1, q3] at bad' val
            cases q4 : ixN xs[n].length k2 with
            | none => simp only [q4] at bad'; exact (bad' rfl rfl).elim
            | some j =>
              simp only [q4] at val
              refine N.ex_ hmv fun F1 H1 u N1 s1 rv => ?_
              refine ⟨.ref A, N1.x2, ?_⟩
              refine N1.ex_ hm1 fun F2 H2 u1 N2 s2 r1 => ?_
              cases r1 rfl
              obtain ⟨b, us, b1, b2, b3⟩ := N2.x7.get q2
              refine ⟨A, bs.map .ref, k1, .ref b, rfl, rfl, SqL.of N2.x3, atI_map (by rw [← N2.x7.len]; rwa [List.length_map] at q1) b1, ?_⟩
              refine N2.ex_ hm2 fun F3 H3 u2 N3 s3 r2 => ?_
              cases r2 rfl
              obtain ⟨b', us', b4, b5, b6⟩ := N3.x7.get q2
              rw [b1] at b4
              cases b4
              refine ⟨b, us', k2, j, rfl, rfl, b5, by rw [← b6.length]; exact q4, ?_⟩
              exact h.nx (val rfl) ((s1.trans s2).trans s3) ⟨_, _, _, N3.put q2 b1 b5 b6 (((rv nl).mono s2).mono s3)⟩
        · rw [if_neg nl] at bad'
          exact (bad' rfl rfl).elim
theorem ss_nest {W : WX} {np : Nat} {y : Str} {p1 : Pos} {iter : Expr} {body : List Stmt} {mi : M (List Val)} (i : Nat) (G : Good X k W) (hi : SI X W (.Name y p1) iter mi) (hb : SNB X iF body mb) (hne : i ≠ iF := by decide) (hN : X.N[i]? = some y := by rfl) (hx : Loc X.env.scope y := by first | exact Or.inl rfl | exact Or.inr rfl)
    (hf : X.fn y = true ∨ X.env.scope.names.lookup y = some .local := by first | exact .inl rfl | exact .inr rfl)
    (hs : ∀ x, foldedSetIterable iter X.env x = pure x := by intro _; rfl) : SS X W np (.For (.Name y p1) iter body [] pos) (mNFor iF i mi mb) := by
  refine PS.imp (ps_for G.po G.calm hi (pg_name G.nd hN hx hf) hb hs) fun D σ H h => ?_
  obtain ⟨F, e, R, h⟩ := h
  refine useX (R1 := RI X.K) (Cur.refl R) h fun vs e1 F1 H1 J C1 q1 _ h1 => ?_
  obtain ⟨Gd, Y, wk, still, gives⟩ := q1
  obtain ⟨k1, k2, k3, k4⟩ : e1[iF]? = some (.own (.lst [])) ∧ noOwnE (e1.set iF .un) = true ∧ vs.all noLst = true ∧ AtS X.K W (bg np F H e σ) (loopN i mb vs) F1 (e1.set iF (.dat (.lst []))) σ H1 D := by
    unfold AtS at h1
    cases z : e1[iF]? with
    | none => simp only [z] at h1
    | some s => cases s with
      | own v => cases v with
        | lst zs => cases zs with
          | nil =>
            simp only [z] at h1
            by_cases c : noOwnE (e1.set iF .un) = true ∧ vs.all noLst = true
            · rw [if_pos c] at h1
              exact ⟨rfl, c.1, c.2, h1⟩
            · rw [if_neg c] at h1
              exact h1.elim
          | cons _ _ => simp only [z] at h1
        | _ => simp only [z] at h1
      | _ => simp only [z] at h1
  obtain ⟨A0, N0⟩ := NX.start C1 k1 k2
  refine for_it wk (fun j σ' H' => ∃ F' e', NR X.K (bg np F H e σ) iF F' H' e' σ' ∧ Same F1 F' ∧ AtS X.K W (bg np F H e σ) (loopN i mb (vs.drop j)) F' e' σ' H' D) ⟨F1, _, ⟨_, _, _, N0⟩, Same.refl _, k4⟩ ?_ ?_ ?_
  · rintro j σ' H' _ ⟨F', e', ⟨A, bs, xs, N⟩, s', _⟩
    exact still H' (s'.trans N.cur.rel.sub)
  · rintro j x σ' H' H2 hj ⟨F', e', ⟨A, bs, xs, N⟩, s', h'⟩ y
    have hv : vs[j]? = some vs[j] := List.getElem?_eq_getElem hj
    obtain ⟨F2, C2, s2, r2⟩ := gives j _ (bg np F' H' (e'.set iF .un) σ') F' H' _ _ _ _ hv (Cur.refl N.cur.rel) s' y
    have N2 := (N.step C2 s2).setDat hne r2
    refine ⟨_, F2, _, ⟨_, _, _, N2⟩, ?_⟩
    rw [List.drop_eq_getElem_cons hj] at h'
    unfold AtS loopN at h'
    unfold AtN
    cases z2 : mb (e'.set i (.dat vs[j])) with
    | bad => simp only [z2] at h'
    | rs x3 e3 => simp only [z2] at h'
    | ok o e3 =>
      cases o with
      | nx =>
        simp only [z2] at h'
        exact fun F3 H3 σ3 s3 N3 => ⟨F3, e3, N3, s'.trans (s2.trans s3), h'⟩
      | ct => simp only [z2] at h'
      | bk => simp only [z2] at h'
      | rt r =>
        cases r with
        | dat v => cases v with
          | non =>
            simp only [z2] at h'
            rintro F3 H3 σ3 s3 ⟨A3, bs3, xs3, N3⟩
            exact h' _ _ _ _ N3.thaw.1 VR.non
          | _ => simp only [z2] at h'
        | _ => simp only [z2] at h'
  · rintro σ' H' ⟨F', e', ⟨A, bs, xs, N⟩, s', h'⟩
    rw [List.drop_length] at h'
    exact h'.nx rfl N.thaw.1
end
section
variable {e : Ev}
theorem ok_K {α : Type} {m : M α} {Q : α → Ev → Prop} : Ok (mK m) e Q ↔ Ok m e fun a _ => Q a e := by
  constructor
  · intro h
    obtain ⟨a, e', h1, h2⟩ := ok_ex.mp h
    unfold mK at h1
    cases z : m e with
    | ok b e2 => rw [z] at h1; cases h1; exact ok_ex.mpr ⟨_, _, z, h2⟩
    | _ => rw [z] at h1; cases h1
  · intro h
    obtain ⟨a, e', h1, h2⟩ := ok_ex.mp h
    exact ok_ex.mpr ⟨a, e, by unfold mK; rw [h1], h2⟩
theorem ok_nIf {c : M Bool} {a b : S} {Q : Out → Ev → Prop} : Ok (mNIf c a b) e Q ↔ Ok c e fun k _ => (k = true → Ok a e Q) ∧ (¬ k = true → Ok b e Q) := by
  unfold mNIf
  rw [ok_if, ok_K]
theorem ok_nSet {i : Nat} {m : M RV} {Q : Out → Ev → Prop} : Ok (mNSet i m) e Q ↔ Ok m e fun r _ => match r with
    | .dat v => noLst v = true ∧ Q .nx (e.set i (.dat v))
    | _ => False := by
  unfold mNSet
  rw [ok_bind, ok_K]
  refine Ok.iff' fun r e1 => ?_
  cases r with
  | dat v =>
    by_cases h : noLst v = true
    · simp only [if_pos h]
      exact ⟨fun q => ⟨h, q⟩, fun q => q.2⟩
    · simp only [if_neg h]
      exact ⟨fun q => (ok_bad.mp q).elim, fun q => absurd q.1 h⟩
  | tmp v => exact ok_bad
  | bor v => exact ok_bad
theorem ok_nApp {iF : Nat} {ma : M RV} {Q : Out → Ev → Prop} : Ok (mNApp iF ma) e Q ↔ Ok ma e fun r _ => match r with
    | .tmp (.lst ys) => noLsts ys = true ∧ (match e[iF]? with
      | some (.dat (.lst zs)) => zs.length < sizeLine ∧ Q .nx (e.set iF (.dat (.lst (zs ++ [.lst ys]))))
      | _ => False)
    | _ => False := by
  unfold mNApp
  rw [ok_bind, ok_K]
  refine Ok.iff' fun r e1 => ?_
  cases r with
  | dat v => exact ok_bad
  | bor v => exact ok_bad
  | tmp v => cases v with
    | lst ys =>
      by_cases h : noLsts ys = true
      · simp only [if_pos h]
        rw [ok_ex]
        cases z : e[iF]? with
        | none => exact ⟨fun ⟨_, _, q, _⟩ => (by simp at q), fun q => False.elim q.2⟩
        | some s => cases s with
          | dat v => cases v with
            | lst zs =>
              by_cases hl : zs.length < sizeLine
              · simp only [if_pos hl]
                exact ⟨fun ⟨_, _, q, q2⟩ => (by cases q; exact ⟨h, hl, q2⟩), fun q => ⟨_, _, rfl, q.2.2⟩⟩
              · simp only [if_neg hl]
                exact ⟨fun ⟨_, _, q, q2⟩ => (by cases q), fun q => absurd q.2.1 hl⟩
            | _ => exact ⟨fun ⟨_, _, q, _⟩ => (by cases q), fun q => False.elim q.2⟩
          | _ => exact ⟨fun ⟨_, _, q, _⟩ => (by cases q), fun q => False.elim q.2⟩
      · simp only [if_neg h]
        exact ⟨fun q => (ok_bad.mp q).elim, fun q => absurd q.1 h⟩
    | _ => exact ok_bad
theorem ok_nPut {iF : Nat} {m1 m2 mv : M RV} {Q : Out → Ev → Prop} : Ok (mNPut iF m1 m2 mv) e Q ↔ Ok mv e fun r _ => Ok m1 e fun r1 _ => Ok m2 e fun r2 _ => match r, r1, r2 with
    | .dat v, .dat (.int k1), .dat (.int k2) => noLst v = true ∧ Ok (putN iF v k1 k2) e Q
    | _, _, _ => False := by
  unfold mNPut
  rw [ok_bind, ok_K]
  refine Ok.iff' fun r e1 => ?_
  rw [ok_bind, ok_K]
  refine Ok.iff' fun r1 e2 => ?_
  rw [ok_bind, ok_K]
  refine Ok.iff' fun r2 e3 => ?_
  cases r with
  | dat v => cases r1 with
    | dat v1 => cases v1 with
      | int k1 => cases r2 with
        | dat v2 => cases v2 with
          | int k2 =>
            by_cases h : noLst v = true
            · simp only [if_pos h]; exact ⟨fun q => ⟨h, q⟩, fun q => q.2⟩
            · simp only [if_neg h]; exact ⟨fun q => (ok_bad.mp q).elim, fun q => absurd q.1 h⟩
          | _ => exact ok_bad
        | _ => exact ok_bad
      | _ => exact ok_bad
    | _ => exact ok_bad
  | _ => exact ok_bad
theorem ok_nFor {iF i : Nat} {mi : M (List Val)} {mb : S} {Q : Out → Ev → Prop} : Ok (mNFor iF i mi mb) e Q ↔ Ok mi e fun vs e1 => match e1[iF]? with
    | some (.own (.lst [])) => (noOwnE (e1.set iF .un) = true ∧ vs.all noLst = true) ∧ Ok (loopN i mb vs) (e1.set iF (.dat (.lst []))) Q
    | _ => False := by
  unfold mNFor
  rw [ok_bind]
  refine Ok.iff' fun vs e1 => ?_
  rw [ok_ex]
  cases z : e1[iF]? with
  | none => exact ⟨fun ⟨_, _, q, _⟩ => (by cases q), fun q => False.elim q⟩
  | some s => cases s with
    | own v => cases v with
      | lst zs => cases zs with
        | nil =>
          by_cases h : noOwnE (e1.set iF .un) = true ∧ vs.all noLst = true
          · simp only [if_pos h]
            exact ⟨fun q => ⟨h, ok_ex.mpr q⟩, fun q => ok_ex.mp q.2⟩
          · simp only [if_neg h]
            exact ⟨fun ⟨_, _, q, _⟩ => (by cases q), fun q => absurd q.1 h⟩
        | cons _ _ => exact ⟨fun ⟨_, _, q, _⟩ => (by cases q), fun q => False.elim q⟩
      | _ => exact ⟨fun ⟨_, _, q, _⟩ => (by cases q), fun q => False.elim q⟩
    | _ => exact ⟨fun ⟨_, _, q, _⟩ => (by cases q), fun q => False.elim q⟩
theorem ok_loopN0 {i : Nat} {mb : S} {Q : Out → Ev → Prop} : Ok (loopN i mb []) e Q ↔ Q .nx e := ok_skip
theorem ok_loopNC {i : Nat} {mb : S} {v : Val} {r : List Val} {Q : Out → Ev → Prop} : Ok (loopN i mb (v :: r)) e Q ↔ Ok mb (e.set i (.dat v)) fun o e2 => match o with
    | .nx => Ok (loopN i mb r) e2 Q
    | .rt (.dat .non) => Q (.rt (.dat .non)) e2
    | _ => False := by
  rw [ok_ex, ok_ex]
  have e1 : loopN i mb (v :: r) e = (match mb (e.set i (.dat v)) with
    | .ok .nx e2 => loopN i mb r e2
    | .ok (.rt (.dat .non)) e2 => .ok (.rt (.dat .non)) e2
    | _ => .bad) := rfl
  rw [e1]
  constructor
  · rintro ⟨a, e', h1, h2⟩
    split at h1
    · rename_i q; exact ⟨_, _, q, ok_ex.mpr ⟨_, _, h1, h2⟩⟩
    · rename_i q; cases h1; exact ⟨_, _, q, h2⟩
    · cases h1
  · rintro ⟨o, e2, h1, h2⟩
    rw [h1]
    cases o with
    | nx => exact ok_ex.mp h2
    | rt r => cases r with
      | dat v => cases v with
        | non => exact ⟨_, _, rfl, h2⟩
        | _ => exact False.elim h2
      | _ => exact False.elim h2
    | _ => exact False.elim h2
end
end Pu
set_option Elab.async false
set_option linter.all false
set_option maxRecDepth 100000
namespace Pu
open PySem PySem.Spec PyProof.Rows L2
namespace EE
open PySem.SeqAt MeetsSeq MeetsSeq2 MeetsSeq3 SeqRoads2
section
variable {prog : Program} {w : World} {A : Around} {R : Result → Shared → Prop}
theorem tuple_eqE (l b : Addr) (items items2 : Array Value) (n n2 : Nat) (dd dd2 : Option Addr) (sl sl2 : Array (Option Value)) (hsz : items2.size = 0) {s : Shared}
    (fin : R (.ok (.ret (.bool (items.size == 0)))) s) (hl1 : s.heap.get? l = some { cls := .type "tuple", dict := dd, data := .seq items n, slots := sl }) (hb1 : s.heap.get? b = some { cls := .type "tuple", dict := dd2, data := .seq items2 n2, slots := sl2 }) :
    wpAny (model prog w) A.in1 (Builtin.«tuple.__eq__» ⟨[.ref l, .ref b], []⟩) (GQ.FinOf prog w A R) (fun e s' => R (.error e) s') s := by
  have f2 := AutoSeq1.sub_tuple_tuple
  have hZ : (items.toList.zip items2.toList) = [] := by
    have : items2.toList = [] := List.length_eq_zero_iff.mp (by simpa using hsz)
    rw [this]
    simp
  obtain ⟨hp, g, d, tk, os⟩ := s
  wp_walk using wpAny_loadPart' hl1, wpAny_loadPart' hb1, wpAny_forIn_list _ (fun rest b s' => b.1 = none ∧ rest = [] ∧ s' = ⟨hp, g, d, tk, os⟩) _
  case turn =>
    rintro ⟨y, x⟩ rest b s' ⟨hb', hz, _⟩
    cases hz
  case fin =>
    rintro ⟨b1, b2⟩ s' ⟨hb', _, hs⟩
    simp only at hb'
    subst hb'
    subst hs
    wp_walk
    simpa [Builtin.Tuple.tupleCompareSizes, hsz] using fin
  case h =>
    exact ⟨rfl, hZ, rfl⟩
end
section
variable {prog : Program} {w : World} {A : Around} {E : Value → Shared → Prop} {s : Shared}
theorem rc_tupE {l b : Addr} {items items2 : Array Value} {Q : Value → Shared → Prop} (hsz : items2.size = 0) (hu : A.units < cLine)
    (hl : s.heap.IsTuple l items) (hb : s.heap.IsTuple b items2) (fin : Q (.bool (items.size == 0)) s) : wpAny (model prog w) A (richCompare .Eq (.ref l) (.ref b)) Q E s := by
  obtain ⟨⟨cls, dd, data, sl⟩, ho, hc, n, hd⟩ := id hl
  obtain ⟨⟨cls2, dd2, data2, sl2⟩, ho2, hc2, n2, hd2⟩ := id hb
  simp only at hc hd hc2 hd2
  subst hc hd hc2 hd2
  refine wpAny_richCompare_same_room (op := .Eq) ⟨_, ho, rfl⟩ ⟨_, ho2, rfl⟩ F.slot_tuple_eq (GQ.call_here F.slot_tuple_eq ⟨_, ho, rfl⟩ F.entry_tuple_eq (F.args_tuple_eq_2 _ _) ?_) hu
  exact tuple_eqE (R := wants (fun v s' => v ≠ .notImplemented ∧ Q v s') E) l b items items2 n n2 dd dd2 sl sl2 hsz ⟨(fun x => nomatch x), fin⟩ ho ho2
end
end EE
section
variable {K : PySem.W.Frag} {W : WX} {B : Bg} {F H : Hp} {e : Ev} {σ : Sig}
def rEqE (K : PySem.W.Frag) : R2 := fun x y H Q => ∃ a b xs, x = .ref a ∧ y = .ref b ∧ SqT K H a xs ∧ SqT K H b [] ∧ Q (.bl (decide (xs.length = 0))) H
theorem op_eqE {X : Cx} (hu : X.A.units + 64 < cLine) : OpR X (compareOp .Eq) (rEqE X.K) := by
  intro pins s σ H x y v u Q I rx ry h
  obtain ⟨a, b, xs, rfl, rfl, ha, hb, q⟩ := h
  cases rx
  cases ry
  obtain ⟨its, r, e, z⟩ := I.tuple ha
  obtain ⟨its2, r2, e2, z2⟩ := I.tuple hb
  show wpAny (model X.prog X.w) X.A (richCompare .Eq (.ref a) (.ref b)) (EP X pins σ Q) X.xe s
  refine EE.rc_tupE (by rw [List.size_toArray, ← r2.length]; rfl) (by omega) e e2 ?_
  refine ⟨.bl (decide (xs.length = 0)), H, I, ?_, q⟩
  show Value.bool _ = Value.bool _
  rw [List.size_toArray, ← r.length]
  congr 1
def oEqE (x y : Val) : M RV := match x, y with
  | .tup xs, .tup [] => mV (.bl (decide (xs.length = 0)))
  | _, _ => M.bad
theorem v_eqE : OpV K W oEqE (rEqE K) := by
  intro B F H e σ v w x y Q C rv rw_ h
  unfold oEqE at h
  split at h
  · rename_i xs
    have tr : ∀ {vs : List Val} {z : V}, RdR K F H (.tup vs) z → ∃ a us, z = .ref a ∧ SqT K H a us ∧ vs.length = us.length := fun {vs z} r => by
      rcases r with r | ⟨t, e, r⟩
      · cases r with
        | tup h1 h2 => exact ⟨_, _, rfl, sqT_mono C.rel.sub h1, h2.length⟩
      · exact r.elim
    obtain ⟨a, us, e1, h1, l1⟩ := tr rv
    obtain ⟨b, ws, e2, h2, l2⟩ := tr rw_
    have : ws = [] := List.length_eq_zero_iff.mp l2.symm
    subst this
    refine ⟨a, b, us, e1, e2, h1, h2, ?_⟩
    rw [← l1]
    exact h.ok rfl C (VR.bl _)
  · exact h.elim
theorem b_eqE : ∀ v w e r' e', oEqE v w e = .ok r' e' → ∃ b, r' = .dat (.bl b) := by
  intro v w e r' e' h
  unfold oEqE at h
  split at h
  · unfold mV M.ret at h; cases h; exact ⟨_, rfl⟩
  · cases h
end
end Pu
set_option Elab.async false
set_option linter.all false
set_option maxRecDepth 100000
set_option maxHeartbeats 2000000
namespace Pu
open PySem PySem.Spec PyProof.Rows L2
def rSortT (K : PySem.W.Frag) : List V → Hp → VK → Prop := fun xs H Q => ∃ (t : Addr) (is : List Int), xs = [V.ref t] ∧ SqT K H t (is.map V.int) ∧
  ∀ (js : List Int) (q : Addr), js.Perm is → js.Pairwise (· ≤ ·) → H q = none → Q (.ref q) (upd H q (.lst (js.map V.int)))
theorem sort_tup {prog : Program} {w : World} {A : Around} {E : Value → Shared → Prop} {st : Shared} {t : Addr} {vs : List Value} {is : List Int} {Q : Value → Shared → Prop} (hI : IntsAre vs is) (hz : vs.length ≤ sizeLine)
    (ht : ∃ ob, st.heap.get? t = some ob ∧ ob.cls = .type "tuple" ∧ ∃ n, ob.data = .seq vs.toArray n)
    (goal : ∀ (g : Heap) (out : List Value), (∀ b u, st.heap.get? b = some u → g.get? b = some u) → SrtO.Srtd SrtO.ltIv out → SrtO.Stb SrtO.ltIv out vs → Q (.ref g.objs.size) { st with heap := sortedHeap (g.push (seqObj "list" vs.toArray 0)) g.objs.size vs out.toArray }) :
    wpAny (model prog w) A (call (.builtin "sorted") [.ref t]) Q E st := by
  obtain ⟨ob, h1, h2, n, h3⟩ := ht
  refine Calls.call_function_entry kind_sorted plain_sorted entry_sorted (args_sorted1 _) ?_
  unfold Builtin.«sorted»
  refine wpAny_bind (m := checkCount "sorted" 1 1 _) (wpAny_pure (wpAny_bind ?_))
  refine wpAny_collect_seq t (.inr rfl) h1 h2 h3 (fun g keep => ?_) (by rw [List.size_toArray]; exact hz)
  rw [List.toList_toArray]
  refine wpAny_bind (wpAny_newList ?_ hz)
  have top_ : (g.push (seqObj "list" vs.toArray 0)).get? g.objs.size = some (seqObj "list" vs.toArray 0) := Heap.get?_push_size _ rfl
  refine wpAny_bind (wpAny_holding (wpAny_call_entry slot_list_sort ⟨_, top_, rfl⟩ entry_list_sort (SrtO.list_sort_ord (n := 0) SrtO.swo_int top_ hz (fun two => SrtO.ints_sortable hI two) fun out s1 s2 => ?_) (args_list_sort _)))
  exact ⟨_, rfl, wpAny_pure ⟨_, rfl, goal g out keep s1 s2⟩⟩
theorem obj_here {P : Program} {w : World} {H : Hp} {g : Heap} {a : Addr} {o : HO} (x : ObjOk P w H g a o) : ∃ u, g.get? a = some u := by
  cases o <;> first
    | exact ⟨_, (show g.get? a = some _ from x)⟩
    | (obtain ⟨_, z⟩ := x; exact ⟨_, z⟩)
    | (obtain ⟨z, _⟩ := x; exact ⟨_, z⟩)
    | (obtain ⟨_, ⟨_, z⟩, _⟩ := x; exact ⟨_, z⟩)
    | (obtain ⟨_, ⟨_, _, _, z, _⟩, _⟩ := x; exact ⟨_, z⟩)
    | (obtain ⟨_, _, _, z⟩ := x; exact ⟨_, z⟩)
    | (obtain ⟨_, _, _, _, z⟩ := x; exact ⟨_, z⟩)
    | (obtain ⟨_, _, _, z, _⟩ := x; exact ⟨_, z⟩)
    | (obtain ⟨_, _, _, _, z, _⟩ := x; exact ⟨_, z⟩)
    | (obtain ⟨_, _, _, _, _, z, _⟩ := x; exact ⟨_, z⟩)
    | (obtain ⟨_, _, _, _, _, _, _, z, _⟩ := x; exact ⟨_, z⟩)
theorem cr_sortT {X : Cx} : CallR X (.builtin "sorted") (rSortT X.K) := by
  intro pins st σ H vs us Q I r h
  obtain ⟨t, is, rfl, hs, q⟩ := h
  obtain ⟨its, rv, ⟨ob, h1, h2, n, h3⟩, hz⟩ := I.tuple hs
  rw [Vals.ref1 r]
  have whole := rv.ints
  have hl : its.length ≤ sizeLine := by rw [← rv.length]; exact hz
  refine sort_tup whole hl ⟨ob, h1, h2, n, h3⟩ fun g out keep s1 s2 => ?_
  obtain ⟨k1, k2, k3⟩ := SrtO.ints_out whole s1 s2
  have top_ : (g.push (seqObj "list" its.toArray 0)).get? g.objs.size = some (seqObj "list" its.toArray 0) := Heap.get?_push_size _ rfl
  obtain ⟨ep, at_⟩ := sortedHeap_at (out := out.toArray) top_
  have small : ((out.map SrtO.iv).map V.int).length ≤ sizeLine := by
    rw [List.length_map, k2.length_eq, ← List.length_map (f := V.int)]
    exact hz
  have off : st.heap.get? g.objs.size = none := by
    cases z : st.heap.get? g.objs.size with
    | none => rfl
    | some u => exact absurd (Heap.lt_size (keep _ _ z)) (Nat.lt_irrefl _)
  have free : H g.objs.size = none := by
    cases z : H g.objs.size with
    | none => rfl
    | some u =>
      obtain ⟨v, hv⟩ := obj_here (I.hok _ _ z)
      rw [off] at hv
      cases hv
  refine ⟨.ref _, upd H g.objs.size (.lst ((out.map SrtO.iv).map V.int)), I.laidN (t' := st.toks) (fun b u e => ?_) off free ⟨small, out, ep, vals_of_ints k1, at_⟩, rfl, q _ _ k2 k3 free⟩
  have lt : b < g.objs.size := Heap.lt_size (keep _ _ e)
  rw [sortedHeap_old (Nat.ne_of_lt lt) (by rw [size_push']; exact Nat.lt_succ_of_lt lt)]
  exact Heap.get?_push_of_some _ (keep _ _ e)
section
variable {X : Cx} {W : WX} {a : Expr} {ma : M RV} {p pos : Pos}
theorem se_sortT (gl : Gl X "sorted") (fr : X.mg "sorted" = none) (ha : SE X W a ma) (h1 : starEach (a :: []) X.env = (false, eval a X.env) :: starEach [] X.env := by rfl) (h2 : (backTo pos (starEach [] X.env)).any (·.1) = false := by rfl) : SE X W (.Call (.Name "sorted" p) [a] [] pos) (mSortT ma) := by
  refine PE.imp (pe_callB cr_sortT gl fr (by decide +kernel) (sa_cons ha sa_nil h1) (by decide) (by decide) h1 h2) fun σ H Q h => ?_
  obtain ⟨np, F, e, Rl, h⟩ := h
  refine sa_1 (Cur.refl Rl) h fun r e1 F1 H1 x C1 q1 h1 => ?_
  obtain ⟨v, rv, h2⟩ := At.rd C1.rel q1 h1
  split at h2
  · rename_i xs
    split at h2
    · rename_i is hn
      obtain ⟨l, us, rfl, h3, h4⟩ := rv.tup C1.rel.sub
      rw [intsV_of h4 hn] at h3
      refine ⟨l, is, rfl, h3, fun js t pm up ht => ?_⟩
      rw [sorted_eq (pm.trans sortI_perm.symm) up sortI_ris]
      exact lst_new (W := W) C1 ht h2
    · exact h2.elim
  · exact h2.elim
end
def mDct0 : M RV := M.ret (.tmp (.dct [] []))
theorem se_dct0 {X : Cx} {W : WX} {pos : Pos} : SE X W (.Dict [] [] pos) mDct0 := by
  refine PE.imp pe_dnewK fun σ H Q h => ?_
  obtain ⟨np, F, e, Rl, h⟩ := h
  intro p hp
  obtain ⟨C3, n3, f3, m3⟩ := (Cur.refl (np := np) Rl).grow (o := .dK []) hp
  exact h.ok (r := RV.tmp (.dct [] [])) rfl C3 ⟨p, rfl, f3, ⟨[], upd_same, rfl, .nil⟩, n3, m3⟩
end Pu
namespace Pu.Q
open PySem PySem.Spec PyProof.Rows L2 Pu
structure Fx (K : PySem.W.Frag) (mg : Str → Option Value) : Prop where
  free_int : mg "int" = none
  free_isinstance : mg "isinstance" = none
  free_bool : mg "bool" = none
  glo_is_integer : mg "is_integer" = some (.ref (He.ga K "is_integer"))
  glo_is_between : mg "is_between" = some (.ref (He.ga K "is_between"))
  glo_check_number : mg "check_number" = some (.ref (He.ga K "check_number"))
  int_MOST_STEP_1000000000000 : ∃ t, mg "MOST_STEP" = some (.int 1000000000000 t)
  free_str : mg "str" = none
  glo_SETTINGS : mg "SETTINGS" = some (.ref (He.ga K "SETTINGS"))
  int_MOST_LIMIT_1000000000000000000 : ∃ t, mg "MOST_LIMIT" = some (.int 1000000000000000000 t)
  cls_Rule : Cls K (He.ga K "Rule")
  noat_Rule_limit : NoAttr K (He.ga K "Rule") "limit"
  noat_Rule_parts : NoAttr K (He.ga K "Rule") "parts"
  mkr_Rule : Mk K (He.ga K "Rule") (He.ma K (He.ga K "Rule") "__init__")
  glo_Rule : mg "Rule" = some (.ref (He.ga K "Rule"))
  glo_check_rule : mg "check_rule" = some (.ref (He.ga K "check_rule"))
  free_tuple : mg "tuple" = none
  free_enumerate : mg "enumerate" = none
  int_MOST_NOTES_40 : ∃ t, mg "MOST_NOTES" = some (.int 40 t)
  free_len : mg "len" = none
  int_MOST_MINUTE_1000000000000000000000000000000 : ∃ t, mg "MOST_MINUTE" = some (.int 1000000000000000000000000000000 t)
  glo_is_minute : mg "is_minute" = some (.ref (He.ga K "is_minute"))
  glo_is_mark : mg "is_mark" = some (.ref (He.ga K "is_mark"))
  glo_is_note : mg "is_note" = some (.ref (He.ga K "is_note"))
  glo_notes_fault : mg "notes_fault" = some (.ref (He.ga K "notes_fault"))
  glo_check_notes : mg "check_notes" = some (.ref (He.ga K "check_notes"))
  free_max : mg "max" = none
  glo_joins : mg "joins" = some (.ref (He.ga K "joins"))
  glo_reach : mg "reach" = some (.ref (He.ga K "reach"))
  glo_arrivals : mg "arrivals" = some (.ref (He.ga K "arrivals"))
  glo_least_arrival : mg "least_arrival" = some (.ref (He.ga K "least_arrival"))
  glo_ways_of : mg "ways_of" = some (.ref (He.ga K "ways_of"))
  glo_blocks_of : mg "blocks_of" = some (.ref (He.ga K "blocks_of"))
  glo_some_stays : mg "some_stays" = some (.ref (He.ga K "some_stays"))
  free_min : mg "min" = none
  free_range : mg "range" = none
  glo__law_sip : mg "_law_sip" = some (.ref (He.ga K "_law_sip"))
  glo__law_pick : mg "_law_pick" = some (.ref (He.ga K "_law_pick"))
  glo__law_far : mg "_law_far" = some (.ref (He.ga K "_law_far"))
  glo__law_plan : mg "_law_plan" = some (.ref (He.ga K "_law_plan"))
  glo__law_mark : mg "_law_mark" = some (.ref (He.ga K "_law_mark"))
  glo__law_rows : mg "_law_rows" = some (.ref (He.ga K "_law_rows"))
  glo__law_made : mg "_law_made" = some (.ref (He.ga K "_law_made"))
  glo_fits : mg "fits" = some (.ref (He.ga K "fits"))
  free_list : mg "list" = none
  free_sorted : mg "sorted" = none
  free_zip : mg "zip" = none
  glo__law_fitting : mg "_law_fitting" = some (.ref (He.ga K "_law_fitting"))
  free_all : mg "all" = none
  glo_are_minutes : mg "are_minutes" = some (.ref (He.ga K "are_minutes"))
  glo_are_stays : mg "are_stays" = some (.ref (He.ga K "are_stays"))
  glo_mark_at : mg "mark_at" = some (.ref (He.ga K "mark_at"))
  glo_do_fit : mg "do_fit" = some (.ref (He.ga K "do_fit"))
  glo__law_minutes : mg "_law_minutes" = some (.ref (He.ga K "_law_minutes"))
  glo__law_cuts : mg "_law_cuts" = some (.ref (He.ga K "_law_cuts"))
  glo__law_span : mg "_law_span" = some (.ref (He.ga K "_law_span"))
  glo__law_stays : mg "_law_stays" = some (.ref (He.ga K "_law_stays"))
  glo__law_all : mg "_law_all" = some (.ref (He.ga K "_law_all"))
  glo__law_right : mg "_law_right" = some (.ref (He.ga K "_law_right"))
  free_abs : mg "abs" = none
  glo__law_flask : mg "_law_flask" = some (.ref (He.ga K "_law_flask"))
  glo_law : mg "law" = some (.ref (He.ga K "law"))
  tup_SETTINGS : He.tupB K "SETTINGS" (([(.str "next"), (.str "last"), (.str "near")] : List Val).map gv) = true
  prop_Rule_step : PropOf K (He.ga K "Rule") "step" (He.ma K (He.ga K "Rule") "step") (gA K "Rule" "step")
  prop_Rule_setting : PropOf K (He.ga K "Rule") "setting" (He.ma K (He.ga K "Rule") "setting") (gA K "Rule" "setting")
  prop_Rule_pause : PropOf K (He.ga K "Rule") "pause" (He.ma K (He.ga K "Rule") "pause") (gA K "Rule" "pause")
  etup_ways_of_0 : tupAt K (He.dflAt ("ways_of", none) 0 K) = true
  etup_blocks_of_0 : tupAt K (He.dflAt ("blocks_of", none) 0 K) = true
  isi : TOk K isT
theorem fx_of {K : PySem.W.Frag} {h : Heap} {mg : Str → Option Value} (X : K.In h) (G : h.Ns mainGlobals mg) (c : SaysP fa fn fy K) : Fx K mg where
  free_int := He.free_ok X G (c.a.fact 0 (f := .free "int") rfl)
  free_isinstance := He.free_ok X G (c.a.fact 1 (f := .free "isinstance") rfl)
  free_bool := He.free_ok X G (c.a.fact 2 (f := .free "bool") rfl)
  glo_is_integer := He.glo_ok X G (c.a.fact 3 (f := .glo "is_integer") rfl)
  glo_is_between := He.glo_ok X G (c.a.fact 4 (f := .glo "is_between") rfl)
  glo_check_number := He.glo_ok X G (c.a.fact 5 (f := .glo "check_number") rfl)
  int_MOST_STEP_1000000000000 := He.int_ok X G (c.a.fact 6 (f := .int "MOST_STEP" 1000000000000) rfl)
  free_str := He.free_ok X G (c.a.fact 7 (f := .free "str") rfl)
  glo_SETTINGS := He.glo_ok X G (c.a.fact 8 (f := .glo "SETTINGS") rfl)
  int_MOST_LIMIT_1000000000000000000 := He.int_ok X G (c.a.fact 9 (f := .int "MOST_LIMIT" 1000000000000000000) rfl)
  cls_Rule := He.cls_ok (c.a.fact 10 (f := .cls "Rule") rfl)
  noat_Rule_limit := He.noat_ok (c.a.fact 11 (f := .noat "Rule" "limit") rfl)
  noat_Rule_parts := He.noat_ok (c.a.fact 12 (f := .noat "Rule" "parts") rfl)
  mkr_Rule := He.mkr_ok (c.a.fact 13 (f := .mkr "Rule") rfl)
  glo_Rule := He.glo_ok X G (c.a.fact 14 (f := .glo "Rule") rfl)
  glo_check_rule := He.glo_ok X G (c.a.fact 15 (f := .glo "check_rule") rfl)
  free_tuple := He.free_ok X G (c.a.fact 16 (f := .free "tuple") rfl)
  free_enumerate := He.free_ok X G (c.a.fact 17 (f := .free "enumerate") rfl)
  int_MOST_NOTES_40 := He.int_ok X G (c.a.fact 18 (f := .int "MOST_NOTES" 40) rfl)
  free_len := He.free_ok X G (c.a.fact 19 (f := .free "len") rfl)
  int_MOST_MINUTE_1000000000000000000000000000000 := He.int_ok X G (c.a.fact 20 (f := .int "MOST_MINUTE" 1000000000000000000000000000000) rfl)
  glo_is_minute := He.glo_ok X G (c.a.fact 21 (f := .glo "is_minute") rfl)
  glo_is_mark := He.glo_ok X G (c.a.fact 22 (f := .glo "is_mark") rfl)
  glo_is_note := He.glo_ok X G (c.a.fact 23 (f := .glo "is_note") rfl)
  glo_notes_fault := He.glo_ok X G (c.a.fact 24 (f := .glo "notes_fault") rfl)
  glo_check_notes := He.glo_ok X G (c.a.fact 25 (f := .glo "check_notes") rfl)
  free_max := He.free_ok X G (c.a.fact 26 (f := .free "max") rfl)
  glo_joins := He.glo_ok X G (c.a.fact 27 (f := .glo "joins") rfl)
  glo_reach := He.glo_ok X G (c.a.fact 28 (f := .glo "reach") rfl)
  glo_arrivals := He.glo_ok X G (c.a.fact 29 (f := .glo "arrivals") rfl)
  glo_least_arrival := He.glo_ok X G (c.a.fact 30 (f := .glo "least_arrival") rfl)
  glo_ways_of := He.glo_ok X G (c.a.fact 31 (f := .glo "ways_of") rfl)
  glo_blocks_of := He.glo_ok X G (c.a.fact 32 (f := .glo "blocks_of") rfl)
  glo_some_stays := He.glo_ok X G (c.a.fact 33 (f := .glo "some_stays") rfl)
  free_min := He.free_ok X G (c.a.fact 34 (f := .free "min") rfl)
  free_range := He.free_ok X G (c.a.fact 35 (f := .free "range") rfl)
  glo__law_sip := He.glo_ok X G (c.a.fact 36 (f := .glo "_law_sip") rfl)
  glo__law_pick := He.glo_ok X G (c.a.fact 37 (f := .glo "_law_pick") rfl)
  glo__law_far := He.glo_ok X G (c.a.fact 38 (f := .glo "_law_far") rfl)
  glo__law_plan := He.glo_ok X G (c.a.fact 39 (f := .glo "_law_plan") rfl)
  glo__law_mark := He.glo_ok X G (c.a.fact 40 (f := .glo "_law_mark") rfl)
  glo__law_rows := He.glo_ok X G (c.a.fact 41 (f := .glo "_law_rows") rfl)
  glo__law_made := He.glo_ok X G (c.a.fact 42 (f := .glo "_law_made") rfl)
  glo_fits := He.glo_ok X G (c.a.fact 43 (f := .glo "fits") rfl)
  free_list := He.free_ok X G (c.a.fact 44 (f := .free "list") rfl)
  free_sorted := He.free_ok X G (c.a.fact 45 (f := .free "sorted") rfl)
  free_zip := He.free_ok X G (c.a.fact 46 (f := .free "zip") rfl)
  glo__law_fitting := He.glo_ok X G (c.a.fact 47 (f := .glo "_law_fitting") rfl)
  free_all := He.free_ok X G (c.a.fact 48 (f := .free "all") rfl)
  glo_are_minutes := He.glo_ok X G (c.a.fact 49 (f := .glo "are_minutes") rfl)
  glo_are_stays := He.glo_ok X G (c.a.fact 50 (f := .glo "are_stays") rfl)
  glo_mark_at := He.glo_ok X G (c.a.fact 51 (f := .glo "mark_at") rfl)
  glo_do_fit := He.glo_ok X G (c.a.fact 52 (f := .glo "do_fit") rfl)
  glo__law_minutes := He.glo_ok X G (c.a.fact 53 (f := .glo "_law_minutes") rfl)
  glo__law_cuts := He.glo_ok X G (c.a.fact 54 (f := .glo "_law_cuts") rfl)
  glo__law_span := He.glo_ok X G (c.a.fact 55 (f := .glo "_law_span") rfl)
  glo__law_stays := He.glo_ok X G (c.a.fact 56 (f := .glo "_law_stays") rfl)
  glo__law_all := He.glo_ok X G (c.a.fact 57 (f := .glo "_law_all") rfl)
  glo__law_right := He.glo_ok X G (c.a.fact 58 (f := .glo "_law_right") rfl)
  free_abs := He.free_ok X G (c.a.fact 59 (f := .free "abs") rfl)
  glo__law_flask := He.glo_ok X G (c.a.fact 60 (f := .glo "_law_flask") rfl)
  glo_law := He.glo_ok X G (c.a.fact 61 (f := .glo "law") rfl)
  tup_SETTINGS := id (c.y (.tup "SETTINGS" (([(.str "next"), (.str "last"), (.str "near")] : List Val).map gv)) (List.mem_of_getElem? (i := 0) rfl))
  prop_Rule_step := prop_ok (c.y (.prop "Rule" "step") (List.mem_of_getElem? (i := 1) rfl))
  prop_Rule_setting := prop_ok (c.y (.prop "Rule" "setting") (List.mem_of_getElem? (i := 2) rfl))
  prop_Rule_pause := prop_ok (c.y (.prop "Rule" "pause") (List.mem_of_getElem? (i := 3) rfl))
  etup_ways_of_0 := id (c.y (.gen fun K => tupAt K (He.dflAt ("ways_of", none) 0 K)) (List.mem_of_getElem? (i := 4) rfl))
  etup_blocks_of_0 := id (c.y (.gen fun K => tupAt K (He.dflAt ("blocks_of", none) 0 K)) (List.mem_of_getElem? (i := 5) rfl))
  isi := by
    refine ⟨fun e he => ?_, fun e he C hC => ?_⟩
    · have go : ∀ e ∈ isT, (Fy.kit e.1 e.2.1 e.2.2) ∈ fy := fun e he => List.mem_of_mem_drop (i := 7) (show Fy.kit e.1 e.2.1 e.2.2 ∈ isT.map fun e => Fy.kit e.1 e.2.1 e.2.2 from List.mem_map.mpr ⟨e, he, rfl⟩)
      exact kit_ok (c.y _ (go e he))
    · have go : ∀ e ∈ isT, ∀ C, e.1 = .inr C → ∃ i : Nat, fy[i]? = some (Fy.isi C) := by
        intro e he C hC
        simp only [isT, List.mem_cons, List.not_mem_nil, or_false] at he
        rcases he with rfl | rfl | rfl | rfl | rfl | rfl | rfl | rfl | rfl | rfl | rfl | rfl | rfl | rfl | rfl | rfl | rfl | rfl | rfl | rfl | rfl | rfl | rfl | rfl | rfl | rfl | rfl | rfl | rfl | rfl | rfl | rfl | rfl | rfl | rfl | rfl | rfl | rfl | rfl | rfl <;> first | (cases hC; done) | (cases hC; first | exact ⟨6, rfl⟩)
      obtain ⟨i, hi⟩ := go e he C hC
      exact isi_ok (c.y _ (List.mem_of_getElem? hi))
section
variable {P : Program} {w : World} {K : PySem.W.Frag} {mg : Str → Option Value} {base : Heap}
theorem bd_is_integer : BindD d_is_integer ["value"] := ⟨rfl, rfl, fun _ _ _ _ _ _ us hl => match us, hl with | [_], _ => rfl⟩
theorem sc_is_integer : FnScope ["value"] ["value"] d_is_integer.scope := ⟨rfl, rfl, rfl, by decide +kernel, rfl, by decide +kernel, by decide +kernel⟩
theorem ok_is_integer (x : Fx K mg)  (D : ∃ fd, FunD K d_is_integer.name d_is_integer.qual d_is_integer.params d_is_integer.body d_is_integer.scope (d_is_integer.dvs K) (d_is_integer.kws K) (d_is_integer.at_ K) fd) : FnB P w K mg base 1 d_is_integer ["value"] 1 den_is_integer := by
  refine fnB_of (k := 0) D sc_is_integer rfl rfl fun cdv A outer s H E G => ?_
  unfold b_is_integer
  exact (sb_one (ss_ret (se_and (se_callB call_isi (v_isi x.isi) rfl x.free_isinstance (sa_cons (se_var 0) (sa_cons (se_ty rfl x.free_int) sa_nil))) (se_one (se_not (se_callB call_isi (v_isi x.isi) rfl x.free_isinstance (sa_cons (se_var 0) (sa_cons (se_ty rfl x.free_bool) sa_nil))))))))
theorem bd_is_between : BindD d_is_between ["value", "least", "most"] := ⟨rfl, rfl, fun _ _ _ _ _ _ us hl => match us, hl with | [_, _, _], _ => rfl⟩
theorem sc_is_between : FnScope ["value", "least", "most"] ["value", "least", "most"] d_is_between.scope := ⟨rfl, rfl, rfl, by decide +kernel, rfl, by decide +kernel, by decide +kernel⟩
theorem ok_is_between (x : Fx K mg) (c_is_integer : FnB P w K mg base 1 d_is_integer ["value"] 1 den_is_integer) (D : ∃ fd, FunD K d_is_between.name d_is_between.qual d_is_between.params d_is_between.body d_is_between.scope (d_is_between.dvs K) (d_is_between.kws K) (d_is_between.at_ K) fd) : FnB P w K mg base 2 d_is_between ["value", "least", "most"] 3 den_is_between := by
  refine fnB_of (k := 1) D sc_is_between rfl rfl fun cdv A outer s H E G => ?_
  unfold b_is_between
  exact (sb_one (ss_ret (se_and (se_callD [false] c_is_integer.up bd_is_integer G rfl x.glo_is_integer (sa_cons (se_var 0) sa_nil)) (se_one (se_chain op_le op_le v_le v_le (se_var 1) (se_var 0) (se_var 2))))))
theorem bd_check_number : BindD d_check_number ["value", "least", "most"] := ⟨rfl, rfl, fun _ _ _ _ _ _ us hl => match us, hl with | [_, _, _], _ => rfl⟩
theorem sc_check_number : FnScope ["value", "least", "most"] ["value", "least", "most"] d_check_number.scope := ⟨rfl, rfl, rfl, by decide +kernel, rfl, by decide +kernel, by decide +kernel⟩
theorem ok_check_number (x : Fx K mg) (c_is_between : FnB P w K mg base 2 d_is_between ["value", "least", "most"] 3 den_is_between) (D : ∃ fd, FunD K d_check_number.name d_check_number.qual d_check_number.params d_check_number.body d_check_number.scope (d_check_number.dvs K) (d_check_number.kws K) (d_check_number.at_ K) fd) : FnB P w K mg base 3 d_check_number ["value", "least", "most"] 3 den_check_number := by
  refine fnB_of (k := 2) D sc_check_number rfl rfl fun cdv A outer s H E G => ?_
  unfold b_check_number
  exact (sb_one (ss_if (st_not (st_val (se_callD [false, false, false] c_is_between.up bd_is_between G rfl x.glo_is_between (sa_cons (se_var 0) (sa_cons (se_var 1) (sa_cons (se_var 2) sa_nil)))))) (sb_one ss_bad) sb_nil))
theorem bd_Rule____init__ : BindD d_Rule____init__ ["self", "step", "setting", "limit", "pause"] := ⟨rfl, rfl, fun _ _ _ _ _ _ us hl => match us, hl with | [_, _, _, _, _], _ => rfl⟩
theorem sc_Rule____init__ : FnScope ["self", "step", "setting", "limit", "pause"] ["self", "step", "setting", "limit", "pause"] d_Rule____init__.scope := ⟨rfl, rfl, rfl, by decide +kernel, rfl, by decide +kernel, by decide +kernel⟩
theorem ok_Rule____init__ (x : Fx K mg) (c_check_number : FnB P w K mg base 3 d_check_number ["value", "least", "most"] 3 den_check_number) (D : ∃ fd, FunD K d_Rule____init__.name d_Rule____init__.qual d_Rule____init__.params d_Rule____init__.body d_Rule____init__.scope (d_Rule____init__.dvs K) (d_Rule____init__.kws K) (d_Rule____init__.at_ K) fd) : FnB P w K mg base 4 d_Rule____init__ ["self", "step", "setting", "limit", "pause"] 5 den_Rule____init__ := by
  refine fnB_of (k := 3) D sc_Rule____init__ rfl rfl fun cdv A outer s H E G => ?_
  unfold b_Rule____init__
  exact (sb_cons (ss_expr (se_callD [false, false, false] c_check_number.up bd_check_number G rfl x.glo_check_number (sa_cons (se_var 1) (sa_cons se_int (sa_cons (se_gInt rfl x.int_MOST_STEP_1000000000000) sa_nil))))) (sb_cons (ss_if (st_w (sw_or (st_not (st_val (se_callB call_isi (v_isi x.isi) rfl x.free_isinstance (sa_cons (se_var 2) (sa_cons (se_ty rfl x.free_str) sa_nil))))) (sw_or1 (st_cmp op_notIn_seq (v_in true) b_in (se_var 2) (se_gTup (vs := [(.str "next"), (.str "last"), (.str "near")]) rfl x.glo_SETTINGS x.tup_SETTINGS))))) (sb_one ss_bad) sb_nil) (sb_cons (ss_expr (se_callD [false, false, false] c_check_number.up bd_check_number G rfl x.glo_check_number (sa_cons (se_var 3) (sa_cons (se_var 1) (sa_cons (se_gInt rfl x.int_MOST_LIMIT_1000000000000000000) sa_nil))))) (sb_cons (ss_expr (se_callD [false, false, false] c_check_number.up bd_check_number G rfl x.glo_check_number (sa_cons (se_var 4) (sa_cons se_int (sa_cons (se_gInt rfl x.int_MOST_LIMIT_1000000000000000000) sa_nil))))) (sb_cons (ss_put x.cls_Rule x.noat_Rule_limit (se_var 0) (se_var 3)) (sb_one (ss_put x.cls_Rule x.noat_Rule_parts (se_var 0) (se_tup (sa_cons (se_var 1) (sa_cons (se_var 2) (sa_cons (se_var 3) (sa_cons (se_var 4) sa_nil))))))))))))
theorem bd_check_rule : BindD d_check_rule ["value"] := ⟨rfl, rfl, fun _ _ _ _ _ _ us hl => match us, hl with | [_], _ => rfl⟩
theorem sc_check_rule : FnScope ["value"] ["value"] d_check_rule.scope := ⟨rfl, rfl, rfl, by decide +kernel, rfl, by decide +kernel, by decide +kernel⟩
theorem ok_check_rule (x : Fx K mg)  (D : ∃ fd, FunD K d_check_rule.name d_check_rule.qual d_check_rule.params d_check_rule.body d_check_rule.scope (d_check_rule.dvs K) (d_check_rule.kws K) (d_check_rule.at_ K) fd) : FnB P w K mg base 1 d_check_rule ["value"] 1 den_check_rule := by
  refine fnB_of (k := 0) D sc_check_rule rfl rfl fun cdv A outer s H E G => ?_
  unfold b_check_rule
  exact (sb_one (ss_if (st_not (st_val (se_callB call_isi (v_isi x.isi) rfl x.free_isinstance (sa_cons (se_var 0) (sa_cons (se_glo rfl x.glo_Rule) sa_nil))))) (sb_one ss_bad) sb_nil))
theorem bd_is_minute : BindD d_is_minute ["value"] := ⟨rfl, rfl, fun _ _ _ _ _ _ us hl => match us, hl with | [_], _ => rfl⟩
theorem sc_is_minute : FnScope ["value"] ["value"] d_is_minute.scope := ⟨rfl, rfl, rfl, by decide +kernel, rfl, by decide +kernel, by decide +kernel⟩
theorem ok_is_minute (x : Fx K mg) (c_is_between : FnB P w K mg base 2 d_is_between ["value", "least", "most"] 3 den_is_between) (D : ∃ fd, FunD K d_is_minute.name d_is_minute.qual d_is_minute.params d_is_minute.body d_is_minute.scope (d_is_minute.dvs K) (d_is_minute.kws K) (d_is_minute.at_ K) fd) : FnB P w K mg base 3 d_is_minute ["value"] 1 den_is_minute := by
  refine fnB_of (k := 2) D sc_is_minute rfl rfl fun cdv A outer s H E G => ?_
  unfold b_is_minute
  exact (sb_one (ss_ret (se_callD [false, false, false] c_is_between.up bd_is_between G rfl x.glo_is_between (sa_cons (se_var 0) (sa_cons se_int (sa_cons (se_gInt rfl x.int_MOST_MINUTE_1000000000000000000000000000000) sa_nil))))))
theorem bd_Rule__step : BindD d_Rule__step ["self"] := ⟨rfl, rfl, fun _ _ _ _ _ _ us hl => match us, hl with | [_], _ => rfl⟩
theorem sc_Rule__step : FnScope ["self"] ["self"] d_Rule__step.scope := ⟨rfl, rfl, rfl, by decide +kernel, rfl, by decide +kernel, by decide +kernel⟩
theorem ok_Rule__step (x : Fx K mg)  (D : ∃ fd, FunD K d_Rule__step.name d_Rule__step.qual d_Rule__step.params d_Rule__step.body d_Rule__step.scope (d_Rule__step.dvs K) (d_Rule__step.kws K) (d_Rule__step.at_ K) fd) : FnB P w K mg base 1 d_Rule__step ["self"] 1 den_Rule__step := by
  refine fnB_of (k := 0) D sc_Rule__step rfl rfl fun cdv A outer s H E G => ?_
  unfold b_Rule__step
  exact (sb_one (ss_ret (se_ix (se_get x.cls_Rule x.noat_Rule_parts (se_var 0)) se_int)))
theorem bd_is_mark : BindD d_is_mark ["rule", "value"] := ⟨rfl, rfl, fun _ _ _ _ _ _ us hl => match us, hl with | [_, _], _ => rfl⟩
theorem sc_is_mark : FnScope ["rule", "value"] ["rule", "value"] d_is_mark.scope := ⟨rfl, rfl, rfl, by decide +kernel, rfl, by decide +kernel, by decide +kernel⟩
theorem ok_is_mark (x : Fx K mg) (c_is_between : FnB P w K mg base 2 d_is_between ["value", "least", "most"] 3 den_is_between) (c_Rule__step : FnB P w K mg base 1 d_Rule__step ["self"] 1 den_Rule__step) (D : ∃ fd, FunD K d_is_mark.name d_is_mark.qual d_is_mark.params d_is_mark.body d_is_mark.scope (d_is_mark.dvs K) (d_is_mark.kws K) (d_is_mark.at_ K) fd) : FnB P w K mg base 3 d_is_mark ["rule", "value"] 2 den_is_mark := by
  refine fnB_of (k := 2) D sc_is_mark rfl rfl fun cdv A outer s H E G => ?_
  unfold b_is_mark
  exact (sb_one (ss_ret (se_and (se_callD [false, false, false] c_is_between.up bd_is_between G rfl x.glo_is_between (sa_cons (se_var 1) (sa_cons se_int (sa_cons (se_gInt rfl x.int_MOST_MINUTE_1000000000000000000000000000000) sa_nil)))) (se_one (se_cmp (op_eqA G.room.units) v_eq (se_bin op_mod v_mod (se_var 1) (se_propD (k := 1) (d := d_Rule__step) (se_var 0) x.cls_Rule x.prop_Rule_step c_Rule__step.up bd_Rule__step G)) se_int)))))
theorem bd_is_note : BindD d_is_note ["rule", "value"] := ⟨rfl, rfl, fun _ _ _ _ _ _ us hl => match us, hl with | [_, _], _ => rfl⟩
theorem sc_is_note : FnScope ["rule", "value"] ["rule", "value"] d_is_note.scope := ⟨rfl, rfl, rfl, by decide +kernel, rfl, by decide +kernel, by decide +kernel⟩
theorem ok_is_note (x : Fx K mg) (c_is_minute : FnB P w K mg base 3 d_is_minute ["value"] 1 den_is_minute) (c_is_mark : FnB P w K mg base 3 d_is_mark ["rule", "value"] 2 den_is_mark) (D : ∃ fd, FunD K d_is_note.name d_is_note.qual d_is_note.params d_is_note.body d_is_note.scope (d_is_note.dvs K) (d_is_note.kws K) (d_is_note.at_ K) fd) : FnB P w K mg base 4 d_is_note ["rule", "value"] 2 den_is_note := by
  refine fnB_of (k := 3) D sc_is_note rfl rfl fun cdv A outer s H E G => ?_
  unfold b_is_note
  exact (sb_cons (ss_if (st_w (sw_or (st_not (st_val (se_callB call_isi (v_isi x.isi) rfl x.free_isinstance (sa_cons (se_var 1) (sa_cons (se_ty rfl x.free_tuple) sa_nil))))) (sw_or (st_cmp (op_neA G.room.units) v_ne b_ne (se_callB c_len v_len rfl x.free_len (sa_cons (se_var 1) sa_nil)) se_int) (sw_or (st_not (st_val (se_callD [false] c_is_minute.up bd_is_minute G rfl x.glo_is_minute (sa_cons (se_ix (se_var 1) se_int) sa_nil)))) (sw_or1 (st_not (st_val (se_callD [false] c_is_minute.up bd_is_minute G rfl x.glo_is_minute (sa_cons (se_ix (se_var 1) se_int) sa_nil))))))))) (sb_one (ss_ret se_bl)) sb_nil) (sb_one (ss_ret (se_and (se_cmp op_le v_le (se_ix (se_var 1) se_int) (se_ix (se_var 1) se_int)) (se_one (se_or (se_cmp op_isN v_is (se_ix (se_var 1) se_int) se_non) (se_one (se_callD [false, false] c_is_mark.up bd_is_mark G rfl x.glo_is_mark (sa_cons (se_var 0) (sa_cons (se_ix (se_var 1) se_int) sa_nil))))))))))
theorem bd_notes_fault : BindD d_notes_fault ["rule", "value"] := ⟨rfl, rfl, fun _ _ _ _ _ _ us hl => match us, hl with | [_, _], _ => rfl⟩
theorem sc_notes_fault : FnScope ["rule", "value", "index", "note"] ["rule", "value"] d_notes_fault.scope := ⟨rfl, rfl, rfl, by decide +kernel, rfl, by decide +kernel, by decide +kernel⟩
theorem ok_notes_fault (x : Fx K mg) (c_is_note : FnB P w K mg base 4 d_is_note ["rule", "value"] 2 den_is_note) (D : ∃ fd, FunD K d_notes_fault.name d_notes_fault.qual d_notes_fault.params d_notes_fault.body d_notes_fault.scope (d_notes_fault.dvs K) (d_notes_fault.kws K) (d_notes_fault.at_ K) fd) : FnB P w K mg base 5 d_notes_fault ["rule", "value"] 2 den_notes_fault := by
  refine fnB_of (k := 4) D sc_notes_fault rfl rfl fun cdv A outer s H E G => ?_
  unfold b_notes_fault
  exact (sb_cons (ss_if (st_w (sw_or (st_not (st_val (se_callB call_isi (v_isi x.isi) rfl x.free_isinstance (sa_cons (se_var 1) (sa_cons (se_ty rfl x.free_tuple) sa_nil))))) (sw_or1 (st_cmp (op_eqA G.room.units) v_eq b_eq (se_var 1) (se_tup sa_nil))))) (sb_one (ss_ret se_non)) sb_nil) (sb_cons (ss_for (ws := [2, 3]) G (si_enum rfl x.free_enumerate (se_var 1)) (sg_tup G.calm (sgs_cons (sg_name 2 G.nd) (sgs_cons (sg_name 3 G.nd) sgs_nil))) (sb_one (ss_if (st_w (sw_or (st_cmp (op_eqA G.room.units) v_eq b_eq (se_var 2) (se_gInt rfl x.int_MOST_NOTES_40)) (sw_or1 (st_not (st_val (se_callD [false, false] c_is_note.up bd_is_note G rfl x.glo_is_note (sa_cons (se_var 0) (sa_cons (se_var 3) sa_nil)))))))) (sb_one (ss_ret (se_var 2))) sb_nil))) (sb_one (ss_ret (se_neg se_int)))))
theorem bd_check_notes : BindD d_check_notes ["rule", "value"] := ⟨rfl, rfl, fun _ _ _ _ _ _ us hl => match us, hl with | [_, _], _ => rfl⟩
theorem sc_check_notes : FnScope ["rule", "value"] ["rule", "value"] d_check_notes.scope := ⟨rfl, rfl, rfl, by decide +kernel, rfl, by decide +kernel, by decide +kernel⟩
theorem ok_check_notes (x : Fx K mg) (c_check_rule : FnB P w K mg base 1 d_check_rule ["value"] 1 den_check_rule) (c_notes_fault : FnB P w K mg base 5 d_notes_fault ["rule", "value"] 2 den_notes_fault) (D : ∃ fd, FunD K d_check_notes.name d_check_notes.qual d_check_notes.params d_check_notes.body d_check_notes.scope (d_check_notes.dvs K) (d_check_notes.kws K) (d_check_notes.at_ K) fd) : FnB P w K mg base 6 d_check_notes ["rule", "value"] 2 den_check_notes := by
  refine fnB_of (k := 5) D sc_check_notes rfl rfl fun cdv A outer s H E G => ?_
  unfold b_check_notes
  exact (sb_cons (ss_expr (se_callD [false] c_check_rule.up bd_check_rule G rfl x.glo_check_rule (sa_cons (se_var 0) sa_nil))) (sb_one (ss_if (st_cmp (op_neA G.room.units) v_ne b_ne (se_callD [false, false] c_notes_fault.up bd_notes_fault G rfl x.glo_notes_fault (sa_cons (se_var 0) (sa_cons (se_var 1) sa_nil))) (se_neg se_int)) (sb_one ss_bad) sb_nil)))
theorem bd_joins : BindD d_joins ["notes", "index", "apart"] := ⟨rfl, rfl, fun _ _ _ _ _ _ us hl => match us, hl with | [_, _, _], _ => rfl⟩
theorem sc_joins : FnScope ["notes", "index", "apart"] ["notes", "index", "apart"] d_joins.scope := ⟨rfl, rfl, rfl, by decide +kernel, rfl, by decide +kernel, by decide +kernel⟩
theorem ok_joins (x : Fx K mg)  (D : ∃ fd, FunD K d_joins.name d_joins.qual d_joins.params d_joins.body d_joins.scope (d_joins.dvs K) (d_joins.kws K) (d_joins.at_ K) fd) : FnB P w K mg base 1 d_joins ["notes", "index", "apart"] 3 den_joins := by
  refine fnB_of (k := 0) D sc_joins rfl rfl fun cdv A outer s H E G => ?_
  unfold b_joins
  exact (sb_cons (ss_if (st_w (sw_or (st_cmp (op_eqA G.room.units) v_eq b_eq (se_var 1) se_int) (sw_or (st_cmp op_in_seq (v_in false) b_in (se_var 1) (se_var 2)) (sw_or1 (st_cmp op_isN v_is b_is (se_ix (se_ix (se_var 0) (se_var 1)) se_int) se_non))))) (sb_one (ss_ret se_bl)) sb_nil) (sb_one (ss_ret (se_cmp (op_eqA G.room.units) v_eq (se_ix (se_ix (se_var 0) (se_var 1)) se_int) (se_ix (se_ix (se_var 0) (se_bin op_sub v_sub (se_var 1) se_int)) se_int)))))
theorem bd_Rule__setting : BindD d_Rule__setting ["self"] := ⟨rfl, rfl, fun _ _ _ _ _ _ us hl => match us, hl with | [_], _ => rfl⟩
theorem sc_Rule__setting : FnScope ["self"] ["self"] d_Rule__setting.scope := ⟨rfl, rfl, rfl, by decide +kernel, rfl, by decide +kernel, by decide +kernel⟩
theorem ok_Rule__setting (x : Fx K mg)  (D : ∃ fd, FunD K d_Rule__setting.name d_Rule__setting.qual d_Rule__setting.params d_Rule__setting.body d_Rule__setting.scope (d_Rule__setting.dvs K) (d_Rule__setting.kws K) (d_Rule__setting.at_ K) fd) : FnB P w K mg base 1 d_Rule__setting ["self"] 1 den_Rule__setting := by
  refine fnB_of (k := 0) D sc_Rule__setting rfl rfl fun cdv A outer s H E G => ?_
  unfold b_Rule__setting
  exact (sb_one (ss_ret (se_ix (se_get x.cls_Rule x.noat_Rule_parts (se_var 0)) se_int)))
theorem bd_reach : BindD d_reach ["rule"] := ⟨rfl, rfl, fun _ _ _ _ _ _ us hl => match us, hl with | [_], _ => rfl⟩
theorem sc_reach : FnScope ["rule"] ["rule"] d_reach.scope := ⟨rfl, rfl, rfl, by decide +kernel, rfl, by decide +kernel, by decide +kernel⟩
theorem ok_reach (x : Fx K mg) (c_Rule__setting : FnB P w K mg base 1 d_Rule__setting ["self"] 1 den_Rule__setting) (c_Rule__step : FnB P w K mg base 1 d_Rule__step ["self"] 1 den_Rule__step) (D : ∃ fd, FunD K d_reach.name d_reach.qual d_reach.params d_reach.body d_reach.scope (d_reach.dvs K) (d_reach.kws K) (d_reach.at_ K) fd) : FnB P w K mg base 3 d_reach ["rule"] 1 den_reach := by
  refine fnB_of (k := 2) D sc_reach rfl rfl fun cdv A outer s H E G => ?_
  unfold b_reach
  exact (sb_cons (ss_if (st_cmp (op_eqA G.room.units) v_eq b_eq (se_propD (k := 1) (d := d_Rule__setting) (se_var 0) x.cls_Rule x.prop_Rule_setting c_Rule__setting.up bd_Rule__setting G) se_str) (sb_one (ss_ret (se_tup (sa_cons se_int (sa_cons (se_bin op_sub v_sub (se_propD (k := 1) (d := d_Rule__step) (se_var 0) x.cls_Rule x.prop_Rule_step c_Rule__step.up bd_Rule__step G) se_int) sa_nil))))) sb_nil) (sb_cons (ss_if (st_cmp (op_eqA G.room.units) v_eq b_eq (se_propD (k := 1) (d := d_Rule__setting) (se_var 0) x.cls_Rule x.prop_Rule_setting c_Rule__setting.up bd_Rule__setting G) se_str) (sb_one (ss_ret (se_tup (sa_cons (se_bin op_sub v_sub se_int (se_propD (k := 1) (d := d_Rule__step) (se_var 0) x.cls_Rule x.prop_Rule_step c_Rule__step.up bd_Rule__step G)) (sa_cons se_int sa_nil))))) sb_nil) (sb_one (ss_ret (se_tup (sa_cons (se_neg (se_bin op_fdivW v_div (se_bin op_sub v_sub (se_propD (k := 1) (d := d_Rule__step) (se_var 0) x.cls_Rule x.prop_Rule_step c_Rule__step.up bd_Rule__step G) se_int) se_int)) (sa_cons (se_bin op_fdivW v_div (se_propD (k := 1) (d := d_Rule__step) (se_var 0) x.cls_Rule x.prop_Rule_step c_Rule__step.up bd_Rule__step G) se_int) sa_nil)))))))
theorem bd_arrivals : BindD d_arrivals ["rule", "mark"] := ⟨rfl, rfl, fun _ _ _ _ _ _ us hl => match us, hl with | [_, _], _ => rfl⟩
theorem sc_arrivals : FnScope ["rule", "mark", "low", "high"] ["rule", "mark"] d_arrivals.scope := ⟨rfl, rfl, rfl, by decide +kernel, rfl, by decide +kernel, by decide +kernel⟩
theorem ok_arrivals (x : Fx K mg) (c_reach : FnB P w K mg base 3 d_reach ["rule"] 1 den_reach) (D : ∃ fd, FunD K d_arrivals.name d_arrivals.qual d_arrivals.params d_arrivals.body d_arrivals.scope (d_arrivals.dvs K) (d_arrivals.kws K) (d_arrivals.at_ K) fd) : FnB P w K mg base 4 d_arrivals ["rule", "mark"] 2 den_arrivals := by
  refine fnB_of (k := 3) D sc_arrivals rfl rfl fun cdv A outer s H E G => ?_
  unfold b_arrivals
  exact (sb_cons (ss_asg (ws := [2, 3]) (se_callD [false] c_reach.up bd_reach G rfl x.glo_reach (sa_cons (se_var 0) sa_nil)) (sg_tup G.calm (sgs_cons (sg_name 2 G.nd) (sgs_cons (sg_name 3 G.nd) sgs_nil)))) (sb_one (ss_ret (se_tup (sa_cons (se_callB (call_max2 G.calm) v_max2 rfl x.free_max (sa_cons se_int (sa_cons (se_bin op_sub v_sub (se_var 1) (se_var 3)) sa_nil))) (sa_cons (se_bin op_sub v_sub (se_var 1) (se_var 2)) sa_nil))))))
theorem bd_Rule__pause : BindD d_Rule__pause ["self"] := ⟨rfl, rfl, fun _ _ _ _ _ _ us hl => match us, hl with | [_], _ => rfl⟩
theorem sc_Rule__pause : FnScope ["self"] ["self"] d_Rule__pause.scope := ⟨rfl, rfl, rfl, by decide +kernel, rfl, by decide +kernel, by decide +kernel⟩
theorem ok_Rule__pause (x : Fx K mg)  (D : ∃ fd, FunD K d_Rule__pause.name d_Rule__pause.qual d_Rule__pause.params d_Rule__pause.body d_Rule__pause.scope (d_Rule__pause.dvs K) (d_Rule__pause.kws K) (d_Rule__pause.at_ K) fd) : FnB P w K mg base 1 d_Rule__pause ["self"] 1 den_Rule__pause := by
  refine fnB_of (k := 0) D sc_Rule__pause rfl rfl fun cdv A outer s H E G => ?_
  unfold b_Rule__pause
  exact (sb_one (ss_ret (se_ix (se_get x.cls_Rule x.noat_Rule_parts (se_var 0)) se_int)))
theorem bd_least_arrival : BindD d_least_arrival ["rule", "now", "last", "absent", "turning"] := ⟨rfl, rfl, fun _ _ _ _ _ _ us hl => match us, hl with | [_, _, _, _, _], _ => rfl⟩
theorem sc_least_arrival : FnScope ["rule", "now", "last", "absent", "turning", "least"] ["rule", "now", "last", "absent", "turning"] d_least_arrival.scope := ⟨rfl, rfl, rfl, by decide +kernel, rfl, by decide +kernel, by decide +kernel⟩
theorem ok_least_arrival (x : Fx K mg) (c_Rule__pause : FnB P w K mg base 1 d_Rule__pause ["self"] 1 den_Rule__pause) (D : ∃ fd, FunD K d_least_arrival.name d_least_arrival.qual d_least_arrival.params d_least_arrival.body d_least_arrival.scope (d_least_arrival.dvs K) (d_least_arrival.kws K) (d_least_arrival.at_ K) fd) : FnB P w K mg base 3 d_least_arrival ["rule", "now", "last", "absent", "turning"] 5 den_least_arrival := by
  refine fnB_of (k := 2) D sc_least_arrival rfl rfl fun cdv A outer s H E G => ?_
  unfold b_least_arrival
  exact (sb_cons (ss_if (st_w (sw_and (st_val (se_var 4)) (sw_and (st_cmp op_notN v_isN b_isN (se_var 2) se_non) (sw_and1 (st_not (st_val (se_var 3))))))) (sb_one (ss_ret (se_bin op_addA v_add (se_var 1) se_int))) sb_nil) (sb_cons (ss_set 5 G (se_ifE (st_cmp op_isN v_is b_is (se_var 2) se_non) se_int (se_bin op_addA v_add (se_var 2) (se_propD (k := 1) (d := d_Rule__pause) (se_var 0) x.cls_Rule x.prop_Rule_pause c_Rule__pause.up bd_Rule__pause G)))) (sb_one (ss_ret (se_ifE (st_val (se_var 3)) (se_callB (call_max2 G.calm) v_max2 rfl x.free_max (sa_cons (se_var 5) (sa_cons (se_bin op_addA v_add (se_var 1) se_int) sa_nil))) (se_var 5))))))
theorem bf_ways_of_2 : BindDf d_ways_of ["rule", "notes", "apart", "turning"] 2 0 := ⟨List.cons_ne_nil _ _, rfl, fun _ _ _ _ _ _ _ us its h1 h2 => match us, its, h1, h2 with | [_, _], [_, _], _, _ => ⟨_, rfl, rfl⟩⟩
theorem bf_ways_of_4 : BindDf d_ways_of ["rule", "notes", "apart", "turning"] 4 2 := ⟨List.cons_ne_nil _ _, rfl, fun _ _ _ _ _ _ _ us its h1 h2 => match us, its, h1, h2 with | [_, _, _, _], [_, _], _, _ => ⟨_, rfl, rfl⟩⟩
theorem vc_ways_of_0 (x : Fx K mg) : VC K [(.tup []), (.bl false)] ((d_ways_of.dvs K).drop 0) := fun F => (.cons (.tup (tupAt_ok x.etup_ways_of_0 F) .nil) (.cons (.bl _) .nil))
theorem vc_ways_of_2 (x : Fx K mg) : VC K [] ((d_ways_of.dvs K).drop 2) := fun F => .nil
theorem sc_ways_of : FnScope ["rule", "notes", "apart", "turning", "now", "last", "begin", "found", "index", "spot", "low", "high", "mark", "absent", "least", "most"] ["rule", "notes", "apart", "turning"] d_ways_of.scope := ⟨rfl, rfl, rfl, by decide +kernel, rfl, by decide +kernel, by decide +kernel⟩
theorem ok_ways_of (x : Fx K mg) (c_joins : FnB P w K mg base 1 d_joins ["notes", "index", "apart"] 3 den_joins) (c_arrivals : FnB P w K mg base 4 d_arrivals ["rule", "mark"] 2 den_arrivals) (c_least_arrival : FnB P w K mg base 3 d_least_arrival ["rule", "now", "last", "absent", "turning"] 5 den_least_arrival) (D : ∃ fd, FunD K d_ways_of.name d_ways_of.qual d_ways_of.params d_ways_of.body d_ways_of.scope (d_ways_of.dvs K) (d_ways_of.kws K) (d_ways_of.at_ K) fd) : FnB P w K mg base 5 d_ways_of ["rule", "notes", "apart", "turning"] 4 den_ways_of := by
  refine fnB_of (k := 4) D sc_ways_of rfl rfl fun cdv A outer s H E G => ?_
  unfold b_ways_of
  exact (sb_cons (ss_parN [4, 5, 6, 7] false G (sa_cons se_int (sa_cons se_non (sa_cons se_non (sa_cons (se_lst sa_nil) sa_nil)))) (nm_cons 4 (nm_cons 5 (nm_cons 6 (nm_cons 7 nm_nil))))) (sb_cons (ss_for (ws := [8, 10, 11, 12]) G (si_enum rfl x.free_enumerate (se_var 1)) (sg_tup G.calm (sgs_cons (sg_name 8 G.nd) (sgs_cons (sg_tup G.calm (sgs_cons (sg_name 10 G.nd) (sgs_cons (sg_name 11 G.nd) (sgs_cons (sg_name 12 G.nd) sgs_nil)))) sgs_nil))) (sb_cons (ss_set 9 G (se_callB (call_max2 G.calm) v_max2 rfl x.free_max (sa_cons (se_var 10) (sa_cons (se_var 4) sa_nil)))) (sb_cons (ss_if (st_cmp op_isN v_is b_is (se_var 12) se_non) (sb_one (ss_set 9 G (se_callB (call_max2 G.calm) v_max2 rfl x.free_max (sa_cons (se_var 9) (sa_cons (se_ifE (st_cmp op_isN v_is b_is (se_var 5) se_non) se_int (se_bin op_addA v_add (se_var 5) se_int)) sa_nil))))) (sb_one (ss_if (st_not (st_val (se_callD [false, false, false] c_joins.up bd_joins G rfl x.glo_joins (sa_cons (se_var 1) (sa_cons (se_var 8) (sa_cons (se_var 2) sa_nil)))))) (sb_cons (ss_asg (ws := [14, 15]) (se_callD [false, false] c_arrivals.up bd_arrivals G rfl x.glo_arrivals (sa_cons (se_var 0) (sa_cons (se_var 12) sa_nil))) (sg_tup G.calm (sgs_cons (sg_name 14 G.nd) (sgs_cons (sg_name 15 G.nd) sgs_nil)))) (sb_cons (ss_set 13 G (se_and (se_cmp op_gt v_gt (se_var 8) se_int) (se_one (se_cmp op_isN v_is (se_ix (se_ix (se_var 1) (se_bin op_sub v_sub (se_var 8) se_int)) se_int) se_non)))) (sb_cons (ss_set 6 G (se_callB (call_max2 G.calm) v_max2 rfl x.free_max (sa_cons (se_var 14) (sa_cons (se_callD [false, false, false, false, false] c_least_arrival.up bd_least_arrival G rfl x.glo_least_arrival (sa_cons (se_var 0) (sa_cons (se_var 4) (sa_cons (se_var 5) (sa_cons (se_var 13) (sa_cons (se_var 3) sa_nil)))))) sa_nil)))) (sb_cons (ss_if (st_cmp op_gt v_gt b_I (se_var 6) (se_var 15)) (sb_one (ss_ret se_non)) sb_nil) (sb_one (ss_set 9 G (se_callB (call_max2 G.calm) v_max2 rfl x.free_max (sa_cons (se_var 9) (sa_cons (se_var 6) sa_nil))))))))) sb_nil))) (sb_cons (ss_if (st_cmp op_gt v_gt b_I (se_var 9) (se_var 11)) (sb_one (ss_ret se_non)) sb_nil) (sb_cons (ss_par 4 5 false G (sa_cons (se_var 9) (sa_cons (se_ifE (st_cmp op_isN v_is b_is (se_var 12) se_non) (se_var 5) (se_var 9)) sa_nil))) (sb_one (ss_expr (se_app (se_var 7) (se_tup (sa_cons (se_var 9) (sa_cons (se_ifE (st_cmp op_isN v_is b_is (se_var 12) se_non) se_non (se_var 6)) sa_nil))))))))))) (sb_one (ss_ret (se_var 7)))))
theorem bf_blocks_of_1 : BindDf d_blocks_of ["notes", "apart"] 1 0 := ⟨List.cons_ne_nil _ _, rfl, fun _ _ _ _ _ _ _ us its h1 h2 => match us, its, h1, h2 with | [_], [_], _, _ => ⟨_, rfl, rfl⟩⟩
theorem vc_blocks_of_0 (x : Fx K mg) : VC K [(.tup [])] ((d_blocks_of.dvs K).drop 0) := fun F => (.cons (.tup (tupAt_ok x.etup_blocks_of_0 F) .nil) .nil)
theorem sc_blocks_of : FnScope ["notes", "apart", "found", "index", "low", "high", "mark"] ["notes", "apart"] d_blocks_of.scope := ⟨rfl, rfl, rfl, by decide +kernel, rfl, by decide +kernel, by decide +kernel⟩
theorem ok_blocks_of (x : Fx K mg) (c_joins : FnB P w K mg base 1 d_joins ["notes", "index", "apart"] 3 den_joins) (D : ∃ fd, FunD K d_blocks_of.name d_blocks_of.qual d_blocks_of.params d_blocks_of.body d_blocks_of.scope (d_blocks_of.dvs K) (d_blocks_of.kws K) (d_blocks_of.at_ K) fd) : FnB P w K mg base 2 d_blocks_of ["notes", "apart"] 2 den_blocks_of := by
  refine fnB_of (k := 1) D sc_blocks_of rfl rfl fun cdv A outer s H E G => ?_
  unfold b_blocks_of
  exact (sb_cons (ss_set 2 G (se_lst sa_nil)) (sb_cons (ss_for (ws := [3, 4, 5, 6]) G (si_enum rfl x.free_enumerate (se_var 0)) (sg_tup G.calm (sgs_cons (sg_name 3 G.nd) (sgs_cons (sg_tup G.calm (sgs_cons (sg_name 4 G.nd) (sgs_cons (sg_name 5 G.nd) (sgs_cons (sg_name 6 G.nd) sgs_nil)))) sgs_nil))) (sb_one (ss_if (st_cmp op_notN v_isN b_isN (se_var 6) se_non) (sb_one (ss_if (st_val (se_callD [false, false, false] c_joins.up bd_joins G rfl x.glo_joins (sa_cons (se_var 0) (sa_cons (se_var 3) (sa_cons (se_var 1) sa_nil))))) (sb_one (ss_asg (ws := []) (se_tup (sa_cons (se_ix (se_ix (se_var 2) (se_neg se_int)) se_int) (sa_cons (se_var 3) sa_nil))) (sg_sb (se_var 2) (se_neg se_int)))) (sb_one (ss_expr (se_app (se_var 2) (se_tup (sa_cons (se_var 3) (sa_cons (se_var 3) sa_nil)))))))) sb_nil))) (sb_one (ss_ret (se_var 2)))))
theorem bd_some_stays : BindD d_some_stays ["rule", "notes"] := ⟨rfl, rfl, fun _ _ _ _ _ _ us hl => match us, hl with | [_, _], _ => rfl⟩
theorem bk_some_stays_0_notes_rule : BindK d_some_stays ["rule", "notes"] 0 ["notes", "rule"] [1, 0] := ⟨rfl, by decide, fun _ _ _ _ _ _ us ws h1 h2 => match us, ws, h1, h2 with | [], [_, _], _, _ => rfl⟩
theorem sc_some_stays : FnScope ["rule", "notes", "ways", "stays", "first", "last", "spot", "begin"] ["rule", "notes"] d_some_stays.scope := ⟨rfl, rfl, rfl, by decide +kernel, rfl, by decide +kernel, by decide +kernel⟩
theorem ok_some_stays (x : Fx K mg) (c_check_notes : FnB P w K mg base 6 d_check_notes ["rule", "value"] 2 den_check_notes) (c_ways_of : FnB P w K mg base 5 d_ways_of ["rule", "notes", "apart", "turning"] 4 den_ways_of) (c_blocks_of : FnB P w K mg base 2 d_blocks_of ["notes", "apart"] 2 den_blocks_of) (D : ∃ fd, FunD K d_some_stays.name d_some_stays.qual d_some_stays.params d_some_stays.body d_some_stays.scope (d_some_stays.dvs K) (d_some_stays.kws K) (d_some_stays.at_ K) fd) : FnB P w K mg base 7 d_some_stays ["rule", "notes"] 2 den_some_stays := by
  refine fnB_of (k := 6) D sc_some_stays rfl rfl fun cdv A outer s H E G => ?_
  unfold b_some_stays
  exact (sb_cons (ss_expr (se_callD [false, false] c_check_notes.up bd_check_notes G rfl x.glo_check_notes (sa_cons (se_var 0) (sa_cons (se_var 1) sa_nil)))) (sb_cons (ss_set 2 G (se_callDf [false, false, false, false] c_ways_of.up bf_ways_of_2 (vc_ways_of_0 x) G rfl x.glo_ways_of (sa_cons (se_var 0) (sa_cons (se_var 1) sa_nil)))) (sb_cons (ss_if (st_cmp op_isN v_is b_is (se_var 2) se_non) (sb_one (ss_ret se_non)) sb_nil) (sb_cons (ss_comp (own := [("first", 4), ("last", 5)]) 3 G (si_seq (se_callDf [false, false] c_blocks_of.up bf_blocks_of_1 (vc_blocks_of_0 x) G rfl x.glo_blocks_of (sa_cons (se_var 1) sa_nil))) (blkOk_by (by first | (show blkC ["rule", "notes", "ways", "stays", "first", "last", "spot", "begin"] d_some_stays.scope _ _ = true; decide +kernel) | kernel_rfl)) (fun _ _ _ _ _ => (sg_tup G.blk.calm (sgs_cons (sg_name 4 G.blk.nd) (sgs_cons (sg_name 5 G.blk.nd) sgs_nil)))) (fun _ _ _ _ _ => sts_nil) (fun _ _ _ _ _ => (se_tup (sa_cons (se_ix (se_ix (se_var 2) (se_var 4)) se_int) (sa_cons (se_ix (se_ix (se_var 2) (se_var 5)) se_int) sa_nil)))) (by first | rfl | decide +kernel)) (sb_one (ss_ret (se_tup (sa_cons (se_callT call_tuple_of v_tup rfl x.free_tuple (sa_cons (se_comp (own := [("spot", 6), ("begin", 7)]) G.calm G.nd (si_seq (se_var 2)) (blkOk_by (by first | (show blkC ["rule", "notes", "ways", "stays", "first", "last", "spot", "begin"] d_some_stays.scope _ _ = true; decide +kernel) | kernel_rfl)) (fun _ _ _ _ _ => (sg_tup G.blk.calm (sgs_cons (sg_name 6 G.blk.nd) (sgs_cons (sg_name 7 G.blk.nd) sgs_nil)))) (fun _ _ _ _ _ => sts_nil) (fun _ _ _ _ _ => (se_var 6))) sa_nil)) (sa_cons (se_callT call_tuple_of v_tup rfl x.free_tuple (sa_cons (se_var 3) sa_nil)) sa_nil)))))))))
theorem bd__law_sip : BindD d__law_sip ["_law_flask_here", "_law_top"] := ⟨rfl, rfl, fun _ _ _ _ _ _ us hl => match us, hl with | [_, _], _ => rfl⟩
theorem sc__law_sip : FnScope ["_law_flask_here", "_law_top", "_law_digit"] ["_law_flask_here", "_law_top"] d__law_sip.scope := ⟨rfl, rfl, rfl, by decide +kernel, rfl, by decide +kernel, by decide +kernel⟩
theorem ok__law_sip (x : Fx K mg)  (D : ∃ fd, FunD K d__law_sip.name d__law_sip.qual d__law_sip.params d__law_sip.body d__law_sip.scope (d__law_sip.dvs K) (d__law_sip.kws K) (d__law_sip.at_ K) fd) : FnB P w K mg base 1 d__law_sip ["_law_flask_here", "_law_top"] 2 den__law_sip := by
  refine fnB_of (k := 0) D sc__law_sip rfl rfl fun cdv A outer s H E G => ?_
  unfold b__law_sip
  exact (sb_cons (ss_asg (ws := []) (se_bin op_addA v_add (se_ix (se_var 0) se_int) se_int) (sg_sb (se_var 0) se_int)) (sb_cons (ss_if (st_cmp op_gt v_gt b_I (se_ix (se_var 0) se_int) se_int) (sb_cons (ss_set 2 G (se_bin op_mod v_mod (se_callT call_int1 v_int rfl x.free_int (sa_cons (se_ix (se_var 0) se_int) sa_nil)) (se_var 1))) (sb_cons (ss_asg (ws := []) (se_bin op_fdivW v_div (se_callT call_int1 v_int rfl x.free_int (sa_cons (se_ix (se_var 0) se_int) sa_nil)) (se_var 1)) (sg_sb (se_var 0) se_int)) (sb_one (ss_ret (se_var 2))))) sb_nil) (sb_cons (ss_asg (ws := []) (se_bin op_mod v_mod (se_callT call_int1 v_int rfl x.free_int (sa_cons (se_bin op_addA v_add (se_bin op_addA v_add (se_bin op_mulP v_mul (se_ix (se_var 0) se_int) se_int) (se_bin op_mulP v_mul se_int (se_ix (se_var 0) se_int))) se_int) sa_nil)) se_int) (sg_sb (se_var 0) se_int)) (sb_one (ss_ret (se_bin op_mod v_mod (se_callT call_int1 v_int rfl x.free_int (sa_cons (se_bin op_fdivW v_div (se_ix (se_var 0) se_int) se_int) sa_nil)) (se_var 1)))))))
theorem bd__law_pick : BindD d__law_pick ["_law_flask_here", "_law_menu"] := ⟨rfl, rfl, fun _ _ _ _ _ _ us hl => match us, hl with | [_, _], _ => rfl⟩
theorem sc__law_pick : FnScope ["_law_flask_here", "_law_menu"] ["_law_flask_here", "_law_menu"] d__law_pick.scope := ⟨rfl, rfl, rfl, by decide +kernel, rfl, by decide +kernel, by decide +kernel⟩
theorem ok__law_pick (x : Fx K mg) (c__law_sip : FnB P w K mg base 1 d__law_sip ["_law_flask_here", "_law_top"] 2 den__law_sip) (D : ∃ fd, FunD K d__law_pick.name d__law_pick.qual d__law_pick.params d__law_pick.body d__law_pick.scope (d__law_pick.dvs K) (d__law_pick.kws K) (d__law_pick.at_ K) fd) : FnB P w K mg base 2 d__law_pick ["_law_flask_here", "_law_menu"] 2 den__law_pick := by
  refine fnB_of (k := 1) D sc__law_pick rfl rfl fun cdv A outer s H E G => ?_
  unfold b__law_pick
  exact (sb_one (ss_ret (se_ix (se_var 1) (se_callD [true, false] c__law_sip.up bd__law_sip G rfl x.glo__law_sip (sa_cons (se_var 0) (sa_cons (se_callB c_len v_len rfl x.free_len (sa_cons (se_var 1) sa_nil)) sa_nil))))))
theorem bd__law_far : BindD d__law_far ["_law_flask_here", "_law_most"] := ⟨rfl, rfl, fun _ _ _ _ _ _ us hl => match us, hl with | [_, _], _ => rfl⟩
theorem sc__law_far : FnScope ["_law_flask_here", "_law_most", "_law_scale"] ["_law_flask_here", "_law_most"] d__law_far.scope := ⟨rfl, rfl, rfl, by decide +kernel, rfl, by decide +kernel, by decide +kernel⟩
theorem ok__law_far (x : Fx K mg) (c__law_sip : FnB P w K mg base 1 d__law_sip ["_law_flask_here", "_law_top"] 2 den__law_sip) (c__law_pick : FnB P w K mg base 2 d__law_pick ["_law_flask_here", "_law_menu"] 2 den__law_pick) (D : ∃ fd, FunD K d__law_far.name d__law_far.qual d__law_far.params d__law_far.body d__law_far.scope (d__law_far.dvs K) (d__law_far.kws K) (d__law_far.at_ K) fd) : FnB P w K mg base 3 d__law_far ["_law_flask_here", "_law_most"] 2 den__law_far := by
  refine fnB_of (k := 2) D sc__law_far rfl rfl fun cdv A outer s H E G => ?_
  unfold b__law_far
  exact (sb_cons (ss_if (st_cmp op_le v_le b_I (se_var 1) (se_bin op_pow v_pow se_int se_int)) (sb_one (ss_ret (se_bin op_addA v_add se_int (se_callD [true, false] c__law_sip.up bd__law_sip G rfl x.glo__law_sip (sa_cons (se_var 0) (sa_cons (se_var 1) sa_nil)))))) sb_nil) (sb_cons (ss_set 2 G (se_callD [true, false] c__law_pick.up bd__law_pick G rfl x.glo__law_pick (sa_cons (se_var 0) (sa_cons (se_lst (sa_cons se_int (sa_cons se_int (sa_cons (se_bin op_pow v_pow se_int se_int) (sa_cons (se_bin op_pow v_pow se_int se_int) (sa_cons (se_bin op_pow v_pow se_int se_int) (sa_cons (se_bin op_pow v_pow se_int se_int) (sa_cons (se_bin op_pow v_pow se_int se_int) (sa_cons (se_bin op_pow v_pow se_int se_int) sa_nil))))))))) sa_nil)))) (sb_one (ss_ret (se_bin op_addA v_add se_int (se_bin op_mod v_mod (se_callT call_int1 v_int rfl x.free_int (sa_cons (se_bin op_addA v_add (se_bin op_mulP v_mul (se_callD [true, false] c__law_sip.up bd__law_sip G rfl x.glo__law_sip (sa_cons (se_var 0) (sa_cons (se_bin op_pow v_pow se_int se_int) sa_nil))) (se_var 2)) (se_callD [true, false] c__law_sip.up bd__law_sip G rfl x.glo__law_sip (sa_cons (se_var 0) (sa_cons se_int sa_nil)))) sa_nil)) (se_var 1)))))))
theorem bd__law_plan : BindD d__law_plan ["_law_flask_here", "_law_most_step"] := ⟨rfl, rfl, fun _ _ _ _ _ _ us hl => match us, hl with | [_, _], _ => rfl⟩
theorem sc__law_plan : FnScope ["_law_flask_here", "_law_most_step", "_law_grid", "_law_free"] ["_law_flask_here", "_law_most_step"] d__law_plan.scope := ⟨rfl, rfl, rfl, by decide +kernel, rfl, by decide +kernel, by decide +kernel⟩
theorem ok__law_plan (x : Fx K mg) (c__law_pick : FnB P w K mg base 2 d__law_pick ["_law_flask_here", "_law_menu"] 2 den__law_pick) (c__law_far : FnB P w K mg base 3 d__law_far ["_law_flask_here", "_law_most"] 2 den__law_far) (c__law_sip : FnB P w K mg base 1 d__law_sip ["_law_flask_here", "_law_top"] 2 den__law_sip) (D : ∃ fd, FunD K d__law_plan.name d__law_plan.qual d__law_plan.params d__law_plan.body d__law_plan.scope (d__law_plan.dvs K) (d__law_plan.kws K) (d__law_plan.at_ K) fd) : FnB P w K mg base 4 d__law_plan ["_law_flask_here", "_law_most_step"] 2 den__law_plan := by
  refine fnB_of (k := 3) D sc__law_plan rfl rfl fun cdv A outer s H E G => ?_
  unfold b__law_plan
  exact (sb_cons (ss_set 2 G (se_callD [true, false] c__law_pick.up bd__law_pick G rfl x.glo__law_pick (sa_cons (se_var 0) (sa_cons (se_lst (sa_cons se_int (sa_cons se_int (sa_cons se_int (sa_cons se_int (sa_cons (se_callD [true, false] c__law_far.up bd__law_far G rfl x.glo__law_far (sa_cons (se_var 0) (sa_cons (se_var 1) sa_nil))) sa_nil)))))) sa_nil)))) (sb_cons (ss_set 3 G (se_bin op_addA v_add (se_var 2) (se_callD [true, false] c__law_pick.up bd__law_pick G rfl x.glo__law_pick (sa_cons (se_var 0) (sa_cons (se_lst (sa_cons se_int (sa_cons se_int (sa_cons se_int (sa_cons se_int (sa_cons (se_callD [true, false] c__law_sip.up bd__law_sip G rfl x.glo__law_sip (sa_cons (se_var 0) (sa_cons (se_bin op_addA v_add (se_bin op_mulP v_mul se_int (se_callB (call_min2 G.calm) v_min2 rfl x.free_min (sa_cons (se_var 2) (sa_cons (se_bin op_pow v_pow se_int se_int) sa_nil)))) se_int) sa_nil))) sa_nil)))))) sa_nil))))) (sb_one (ss_ret (se_lst (sa_cons (se_var 2) (sa_cons (se_callD [true, false] c__law_pick.up bd__law_pick G rfl x.glo__law_pick (sa_cons (se_var 0) (sa_cons (se_lst (sa_cons se_str (sa_cons se_str (sa_cons se_str sa_nil)))) sa_nil))) (sa_cons (se_var 3) (sa_cons (se_callD [true, false] c__law_pick.up bd__law_pick G rfl x.glo__law_pick (sa_cons (se_var 0) (sa_cons (se_lst (sa_cons se_int (sa_cons se_int (sa_cons se_int (sa_cons se_int (sa_cons se_int sa_nil)))))) sa_nil))) sa_nil)))))))))
theorem bd__law_mark : BindD d__law_mark ["_law_plan_here", "_law_a"] := ⟨rfl, rfl, fun _ _ _ _ _ _ us hl => match us, hl with | [_, _], _ => rfl⟩
theorem sc__law_mark : FnScope ["_law_plan_here", "_law_a", "_law_below"] ["_law_plan_here", "_law_a"] d__law_mark.scope := ⟨rfl, rfl, rfl, by decide +kernel, rfl, by decide +kernel, by decide +kernel⟩
theorem ok__law_mark (x : Fx K mg)  (D : ∃ fd, FunD K d__law_mark.name d__law_mark.qual d__law_mark.params d__law_mark.body d__law_mark.scope (d__law_mark.dvs K) (d__law_mark.kws K) (d__law_mark.at_ K) fd) : FnB P w K mg base 1 d__law_mark ["_law_plan_here", "_law_a"] 2 den__law_mark := by
  refine fnB_of (k := 0) D sc__law_mark rfl rfl fun cdv A outer s H E G => ?_
  unfold b__law_mark
  exact (sb_cons (ss_set 2 G (se_bin op_sub v_sub (se_var 1) (se_bin op_mod v_mod (se_callT call_int1 v_int rfl x.free_int (sa_cons (se_var 1) sa_nil)) (se_ix (se_var 0) se_int)))) (sb_cons (ss_if (st_w (sw_or (st_cmp (op_eqA G.room.units) v_eq b_eq (se_var 2) (se_var 1)) (sw_or1 (st_cmp (op_eqA G.room.units) v_eq b_eq (se_ix (se_var 0) se_int) se_str)))) (sb_one (ss_ret (se_var 2))) sb_nil) (sb_cons (ss_if (st_w (sw_or (st_cmp (op_eqA G.room.units) v_eq b_eq (se_ix (se_var 0) se_int) se_str) (sw_or1 (st_cmp op_ge v_ge b_I (se_bin op_mulP v_mul se_int (se_bin op_sub v_sub (se_var 1) (se_var 2))) (se_ix (se_var 0) se_int))))) (sb_one (ss_ret (se_bin op_addA v_add (se_var 2) (se_ix (se_var 0) se_int)))) sb_nil) (sb_one (ss_ret (se_var 2))))))
theorem bd__law_rows : BindD d__law_rows ["_law_flask_here", "_law_plan_here", "_law_many", "_law_wide"] := ⟨rfl, rfl, fun _ _ _ _ _ _ us hl => match us, hl with | [_, _, _, _], _ => rfl⟩
theorem sc__law_rows : FnScope ["_law_flask_here", "_law_plan_here", "_law_many", "_law_wide", "_law_turn", "_law_found", "_law_spot", "_law_grid", "_law_low", "_law_k", "_law_same", "_law_row"] ["_law_flask_here", "_law_plan_here", "_law_many", "_law_wide"] d__law_rows.scope := ⟨rfl, rfl, rfl, by decide +kernel, rfl, by decide +kernel, by decide +kernel⟩
theorem ok__law_rows (x : Fx K mg) (c__law_sip : FnB P w K mg base 1 d__law_sip ["_law_flask_here", "_law_top"] 2 den__law_sip) (c__law_pick : FnB P w K mg base 2 d__law_pick ["_law_flask_here", "_law_menu"] 2 den__law_pick) (c__law_mark : FnB P w K mg base 1 d__law_mark ["_law_plan_here", "_law_a"] 2 den__law_mark) (D : ∃ fd, FunD K d__law_rows.name d__law_rows.qual d__law_rows.params d__law_rows.body d__law_rows.scope (d__law_rows.dvs K) (d__law_rows.kws K) (d__law_rows.at_ K) fd) : FnB P w K mg base 3 d__law_rows ["_law_flask_here", "_law_plan_here", "_law_many", "_law_wide"] 4 den__law_rows := by
  refine fnB_of (k := 2) D sc__law_rows rfl rfl fun cdv A outer s H E G => ?_
  unfold b__law_rows
  exact (sb_cons (ss_par3 5 6 7 false G (sa_cons (se_lst sa_nil) (sa_cons (se_callD [true, false] c__law_sip.up bd__law_sip G rfl x.glo__law_sip (sa_cons (se_var 0) (sa_cons se_int sa_nil))) (sa_cons (se_ix (se_var 1) se_int) sa_nil)))) (sb_cons (ss_for (ws := [4]) G (si_rng1 rfl x.free_range (se_bin op_addA v_add se_int (se_callD [true, false] c__law_sip.up bd__law_sip G rfl x.glo__law_sip (sa_cons (se_var 0) (sa_cons (se_var 2) sa_nil))))) (sg_name 4 G.nd) (sb_cons (ss_set 6 G (se_bin op_addA v_add (se_var 6) (se_callD [true, false] c__law_pick.up bd__law_pick G rfl x.glo__law_pick (sa_cons (se_var 0) (sa_cons (se_lst (sa_cons se_int (sa_cons se_int (sa_cons se_int (sa_cons se_int (sa_cons (se_var 7) (sa_cons (se_ix (se_var 1) se_int) sa_nil))))))) sa_nil))))) (sb_cons (ss_set 8 G (se_callB (call_max2 G.calm) v_max2 rfl x.free_max (sa_cons se_int (sa_cons (se_bin op_sub v_sub (se_var 6) (se_callD [true, false] c__law_sip.up bd__law_sip G rfl x.glo__law_sip (sa_cons (se_var 0) (sa_cons se_int sa_nil)))) sa_nil)))) (sb_cons (ss_set 9 G (se_callD [false, false] c__law_mark.up bd__law_mark G rfl x.glo__law_mark (sa_cons (se_var 1) (sa_cons (se_callB (call_max2 G.calm) v_max2 rfl x.free_max (sa_cons se_int (sa_cons (se_bin op_sub v_sub (se_var 6) (se_callD [true, false] c__law_pick.up bd__law_pick G rfl x.glo__law_pick (sa_cons (se_var 0) (sa_cons (se_lst (sa_cons se_int (sa_cons se_int (sa_cons se_int (sa_cons se_int (sa_cons (se_var 7) sa_nil)))))) sa_nil)))) sa_nil))) sa_nil)))) (sb_cons (ss_comp (own := [("_law_row", 11)]) 10 G (si_seq (se_slice (se_var 5) (so_some (se_neg se_int)) so_none)) (blkOk_by (by first | (show blkC ["_law_flask_here", "_law_plan_here", "_law_many", "_law_wide", "_law_turn", "_law_found", "_law_spot", "_law_grid", "_law_low", "_law_k", "_law_same", "_law_row"] d__law_rows.scope _ _ = true; decide +kernel) | kernel_rfl)) (fun _ _ _ _ _ => (sg_name 11 G.blk.nd)) (fun _ _ _ _ _ => (sts_one (st_cmp op_notN v_isN b_isN (se_ix (se_var 11) se_int) se_non))) (fun _ _ _ _ _ => (se_ix (se_var 11) se_int)) (by first | rfl | decide +kernel)) (sb_cons (ss_set 9 G (se_ifE (st_cmp op_gt v_gt b_I (se_callD [true, false] c__law_sip.up bd__law_sip G rfl x.glo__law_sip (sa_cons (se_var 0) (sa_cons se_int sa_nil))) se_int) (se_callD [true, false] c__law_pick.up bd__law_pick G rfl x.glo__law_pick (sa_cons (se_var 0) (sa_cons (se_bin op_addA v_add (se_var 10) (se_lst (sa_cons (se_var 9) sa_nil))) sa_nil))) se_non)) (sb_one (ss_expr (se_app (se_var 5) (se_tup (sa_cons (se_var 8) (sa_cons (se_bin op_addA v_add (se_var 8) (se_callD [true, false] c__law_sip.up bd__law_sip G rfl x.glo__law_sip (sa_cons (se_var 0) (sa_cons (se_var 3) sa_nil)))) (sa_cons (se_var 9) sa_nil))))))))))))) (sb_one (ss_ret (se_callT call_tuple_of v_tup rfl x.free_tuple (sa_cons (se_var 5) sa_nil))))))
theorem bd__law_made : BindD d__law_made ["_law_plan_here"] := ⟨rfl, rfl, fun _ _ _ _ _ _ us hl => match us, hl with | [_], _ => rfl⟩
theorem sc__law_made : FnScope ["_law_plan_here"] ["_law_plan_here"] d__law_made.scope := ⟨rfl, rfl, rfl, by decide +kernel, rfl, by decide +kernel, by decide +kernel⟩
theorem ok__law_made (x : Fx K mg) (c_Rule____init__ : FnB P w K mg base 4 d_Rule____init__ ["self", "step", "setting", "limit", "pause"] 5 den_Rule____init__) (D : ∃ fd, FunD K d__law_made.name d__law_made.qual d__law_made.params d__law_made.body d__law_made.scope (d__law_made.dvs K) (d__law_made.kws K) (d__law_made.at_ K) fd) : FnB P w K mg base 6 d__law_made ["_law_plan_here"] 1 den__law_made := by
  refine fnB_of (k := 5) D sc__law_made rfl rfl fun cdv A outer s H E G => ?_
  unfold b__law_made
  exact (sb_one (ss_ret (se_makeD (k := 4) (d := d_Rule____init__) [false, false, false, false] x.mkr_Rule c_Rule____init__.up bd_Rule____init__ G rfl x.glo_Rule (sa_cons (se_ix (se_var 0) se_int) (sa_cons (se_ix (se_var 0) se_int) (sa_cons (se_ix (se_var 0) se_int) (sa_cons (se_ix (se_var 0) se_int) sa_nil)))))))
theorem bf_fits_2 : BindDf d_fits ["rule", "notes", "turning"] 2 0 := ⟨List.cons_ne_nil _ _, rfl, fun _ _ _ _ _ _ _ us its h1 h2 => match us, its, h1, h2 with | [_, _], [_], _, _ => ⟨_, rfl, rfl⟩⟩
theorem vc_fits_0 (x : Fx K mg) : VC K [(.bl false)] ((d_fits.dvs K).drop 0) := fun F => (.cons (.bl _) .nil)
theorem sc_fits : FnScope ["rule", "notes", "turning"] ["rule", "notes", "turning"] d_fits.scope := ⟨rfl, rfl, rfl, by decide +kernel, rfl, by decide +kernel, by decide +kernel⟩
theorem ok_fits (x : Fx K mg) (c_check_notes : FnB P w K mg base 6 d_check_notes ["rule", "value"] 2 den_check_notes) (c_ways_of : FnB P w K mg base 5 d_ways_of ["rule", "notes", "apart", "turning"] 4 den_ways_of) (D : ∃ fd, FunD K d_fits.name d_fits.qual d_fits.params d_fits.body d_fits.scope (d_fits.dvs K) (d_fits.kws K) (d_fits.at_ K) fd) : FnB P w K mg base 7 d_fits ["rule", "notes", "turning"] 3 den_fits := by
  refine fnB_of (k := 6) D sc_fits rfl rfl fun cdv A outer s H E G => ?_
  unfold b_fits
  exact (sb_cons (ss_expr (se_callD [false, false] c_check_notes.up bd_check_notes G rfl x.glo_check_notes (sa_cons (se_var 0) (sa_cons (se_var 1) sa_nil)))) (sb_cons (ss_if (st_not (st_val (se_callB call_isi (v_isi x.isi) rfl x.free_isinstance (sa_cons (se_var 2) (sa_cons (se_ty rfl x.free_bool) sa_nil))))) (sb_one ss_bad) sb_nil) (sb_one (ss_ret (se_cmp op_notN v_isN (se_callDf [false, false, false, false] c_ways_of.up bf_ways_of_4 (vc_ways_of_2 x) G rfl x.glo_ways_of (sa_cons (se_var 0) (sa_cons (se_var 1) (sa_cons (se_tup sa_nil) (sa_cons (se_var 2) sa_nil))))) se_non)))))
theorem bd__law_fitting : BindD d__law_fitting ["_law_plan_here", "_law_rows_here", "_law_xs", "_law_stays_here"] := ⟨rfl, rfl, fun _ _ _ _ _ _ us hl => match us, hl with | [_, _, _, _], _ => rfl⟩
theorem sc__law_fitting : FnScope ["_law_plan_here", "_law_rows_here", "_law_xs", "_law_stays_here", "_law_k", "_law_x", "_law_row", "_law_here", "_law_a", "_law_d", "_law_stay"] ["_law_plan_here", "_law_rows_here", "_law_xs", "_law_stays_here"] d__law_fitting.scope := ⟨rfl, rfl, rfl, by decide +kernel, rfl, by decide +kernel, by decide +kernel⟩
theorem ok__law_fitting (x : Fx K mg) (c__law_mark : FnB P w K mg base 1 d__law_mark ["_law_plan_here", "_law_a"] 2 den__law_mark) (D : ∃ fd, FunD K d__law_fitting.name d__law_fitting.qual d__law_fitting.params d__law_fitting.body d__law_fitting.scope (d__law_fitting.dvs K) (d__law_fitting.kws K) (d__law_fitting.at_ K) fd) : FnB P w K mg base 2 d__law_fitting ["_law_plan_here", "_law_rows_here", "_law_xs", "_law_stays_here"] 4 den__law_fitting := by
  refine fnB_of (k := 1) D sc__law_fitting rfl rfl fun cdv A outer s H E G => ?_
  unfold b__law_fitting
  exact (sb_cons (ss_if (st_w (sw_or (st_cmp (op_neA G.room.units) v_ne b_ne (se_callB c_len v_len rfl x.free_len (sa_cons (se_var 2) sa_nil)) (se_callB c_len v_len rfl x.free_len (sa_cons (se_var 1) sa_nil))) (sw_or1 (st_cmp (op_neA G.room.units) v_ne b_ne (se_callT call_list_of v_lst rfl x.free_list (sa_cons (se_var 2) sa_nil)) (se_sortT rfl x.free_sorted (se_var 2)))))) (sb_one (ss_ret se_bl)) sb_nil) (sb_cons (ss_for (ws := [4]) G (si_rng1 rfl x.free_range (se_callB c_len v_len rfl x.free_len (sa_cons (se_var 3) sa_nil))) (sg_name 4 G.nd) (sb_cons (ss_asg (ws := [8, 9]) (se_ix (se_var 3) (se_var 4)) (sg_tup G.calm (sgs_cons (sg_name 8 G.nd) (sgs_cons (sg_name 9 G.nd) sgs_nil)))) (sb_one (ss_if (st_w (sw_or (st_cmp op_lt v_lt b_I (se_var 8) se_int) (sw_or (st_cmp op_lt v_lt b_I (se_var 9) (se_var 8)) (sw_or1 (st_w (sw_and (st_cmp op_gt v_gt b_I (se_var 4) se_int) (sw_and1 (st_cmp op_lt v_lt b_I (se_var 8) (se_bin op_addA v_add (se_ix (se_ix (se_var 3) (se_bin op_sub v_sub (se_var 4) se_int)) se_int) (se_ix (se_var 0) se_int)))))))))) (sb_one (ss_ret se_bl)) sb_nil)))) (sb_cons (ss_for (ws := [5, 6]) G (si_zip rfl x.free_zip (sa_cons (se_var 2) (sa_cons (se_var 1) sa_nil))) (sg_tup G.calm (sgs_cons (sg_name 5 G.nd) (sgs_cons (sg_name 6 G.nd) sgs_nil))) (sb_cons (ss_comp (own := [("_law_stay", 10)]) 7 G (si_seq (se_var 3)) (blkOk_by (by first | (show blkC ["_law_plan_here", "_law_rows_here", "_law_xs", "_law_stays_here", "_law_k", "_law_x", "_law_row", "_law_here", "_law_a", "_law_d", "_law_stay"] d__law_fitting.scope _ _ = true; decide +kernel) | kernel_rfl)) (fun _ _ _ _ _ => (sg_name 10 G.blk.nd)) (fun _ _ _ _ _ => (sts_one (st_chain op_le op_le v_le v_le b_I (se_ix (se_var 10) se_int) (se_var 5) (se_ix (se_var 10) se_int)))) (fun _ _ _ _ _ => (se_callD [false, false] c__law_mark.up bd__law_mark G.blk rfl x.glo__law_mark (sa_cons (se_var 0) (sa_cons (se_ix (se_var 10) se_int) sa_nil)))) (by first | rfl | decide +kernel)) (sb_one (ss_if (st_w (sw_or (st_not (st_chain op_le op_le v_le v_le b_I (se_ix (se_var 6) se_int) (se_var 5) (se_ix (se_var 6) se_int))) (sw_or1 (st_cmp (op_neA G.room.units) v_ne b_ne (se_var 7) (se_ifE (st_cmp op_isN v_is b_is (se_ix (se_var 6) se_int) se_non) (se_lst sa_nil) (se_lst (sa_cons (se_ix (se_var 6) se_int) sa_nil))))))) (sb_one (ss_ret se_bl)) sb_nil)))) (sb_one (ss_ret se_bl)))))
theorem bd_are_minutes : BindD d_are_minutes ["notes", "value"] := ⟨rfl, rfl, fun _ _ _ _ _ _ us hl => match us, hl with | [_, _], _ => rfl⟩
theorem sc_are_minutes : FnScope ["notes", "value", "one", "other", "spot", "low", "high", "mark"] ["notes", "value"] d_are_minutes.scope := ⟨rfl, rfl, rfl, by decide +kernel, rfl, by decide +kernel, by decide +kernel⟩
theorem ok_are_minutes (x : Fx K mg) (c_is_integer : FnB P w K mg base 1 d_is_integer ["value"] 1 den_is_integer) (D : ∃ fd, FunD K d_are_minutes.name d_are_minutes.qual d_are_minutes.params d_are_minutes.body d_are_minutes.scope (d_are_minutes.dvs K) (d_are_minutes.kws K) (d_are_minutes.at_ K) fd) : FnB P w K mg base 2 d_are_minutes ["notes", "value"] 2 den_are_minutes := by
  refine fnB_of (k := 1) D sc_are_minutes rfl rfl fun cdv A outer s H E G => ?_
  unfold b_are_minutes
  exact (sb_cons (ss_if (st_w (sw_or (st_not (st_val (se_callB call_isi (v_isi x.isi) rfl x.free_isinstance (sa_cons (se_var 1) (sa_cons (se_ty rfl x.free_tuple) sa_nil))))) (sw_or (st_cmp (op_neA G.room.units) v_ne b_ne (se_callB c_len v_len rfl x.free_len (sa_cons (se_var 1) sa_nil)) (se_callB c_len v_len rfl x.free_len (sa_cons (se_var 0) sa_nil))) (sw_or1 (st_not (st_val (se_callB (cr_all G.calm) v_all rfl x.free_all (sa_cons (se_comp (own := [("spot", 4)]) G.calm G.nd (si_seq (se_var 1)) (blkOk_by (by first | (show blkC ["notes", "value", "one", "other", "spot", "low", "high", "mark"] d_are_minutes.scope _ _ = true; decide +kernel) | kernel_rfl)) (fun _ _ _ _ _ => (sg_name 4 G.blk.nd)) (fun _ _ _ _ _ => sts_nil) (fun _ _ _ _ _ => (se_callD [false] c_is_integer.up bd_is_integer G.blk rfl x.glo_is_integer (sa_cons (se_var 4) sa_nil)))) sa_nil)))))))) (sb_one (ss_ret se_bl)) sb_nil) (sb_cons (ss_if (st_not (st_val (se_callB (cr_all G.calm) v_all rfl x.free_all (sa_cons (se_comp (own := [("spot", 4), ("low", 5), ("high", 6), ("mark", 7)]) G.calm G.nd (si_zip rfl x.free_zip (sa_cons (se_var 1) (sa_cons (se_var 0) sa_nil))) (blkOk_by (by first | (show blkC ["notes", "value", "one", "other", "spot", "low", "high", "mark"] d_are_minutes.scope _ _ = true; decide +kernel) | kernel_rfl)) (fun _ _ _ _ _ => (sg_tup G.blk.calm (sgs_cons (sg_name 4 G.blk.nd) (sgs_cons (sg_tup G.blk.calm (sgs_cons (sg_name 5 G.blk.nd) (sgs_cons (sg_name 6 G.blk.nd) (sgs_cons (sg_name 7 G.blk.nd) sgs_nil)))) sgs_nil)))) (fun _ _ _ _ _ => sts_nil) (fun _ _ _ _ _ => (se_chain op_le op_le v_le v_le (se_var 5) (se_var 4) (se_var 6)))) sa_nil)))) (sb_one (ss_ret se_bl)) sb_nil) (sb_one (ss_ret (se_callB (cr_all G.calm) v_all rfl x.free_all (sa_cons (se_comp (own := [("one", 2), ("other", 3)]) G.calm G.nd (si_zip rfl x.free_zip (sa_cons (se_var 1) (sa_cons (se_slice (se_var 1) (so_some se_int) so_none) sa_nil))) (blkOk_by (by first | (show blkC ["notes", "value", "one", "other", "spot", "low", "high", "mark"] d_are_minutes.scope _ _ = true; decide +kernel) | kernel_rfl)) (fun _ _ _ _ _ => (sg_tup G.blk.calm (sgs_cons (sg_name 2 G.blk.nd) (sgs_cons (sg_name 3 G.blk.nd) sgs_nil)))) (fun _ _ _ _ _ => sts_nil) (fun _ _ _ _ _ => (se_cmp op_le v_le (se_var 2) (se_var 3)))) sa_nil))))))
theorem bd_are_stays : BindD d_are_stays ["rule", "value"] := ⟨rfl, rfl, fun _ _ _ _ _ _ us hl => match us, hl with | [_, _], _ => rfl⟩
theorem sc_are_stays : FnScope ["rule", "value", "least", "stay"] ["rule", "value"] d_are_stays.scope := ⟨rfl, rfl, rfl, by decide +kernel, rfl, by decide +kernel, by decide +kernel⟩
theorem ok_are_stays (x : Fx K mg) (c_is_integer : FnB P w K mg base 1 d_is_integer ["value"] 1 den_is_integer) (c_Rule__pause : FnB P w K mg base 1 d_Rule__pause ["self"] 1 den_Rule__pause) (D : ∃ fd, FunD K d_are_stays.name d_are_stays.qual d_are_stays.params d_are_stays.body d_are_stays.scope (d_are_stays.dvs K) (d_are_stays.kws K) (d_are_stays.at_ K) fd) : FnB P w K mg base 3 d_are_stays ["rule", "value"] 2 den_are_stays := by
  refine fnB_of (k := 2) D sc_are_stays rfl rfl fun cdv A outer s H E G => ?_
  unfold b_are_stays
  exact (sb_cons (ss_if (st_not (st_val (se_callB call_isi (v_isi x.isi) rfl x.free_isinstance (sa_cons (se_var 1) (sa_cons (se_ty rfl x.free_tuple) sa_nil))))) (sb_one (ss_ret se_bl)) sb_nil) (sb_cons (ss_set 2 G se_int) (sb_cons (ss_for (ws := [3]) G (si_seq (se_var 1)) (sg_name 3 G.nd) (sb_cons (ss_if (st_w (sw_or (st_not (st_val (se_callB call_isi (v_isi x.isi) rfl x.free_isinstance (sa_cons (se_var 3) (sa_cons (se_ty rfl x.free_tuple) sa_nil))))) (sw_or (st_cmp (op_neA G.room.units) v_ne b_ne (se_callB c_len v_len rfl x.free_len (sa_cons (se_var 3) sa_nil)) se_int) (sw_or (st_not (st_val (se_callD [false] c_is_integer.up bd_is_integer G rfl x.glo_is_integer (sa_cons (se_ix (se_var 3) se_int) sa_nil)))) (sw_or1 (st_not (st_val (se_callD [false] c_is_integer.up bd_is_integer G rfl x.glo_is_integer (sa_cons (se_ix (se_var 3) se_int) sa_nil))))))))) (sb_one (ss_ret se_bl)) sb_nil) (sb_cons (ss_if (st_not (st_chain op_le op_le v_le v_le b_I (se_var 2) (se_ix (se_var 3) se_int) (se_ix (se_var 3) se_int))) (sb_one (ss_ret se_bl)) sb_nil) (sb_one (ss_set 2 G (se_bin op_addA v_add (se_ix (se_var 3) se_int) (se_propD (k := 1) (d := d_Rule__pause) (se_var 0) x.cls_Rule x.prop_Rule_pause c_Rule__pause.up bd_Rule__pause G))))))) (sb_one (ss_ret se_bl)))))
theorem bd_mark_at : BindD d_mark_at ["rule", "arrival"] := ⟨rfl, rfl, fun _ _ _ _ _ _ us hl => match us, hl with | [_, _], _ => rfl⟩
theorem sc_mark_at : FnScope ["rule", "arrival", "low"] ["rule", "arrival"] d_mark_at.scope := ⟨rfl, rfl, rfl, by decide +kernel, rfl, by decide +kernel, by decide +kernel⟩
theorem ok_mark_at (x : Fx K mg) (c_reach : FnB P w K mg base 3 d_reach ["rule"] 1 den_reach) (c_Rule__step : FnB P w K mg base 1 d_Rule__step ["self"] 1 den_Rule__step) (D : ∃ fd, FunD K d_mark_at.name d_mark_at.qual d_mark_at.params d_mark_at.body d_mark_at.scope (d_mark_at.dvs K) (d_mark_at.kws K) (d_mark_at.at_ K) fd) : FnB P w K mg base 4 d_mark_at ["rule", "arrival"] 2 den_mark_at := by
  refine fnB_of (k := 3) D sc_mark_at rfl rfl fun cdv A outer s H E G => ?_
  unfold b_mark_at
  exact (sb_cons (ss_set 2 G (se_ix (se_callD [false] c_reach.up bd_reach G rfl x.glo_reach (sa_cons (se_var 0) sa_nil)) se_int)) (sb_one (ss_ret (se_bin op_addA v_add (se_bin op_addA v_add (se_var 1) (se_var 2)) (se_bin op_mod v_mod (se_bin op_sub v_sub (se_neg (se_var 1)) (se_var 2)) (se_propD (k := 2) (d := d_Rule__step) (se_var 0) x.cls_Rule x.prop_Rule_step c_Rule__step.up bd_Rule__step G))))))
theorem bd_do_fit : BindD d_do_fit ["rule", "notes", "minutes", "stays"] := ⟨rfl, rfl, fun _ _ _ _ _ _ us hl => match us, hl with | [_, _, _, _], _ => rfl⟩
theorem sc_do_fit : FnScope ["rule", "notes", "minutes", "stays", "spot", "marks", "low", "high", "mark", "begin", "end"] ["rule", "notes", "minutes", "stays"] d_do_fit.scope := ⟨rfl, rfl, rfl, by decide +kernel, rfl, by decide +kernel, by decide +kernel⟩
theorem ok_do_fit (x : Fx K mg) (c_check_notes : FnB P w K mg base 6 d_check_notes ["rule", "value"] 2 den_check_notes) (c_are_minutes : FnB P w K mg base 2 d_are_minutes ["notes", "value"] 2 den_are_minutes) (c_are_stays : FnB P w K mg base 3 d_are_stays ["rule", "value"] 2 den_are_stays) (c_mark_at : FnB P w K mg base 4 d_mark_at ["rule", "arrival"] 2 den_mark_at) (D : ∃ fd, FunD K d_do_fit.name d_do_fit.qual d_do_fit.params d_do_fit.body d_do_fit.scope (d_do_fit.dvs K) (d_do_fit.kws K) (d_do_fit.at_ K) fd) : FnB P w K mg base 7 d_do_fit ["rule", "notes", "minutes", "stays"] 4 den_do_fit := by
  refine fnB_of (k := 6) D sc_do_fit rfl rfl fun cdv A outer s H E G => ?_
  unfold b_do_fit
  exact (sb_cons (ss_expr (se_callD [false, false] c_check_notes.up bd_check_notes G rfl x.glo_check_notes (sa_cons (se_var 0) (sa_cons (se_var 1) sa_nil)))) (sb_cons (ss_if (st_w (sw_or (st_not (st_val (se_callD [false, false] c_are_minutes.up bd_are_minutes G rfl x.glo_are_minutes (sa_cons (se_var 1) (sa_cons (se_var 2) sa_nil))))) (sw_or1 (st_not (st_val (se_callD [false, false] c_are_stays.up bd_are_stays G rfl x.glo_are_stays (sa_cons (se_var 0) (sa_cons (se_var 3) sa_nil)))))))) (sb_one (ss_ret se_bl)) sb_nil) (sb_cons (ss_for (ws := [4, 6, 7, 8]) G (si_zip rfl x.free_zip (sa_cons (se_var 2) (sa_cons (se_var 1) sa_nil))) (sg_tup G.calm (sgs_cons (sg_name 4 G.nd) (sgs_cons (sg_tup G.calm (sgs_cons (sg_name 6 G.nd) (sgs_cons (sg_name 7 G.nd) (sgs_cons (sg_name 8 G.nd) sgs_nil)))) sgs_nil))) (sb_cons (ss_comp (own := [("begin", 9), ("end", 10)]) 5 G (si_seq (se_var 3)) (blkOk_by (by first | (show blkC ["rule", "notes", "minutes", "stays", "spot", "marks", "low", "high", "mark", "begin", "end"] d_do_fit.scope _ _ = true; decide +kernel) | kernel_rfl)) (fun _ _ _ _ _ => (sg_tup G.blk.calm (sgs_cons (sg_name 9 G.blk.nd) (sgs_cons (sg_name 10 G.blk.nd) sgs_nil)))) (fun _ _ _ _ _ => (sts_one (st_chain op_le op_le v_le v_le b_I (se_var 9) (se_var 4) (se_var 10)))) (fun _ _ _ _ _ => (se_callD [false, false] c_mark_at.up bd_mark_at G.blk rfl x.glo_mark_at (sa_cons (se_var 0) (sa_cons (se_var 9) sa_nil)))) (by first | rfl | decide +kernel)) (sb_one (ss_if (st_cmp (op_neA G.room.units) v_ne b_ne (se_var 5) (se_ifE (st_cmp op_isN v_is b_is (se_var 8) se_non) (se_lst sa_nil) (se_lst (sa_cons (se_var 8) sa_nil)))) (sb_one (ss_ret se_bl)) sb_nil)))) (sb_one (ss_ret se_bl)))))
theorem bd__law_minutes : BindD d__law_minutes ["_law_rows_here"] := ⟨rfl, rfl, fun _ _ _ _ _ _ us hl => match us, hl with | [_], _ => rfl⟩
theorem sc__law_minutes : FnScope ["_law_rows_here", "_law_found", "_law_low", "_law_high", "_law_k", "_law_fresh", "_law_line", "_law_begin", "_law_x"] ["_law_rows_here"] d__law_minutes.scope := ⟨rfl, rfl, rfl, by decide +kernel, rfl, by decide +kernel, by decide +kernel⟩
theorem ok__law_minutes (x : Fx K mg)  (D : ∃ fd, FunD K d__law_minutes.name d__law_minutes.qual d__law_minutes.params d__law_minutes.body d__law_minutes.scope (d__law_minutes.dvs K) (d__law_minutes.kws K) (d__law_minutes.at_ K) fd) : FnB P w K mg base 1 d__law_minutes ["_law_rows_here"] 1 den__law_minutes := by
  refine fnB_of (k := 0) D sc__law_minutes rfl rfl fun cdv A outer s H E G => ?_
  unfold b__law_minutes
  exact (sb_cons (ss_set 1 G (se_lst (sa_cons (se_tup sa_nil) sa_nil))) (sb_cons (ss_for (ws := [2, 3, 4]) G (si_seq (se_var 0)) (sg_tup G.calm (sgs_cons (sg_name 2 G.nd) (sgs_cons (sg_name 3 G.nd) (sgs_cons (sg_name 4 G.nd) sgs_nil)))) (sb_cons (ss_set 5 G (se_lst sa_nil)) (sb_cons (ss_for (ws := [6]) G (si_seq (se_var 1)) (sg_name 6 G.nd) (sb_cons (ss_set 7 G (se_ifE (st_cmp (op_neA G.room.units) v_ne b_ne (se_var 6) (se_tup sa_nil)) (se_callB (call_max2 G.calm) v_max2 rfl x.free_max (sa_cons (se_var 2) (sa_cons (se_ix (se_var 6) (se_neg se_int)) sa_nil))) (se_var 2))) (sb_one (ss_set 5 G (se_bin op_addA v_add (se_var 5) (se_comp (own := [("_law_x", 8)]) G.calm G.nd (si_rng2 rfl x.free_range (se_var 7) (se_bin op_addA v_add (se_var 3) se_int)) (blkOk_by (by first | (show blkC ["_law_rows_here", "_law_found", "_law_low", "_law_high", "_law_k", "_law_fresh", "_law_line", "_law_begin", "_law_x"] d__law_minutes.scope _ _ = true; decide +kernel) | kernel_rfl)) (fun _ _ _ _ _ => (sg_name 8 G.blk.nd)) (fun _ _ _ _ _ => sts_nil) (fun _ _ _ _ _ => (se_bin op_addA v_add (se_var 6) (se_tup (sa_cons (se_var 8) sa_nil)))))))))) (sb_one (ss_set 1 G (se_var 5)))))) (sb_one (ss_ret (se_var 1)))))
theorem bd__law_cuts : BindD d__law_cuts ["_law_rows_here"] := ⟨rfl, rfl, fun _ _ _ _ _ _ us hl => match us, hl with | [_], _ => rfl⟩
theorem sc__law_cuts : FnScope ["_law_rows_here", "_law_found", "_law_k", "_law_may", "_law_fresh", "_law_line"] ["_law_rows_here"] d__law_cuts.scope := ⟨rfl, rfl, rfl, by decide +kernel, rfl, by decide +kernel, by decide +kernel⟩
theorem ok__law_cuts (x : Fx K mg)  (D : ∃ fd, FunD K d__law_cuts.name d__law_cuts.qual d__law_cuts.params d__law_cuts.body d__law_cuts.scope (d__law_cuts.dvs K) (d__law_cuts.kws K) (d__law_cuts.at_ K) fd) : FnB P w K mg base 1 d__law_cuts ["_law_rows_here"] 1 den__law_cuts := by
  refine fnB_of (k := 0) D sc__law_cuts rfl rfl fun cdv A outer s H E G => ?_
  unfold b__law_cuts
  exact (sb_cons (ss_set 1 G (se_lst (sa_cons (se_lst sa_nil) sa_nil))) (sb_cons (ss_for (ws := [2]) G (si_rng1 rfl x.free_range (se_callB c_len v_len rfl x.free_len (sa_cons (se_var 0) sa_nil))) (sg_name 2 G.nd) (sb_cons (ss_set 3 G (se_and (se_cmp op_gt v_gt (se_var 2) se_int) (se_and (se_cmp op_notN v_isN (se_ix (se_ix (se_var 0) (se_var 2)) se_int) se_non) (se_one (se_cmp (op_eqA G.room.units) v_eq (se_ix (se_ix (se_var 0) (se_var 2)) se_int) (se_ix (se_ix (se_var 0) (se_bin op_sub v_sub (se_var 2) se_int)) se_int)))))) (sb_cons (ss_set 4 G (se_lst sa_nil)) (sb_cons (ss_for (ws := [5]) G (si_seq (se_var 1)) (sg_name 5 G.nd) (sb_one (ss_set 4 G (se_bin op_addA v_add (se_var 4) (se_ifE (st_val (se_var 3)) (se_lst (sa_cons (se_bin op_addA v_add (se_var 5) (se_lst (sa_cons se_int sa_nil))) (sa_cons (se_bin op_addA v_add (se_var 5) (se_lst (sa_cons se_int sa_nil))) sa_nil))) (se_lst (sa_cons (se_bin op_addA v_add (se_var 5) (se_lst (sa_cons se_int sa_nil))) sa_nil))))))) (sb_one (ss_set 1 G (se_var 4))))))) (sb_one (ss_ret (se_var 1)))))
theorem bd__law_span : BindD d__law_span ["_law_plan_here", "_law_k"] := ⟨rfl, rfl, fun _ _ _ _ _ _ us hl => match us, hl with | [_, _], _ => rfl⟩
theorem sc__law_span : FnScope ["_law_plan_here", "_law_k", "_law_grid"] ["_law_plan_here", "_law_k"] d__law_span.scope := ⟨rfl, rfl, rfl, by decide +kernel, rfl, by decide +kernel, by decide +kernel⟩
theorem ok__law_span (x : Fx K mg)  (D : ∃ fd, FunD K d__law_span.name d__law_span.qual d__law_span.params d__law_span.body d__law_span.scope (d__law_span.dvs K) (d__law_span.kws K) (d__law_span.at_ K) fd) : FnB P w K mg base 1 d__law_span ["_law_plan_here", "_law_k"] 2 den__law_span := by
  refine fnB_of (k := 0) D sc__law_span rfl rfl fun cdv A outer s H E G => ?_
  unfold b__law_span
  exact (sb_cons (ss_set 2 G (se_ix (se_var 0) se_int)) (sb_cons (ss_if (st_cmp (op_eqA G.room.units) v_eq b_eq (se_ix (se_var 0) se_int) se_str) (sb_one (ss_ret (se_tup (sa_cons (se_callB (call_max2 G.calm) v_max2 rfl x.free_max (sa_cons se_int (sa_cons (se_bin op_addA v_add (se_bin op_sub v_sub (se_var 1) (se_var 2)) se_int) sa_nil))) (sa_cons (se_var 1) sa_nil))))) sb_nil) (sb_cons (ss_if (st_cmp (op_eqA G.room.units) v_eq b_eq (se_ix (se_var 0) se_int) se_str) (sb_one (ss_ret (se_tup (sa_cons (se_var 1) (sa_cons (se_bin op_sub v_sub (se_bin op_addA v_add (se_var 1) (se_var 2)) se_int) sa_nil))))) sb_nil) (sb_one (ss_ret (se_tup (sa_cons (se_callB (call_max2 G.calm) v_max2 rfl x.free_max (sa_cons se_int (sa_cons (se_bin op_sub v_sub (se_var 1) (se_bin op_fdivW v_div (se_var 2) se_int)) sa_nil))) (sa_cons (se_bin op_addA v_add (se_var 1) (se_bin op_fdivW v_div (se_bin op_sub v_sub (se_var 2) se_int) se_int)) sa_nil))))))))
theorem bd__law_stays : BindD d__law_stays ["_law_plan_here", "_law_rows_here", "_law_xs", "_law_cut"] := ⟨rfl, rfl, fun _ _ _ _ _ _ us hl => match us, hl with | [_, _, _, _], _ => rfl⟩
theorem sc__law_stays : FnScope ["_law_plan_here", "_law_rows_here", "_law_xs", "_law_cut", "_law_k", "_law_found", "_law_gone", "_law_span_here", "_law_least", "_law_most"] ["_law_plan_here", "_law_rows_here", "_law_xs", "_law_cut"] d__law_stays.scope := ⟨rfl, rfl, rfl, by decide +kernel, rfl, by decide +kernel, by decide +kernel⟩
theorem ok__law_stays (x : Fx K mg) (c__law_span : FnB P w K mg base 1 d__law_span ["_law_plan_here", "_law_k"] 2 den__law_span) (D : ∃ fd, FunD K d__law_stays.name d__law_stays.qual d__law_stays.params d__law_stays.body d__law_stays.scope (d__law_stays.dvs K) (d__law_stays.kws K) (d__law_stays.at_ K) fd) : FnB P w K mg base 2 d__law_stays ["_law_plan_here", "_law_rows_here", "_law_xs", "_law_cut"] 4 den__law_stays := by
  refine fnB_of (k := 1) D sc__law_stays rfl rfl fun cdv A outer s H E G => ?_
  unfold b__law_stays
  exact (sb_cons (ss_par 5 6 false G (sa_cons (se_lst sa_nil) (sa_cons (se_neg se_int) sa_nil))) (sb_cons (ss_nest (iF := 5) 4 G (si_rng1 rfl x.free_range (se_callB c_len v_len rfl x.free_len (sa_cons (se_var 1) sa_nil))) (nb_one (n_if G (st_cmp op_isN v_is b_is (se_ix (se_ix (se_var 1) (se_var 4)) se_int) se_non) (nb_cons (n_if G (st_w (sw_and (st_cmp (op_neA G.room.units) v_ne b_ne (se_var 5) (se_lst sa_nil)) (sw_and1 (st_cmp op_ge v_ge b_I (se_ix (se_var 2) (se_ix (se_ix (se_var 5) (se_neg se_int)) se_int)) (se_ix (se_var 2) (se_var 4)))))) (nb_one (n_ret G se_non)) nb_nil) (nb_one (n_set 6 G (se_ix (se_var 2) (se_var 4))))) (nb_one (n_if G (st_cmp (op_eqA G.room.units) v_eq b_eq (se_ix (se_var 3) (se_var 4)) se_int) (nb_one (n_put G (se_neg se_int) se_int (se_var 4))) (nb_cons (n_set 7 G (se_callD [false, false] c__law_span.up bd__law_span G rfl x.glo__law_span (sa_cons (se_var 0) (sa_cons (se_ix (se_ix (se_var 1) (se_var 4)) se_int) sa_nil)))) (nb_cons (n_set 8 G (se_callB (call_max3Nu G.calm) v_max3 rfl x.free_max (sa_cons (se_ix (se_var 7) se_int) (sa_cons (se_ifE (st_cmp (op_neA G.room.units) v_ne b_ne (se_var 5) (se_lst sa_nil)) (se_bin op_addA v_add (se_ix (se_var 2) (se_ix (se_ix (se_var 5) (se_neg se_int)) se_int)) (se_ix (se_var 0) se_int)) se_int) (sa_cons (se_bin op_addA v_add (se_var 6) se_int) sa_nil))))) (nb_cons (n_set 9 G (se_callB (call_min2 G.calm) v_min2 rfl x.free_min (sa_cons (se_ix (se_var 7) se_int) (sa_cons (se_ix (se_var 2) (se_var 4)) sa_nil)))) (nb_cons (n_if G (st_cmp op_gt v_gt b_I (se_var 8) (se_var 9)) (nb_one (n_ret G se_non)) nb_nil) (nb_one (n_app G (se_lst (sa_cons (se_var 4) (sa_cons (se_var 4) (sa_cons (se_var 8) (sa_cons (se_var 9) sa_nil)))))))))))))))) (sb_one (ss_ret (se_var 5)))))
theorem bd__law_all : BindD d__law_all ["_law_plan_here", "_law_rows_here"] := ⟨rfl, rfl, fun _ _ _ _ _ _ us hl => match us, hl with | [_, _], _ => rfl⟩
theorem sc__law_all : FnScope ["_law_plan_here", "_law_rows_here", "_law_found", "_law_xs", "_law_cut", "_law_stays_here"] ["_law_plan_here", "_law_rows_here"] d__law_all.scope := ⟨rfl, rfl, rfl, by decide +kernel, rfl, by decide +kernel, by decide +kernel⟩
theorem ok__law_all (x : Fx K mg) (c__law_minutes : FnB P w K mg base 1 d__law_minutes ["_law_rows_here"] 1 den__law_minutes) (c__law_cuts : FnB P w K mg base 1 d__law_cuts ["_law_rows_here"] 1 den__law_cuts) (c__law_stays : FnB P w K mg base 2 d__law_stays ["_law_plan_here", "_law_rows_here", "_law_xs", "_law_cut"] 4 den__law_stays) (D : ∃ fd, FunD K d__law_all.name d__law_all.qual d__law_all.params d__law_all.body d__law_all.scope (d__law_all.dvs K) (d__law_all.kws K) (d__law_all.at_ K) fd) : FnB P w K mg base 3 d__law_all ["_law_plan_here", "_law_rows_here"] 2 den__law_all := by
  refine fnB_of (k := 2) D sc__law_all rfl rfl fun cdv A outer s H E G => ?_
  unfold b__law_all
  exact (sb_cons (ss_set 2 G (se_lst sa_nil)) (sb_cons (ss_for (ws := [3]) G (si_seq (se_callD [false] c__law_minutes.up bd__law_minutes G rfl x.glo__law_minutes (sa_cons (se_var 1) sa_nil))) (sg_name 3 G.nd) (sb_one (ss_for (ws := [4]) G (si_seq (se_callD [false] c__law_cuts.up bd__law_cuts G rfl x.glo__law_cuts (sa_cons (se_var 1) sa_nil))) (sg_name 4 G.nd) (sb_cons (ss_set 5 G (se_callD [false, false, false, false] c__law_stays.up bd__law_stays G rfl x.glo__law_stays (sa_cons (se_var 0) (sa_cons (se_var 1) (sa_cons (se_var 3) (sa_cons (se_var 4) sa_nil)))))) (sb_one (ss_if (st_cmp op_notN v_isN b_isN (se_var 5) se_non) (sb_one (ss_expr (se_app (se_var 2) (se_tup (sa_cons (se_var 3) (sa_cons (se_var 5) sa_nil)))))) sb_nil)))))) (sb_one (ss_ret (se_var 2)))))
theorem bd__law_right_k16 : BindD d__law_right_k16 ["_law_flask_here"] := ⟨rfl, rfl, fun _ _ _ _ _ _ us hl => match us, hl with | [_], _ => rfl⟩
theorem sc__law_right_k16 : FnScope ["_law_flask_here", "_law_turn", "_law_plan_here", "_law_on", "_law_moved", "_law_found", "_law_mine", "_law_rows_here", "_law_low", "_law_high", "_law_k"] ["_law_flask_here"] d__law_right_k16.scope := ⟨rfl, rfl, rfl, by decide +kernel, rfl, by decide +kernel, by decide +kernel⟩
theorem ok__law_right_k16 (x : Fx K mg) (c__law_plan : FnB P w K mg base 4 d__law_plan ["_law_flask_here", "_law_most_step"] 2 den__law_plan) (c__law_rows : FnB P w K mg base 3 d__law_rows ["_law_flask_here", "_law_plan_here", "_law_many", "_law_wide"] 4 den__law_rows) (c__law_made : FnB P w K mg base 6 d__law_made ["_law_plan_here"] 1 den__law_made) (c__law_pick : FnB P w K mg base 2 d__law_pick ["_law_flask_here", "_law_menu"] 2 den__law_pick) (c__law_far : FnB P w K mg base 3 d__law_far ["_law_flask_here", "_law_most"] 2 den__law_far) (c_some_stays : FnB P w K mg base 7 d_some_stays ["rule", "notes"] 2 den_some_stays) (c_fits : FnB P w K mg base 7 d_fits ["rule", "notes", "turning"] 3 den_fits) (c__law_fitting : FnB P w K mg base 2 d__law_fitting ["_law_plan_here", "_law_rows_here", "_law_xs", "_law_stays_here"] 4 den__law_fitting) (c_do_fit : FnB P w K mg base 7 d_do_fit ["rule", "notes", "minutes", "stays"] 4 den_do_fit) (c__law_all : FnB P w K mg base 3 d__law_all ["_law_plan_here", "_law_rows_here"] 2 den__law_all) (D : ∃ fd, FunD K d__law_right_k16.name d__law_right_k16.qual d__law_right_k16.params d__law_right_k16.body d__law_right_k16.scope (d__law_right_k16.dvs K) (d__law_right_k16.kws K) (d__law_right_k16.at_ K) fd) : FnB P w K mg base 8 d__law_right_k16 ["_law_flask_here"] 1 den__law_right_k16 := by
  refine fnB_of (k := 7) D sc__law_right_k16 rfl rfl fun cdv A outer s H E G => ?_
  unfold b__law_right_k16
  exact (sb_cons (ss_for (ws := [1]) G (si_rng1 rfl x.free_range se_int) (sg_name 1 G.nd) (sb_cons (ss_set 2 G (se_callD [true, false] c__law_plan.up bd__law_plan G rfl x.glo__law_plan (sa_cons (se_var 0) (sa_cons se_int sa_nil)))) (sb_cons (ss_par 6 7 false G (sa_cons (se_callD [false] c__law_made.up bd__law_made G rfl x.glo__law_made (sa_cons (se_var 2) sa_nil)) (sa_cons (se_callD [true, false, false, false] c__law_rows.up bd__law_rows G rfl x.glo__law_rows (sa_cons (se_var 0) (sa_cons (se_var 2) (sa_cons se_int (sa_cons se_int sa_nil))))) sa_nil))) (sb_cons (ss_set 3 G (se_bin op_mulP v_mul (se_ix (se_var 2) se_int) (se_callD [true, false] c__law_pick.up bd__law_pick G rfl x.glo__law_pick (sa_cons (se_var 0) (sa_cons (se_lst (sa_cons se_int (sa_cons se_int (sa_cons se_int (sa_cons (se_callD [true, false] c__law_far.up bd__law_far G rfl x.glo__law_far (sa_cons (se_var 0) (sa_cons (se_bin op_pow v_pow se_int se_int) sa_nil))) sa_nil))))) sa_nil))))) (sb_cons (ss_set 4 G (se_callT call_tuple_of v_tup rfl x.free_tuple (sa_cons (se_comp (own := [("_law_low", 8), ("_law_high", 9), ("_law_k", 10)]) G.calm G.nd (si_seq (se_var 7)) (blkOk_by (by first | (show blkC ["_law_flask_here", "_law_turn", "_law_plan_here", "_law_on", "_law_moved", "_law_found", "_law_mine", "_law_rows_here", "_law_low", "_law_high", "_law_k"] d__law_right_k16.scope _ _ = true; decide +kernel) | kernel_rfl)) (fun _ _ _ _ _ => (sg_tup G.blk.calm (sgs_cons (sg_name 8 G.blk.nd) (sgs_cons (sg_name 9 G.blk.nd) (sgs_cons (sg_name 10 G.blk.nd) sgs_nil))))) (fun _ _ _ _ _ => sts_nil) (fun _ _ _ _ _ => (se_tup (sa_cons (se_bin op_addA v_add (se_var 8) (se_var 3)) (sa_cons (se_bin op_addA v_add (se_var 9) (se_var 3)) (sa_cons (se_ifE (st_cmp op_notN v_isN b_isN (se_var 10) se_non) (se_bin op_addA v_add (se_var 10) (se_var 3)) se_non) sa_nil)))))) sa_nil))) (sb_cons (ss_set 5 G (se_callD [false, false] c_some_stays.up bd_some_stays G rfl x.glo_some_stays (sa_cons (se_var 6) (sa_cons (se_var 4) sa_nil)))) (sb_cons (ss_if (st_w (sw_or (st_cmp (op_neA G.room.units) v_ne b_ne (se_cmp op_notN v_isN (se_var 5) se_non) (se_callDf [false, false, false] c_fits.up bf_fits_2 (vc_fits_0 x) G rfl x.glo_fits (sa_cons (se_var 6) (sa_cons (se_var 4) sa_nil)))) (sw_or1 (st_w (sw_and (st_cmp op_notN v_isN b_isN (se_var 5) se_non) (sw_and1 (st_cmp op_isN v_is b_is (se_callDK0 [false, false] c_some_stays.up (bk_some_stays_0_notes_rule) G rfl x.glo_some_stays (sk_cons (se_var 4) (sk_cons (se_var 6) sk_nil))) se_non))))))) (sb_one (ss_ret se_bl)) sb_nil) (sb_cons (ss_if (st_cmp op_isN v_is b_is (se_var 5) se_non) (sb_one ss_ct) sb_nil) (sb_cons (ss_if (st_w (sw_or (st_not (st_val (se_callB call_isi (v_isi x.isi) rfl x.free_isinstance (sa_cons (se_var 5) (sa_cons (se_ty rfl x.free_tuple) sa_nil))))) (sw_or (st_cmp (op_neA G.room.units) v_ne b_ne (se_callB c_len v_len rfl x.free_len (sa_cons (se_var 5) sa_nil)) se_int) (sw_or (st_not (st_val (se_callB call_isi (v_isi x.isi) rfl x.free_isinstance (sa_cons (se_ix (se_var 5) se_int) (sa_cons (se_ty rfl x.free_tuple) sa_nil))))) (sw_or1 (st_not (st_val (se_callB call_isi (v_isi x.isi) rfl x.free_isinstance (sa_cons (se_ix (se_var 5) se_int) (sa_cons (se_ty rfl x.free_tuple) sa_nil)))))))))) (sb_one (ss_ret se_bl)) sb_nil) (sb_cons (ss_if (st_w (sw_or (st_not (st_val (se_callD [false, false, false, false] c__law_fitting.up bd__law_fitting G rfl x.glo__law_fitting (sa_cons (se_var 2) (sa_cons (se_var 4) (sa_cons (se_ix (se_var 5) se_int) (sa_cons (se_ix (se_var 5) se_int) sa_nil))))))) (sw_or1 (st_not (st_val (se_callD [false, false, false, false] c_do_fit.up bd_do_fit G rfl x.glo_do_fit (sa_cons (se_var 6) (sa_cons (se_var 4) (sa_cons (se_ix (se_var 5) se_int) (sa_cons (se_ix (se_var 5) se_int) sa_nil)))))))))) (sb_one (ss_ret se_bl)) sb_nil) (sb_one (ss_if (st_w (sw_and (st_cmp (op_eqA G.room.units) v_eq b_eq (se_var 3) se_int) (sw_and1 (st_cmp (op_neA G.room.units) v_ne b_ne (se_cmp (op_eqA G.room.units) v_eq (se_callD [false, false] c__law_all.up bd__law_all G rfl x.glo__law_all (sa_cons (se_var 2) (sa_cons (se_var 7) sa_nil))) (se_lst sa_nil)) (se_cmp op_isN v_is (se_var 5) se_non))))) (sb_one (ss_ret se_bl)) sb_nil)))))))))))) (sb_one (ss_ret se_bl)))
theorem bd__law_flask : BindD d__law_flask ["_law_script", "_law_turn"] := ⟨rfl, rfl, fun _ _ _ _ _ _ us hl => match us, hl with | [_, _], _ => rfl⟩
theorem sc__law_flask : FnScope ["_law_script", "_law_turn", "_law_entry", "_law_stirred", "_law_each"] ["_law_script", "_law_turn"] d__law_flask.scope := ⟨rfl, rfl, rfl, by decide +kernel, rfl, by decide +kernel, by decide +kernel⟩
theorem ok__law_flask (x : Fx K mg)  (D : ∃ fd, FunD K d__law_flask.name d__law_flask.qual d__law_flask.params d__law_flask.body d__law_flask.scope (d__law_flask.dvs K) (d__law_flask.kws K) (d__law_flask.at_ K) fd) : FnB P w K mg base 1 d__law_flask ["_law_script", "_law_turn"] 2 den__law_flask := by
  refine fnB_of (k := 0) D sc__law_flask rfl rfl fun cdv A outer s H E G => ?_
  unfold b__law_flask
  exact (sb_cons (ss_set 2 G (se_ifE (st_cmp op_lt v_lt b_I (se_var 1) (se_callB c_len v_len rfl x.free_len (sa_cons (se_var 0) sa_nil))) (se_callT call_int1 v_int rfl x.free_int (sa_cons (se_ix (se_var 0) (se_var 1)) sa_nil)) (se_bin op_addA v_add (se_bin op_mulP v_mul se_int (se_var 1)) se_int))) (sb_cons (ss_set 3 G (se_bin op_addA v_add se_int (se_bin op_mulP v_mul se_int (se_var 1)))) (sb_cons (ss_for (ws := [4]) G (si_seq (se_slice (se_var 0) so_none (so_some se_int))) (sg_name 4 G.nd) (sb_one (ss_set 3 G (se_bin op_mod v_mod (se_callT call_int1 v_int rfl x.free_int (sa_cons (se_bin op_addA v_add (se_bin op_addA v_add (se_bin op_mulP v_mul (se_var 3) se_int) (se_bin op_mod v_mod (se_callT call_int1 v_int rfl x.free_int (sa_cons (se_var 4) sa_nil)) se_int)) (se_var 1)) sa_nil)) se_int)))) (sb_cons (ss_set 3 G (se_bin op_mod v_mod (se_callT call_int1 v_int rfl x.free_int (sa_cons (se_bin op_addA v_add (se_bin op_mulP v_mul (se_var 3) se_int) (se_bin op_mod v_mod (se_callT call_int1 v_int rfl x.free_int (sa_cons (se_var 2) sa_nil)) se_int)) sa_nil)) se_int)) (sb_one (ss_ret (se_lst (sa_cons (se_ifE (st_cmp op_ge v_ge b_I (se_callB call_abs v_abs rfl x.free_abs (sa_cons (se_var 2) sa_nil)) (se_bin op_pow v_pow se_int se_int)) (se_callB call_abs v_abs rfl x.free_abs (sa_cons (se_var 2) sa_nil)) se_int) (sa_cons (se_var 3) (sa_cons se_int sa_nil))))))))))
theorem bd_law_k16 : BindD d_law_k16 ["_law_script"] := ⟨rfl, rfl, fun _ _ _ _ _ _ us hl => match us, hl with | [_], _ => rfl⟩
theorem sc_law_k16 : FnScope ["_law_script", "_law_blue", "_law_turn"] ["_law_script"] d_law_k16.scope := ⟨rfl, rfl, rfl, by decide +kernel, rfl, by decide +kernel, by decide +kernel⟩
theorem ok_law_k16 (x : Fx K mg) (c_Rule____init__ : FnB P w K mg base 4 d_Rule____init__ ["self", "step", "setting", "limit", "pause"] 5 den_Rule____init__) (c_some_stays : FnB P w K mg base 7 d_some_stays ["rule", "notes"] 2 den_some_stays) (c__law_right_k16 : FnB P w K mg base 8 d__law_right_k16 ["_law_flask_here"] 1 den__law_right_k16) (c__law_flask : FnB P w K mg base 1 d__law_flask ["_law_script", "_law_turn"] 2 den__law_flask) (D : ∃ fd, FunD K d_law_k16.name d_law_k16.qual d_law_k16.params d_law_k16.body d_law_k16.scope (d_law_k16.dvs K) (d_law_k16.kws K) (d_law_k16.at_ K) fd) : FnB P w K mg base 9 d_law_k16 ["_law_script"] 1 den_law_k16 := by
  refine fnB_of (k := 8) D sc_law_k16 rfl rfl fun cdv A outer s H E G => ?_
  unfold b_law_k16
  exact (sb_cons (ss_set 1 G (se_makeD (k := 7) (d := d_Rule____init__) [false, false, false, false] x.mkr_Rule c_Rule____init__.up bd_Rule____init__ G rfl x.glo_Rule (sa_cons se_int (sa_cons se_str (sa_cons se_int (sa_cons se_int sa_nil)))))) (sb_cons (ss_if (st_w (sw_or (st_cmp op_notN v_isN b_isN (se_callD [false, false] c_some_stays.up bd_some_stays G rfl x.glo_some_stays (sa_cons (se_var 1) (sa_cons (se_tup (sa_cons (se_tup (sa_cons se_int (sa_cons se_int (sa_cons se_int sa_nil)))) sa_nil)) sa_nil))) se_non) (sw_or1 (st_cmp op_isN v_is b_is (se_callD [false, false] c_some_stays.up bd_some_stays G rfl x.glo_some_stays (sa_cons (se_var 1) (sa_cons (se_tup (sa_cons (se_tup (sa_cons se_int (sa_cons se_int (sa_cons se_non sa_nil)))) sa_nil)) sa_nil))) se_non)))) (sb_one (ss_ret se_bl)) sb_nil) (sb_one (ss_ret (se_callB (cr_all G.calm) v_all rfl x.free_all (sa_cons (se_comp (own := [("_law_turn", 2)]) G.calm G.nd (si_rng1 rfl x.free_range (se_callB (call_max2 G.calm) v_max2 rfl x.free_max (sa_cons se_int (sa_cons (se_callB (call_min2 G.calm) v_min2 rfl x.free_min (sa_cons (se_callB c_len v_len rfl x.free_len (sa_cons (se_var 0) sa_nil)) (sa_cons se_int sa_nil))) sa_nil)))) (blkOk_by (by first | (show blkC ["_law_script", "_law_blue", "_law_turn"] d_law_k16.scope _ _ = true; decide +kernel) | kernel_rfl)) (fun _ _ _ _ _ => (sg_name 2 G.blk.nd)) (fun _ _ _ _ _ => sts_nil) (fun _ _ _ _ _ => (se_callD [true] c__law_right_k16.up bd__law_right_k16 G.blk rfl x.glo__law_right (sa_cons (se_callD [false, false] c__law_flask.up bd__law_flask G.blk rfl x.glo__law_flask (sa_cons (se_var 0) (sa_cons (se_var 2) sa_nil))) sa_nil)))) sa_nil))))))
theorem all_ok {h : Heap} (X : K.In h) (Gm : h.Ns mainGlobals mg) (c : SaysP fa fn fy K) (tone : TabOne K) (tb : TabsB K mg base) : FnB P w K mg base 9 d_law_k16 ["_law_script"] 1 den_law_k16 := by
  have x := fx_of X Gm c
  have c_is_integer := ok_is_integer (P := P) (w := w) (base := base) x  (c.a.def_ 0 (d := d_is_integer) rfl)
  have c_is_between := ok_is_between (P := P) (w := w) (base := base) x c_is_integer (c.a.def_ 1 (d := d_is_between) rfl)
  have c_check_number := ok_check_number (P := P) (w := w) (base := base) x c_is_between (c.a.def_ 2 (d := d_check_number) rfl)
  have c_Rule____init__ := ok_Rule____init__ (P := P) (w := w) (base := base) x c_check_number (c.a.def_ 3 (d := d_Rule____init__) rfl)
  have c_check_rule := ok_check_rule (P := P) (w := w) (base := base) x  (c.a.def_ 4 (d := d_check_rule) rfl)
  have c_is_minute := ok_is_minute (P := P) (w := w) (base := base) x c_is_between (c.a.def_ 5 (d := d_is_minute) rfl)
  have c_Rule__step := ok_Rule__step (P := P) (w := w) (base := base) x  (c.a.def_ 6 (d := d_Rule__step) rfl)
  have c_is_mark := ok_is_mark (P := P) (w := w) (base := base) x c_is_between c_Rule__step (c.a.def_ 7 (d := d_is_mark) rfl)
  have c_is_note := ok_is_note (P := P) (w := w) (base := base) x c_is_minute c_is_mark (c.a.def_ 8 (d := d_is_note) rfl)
  have c_notes_fault := ok_notes_fault (P := P) (w := w) (base := base) x c_is_note (c.a.def_ 9 (d := d_notes_fault) rfl)
  have c_check_notes := ok_check_notes (P := P) (w := w) (base := base) x c_check_rule c_notes_fault (c.a.def_ 10 (d := d_check_notes) rfl)
  have c_joins := ok_joins (P := P) (w := w) (base := base) x  (c.a.def_ 11 (d := d_joins) rfl)
  have c_Rule__setting := ok_Rule__setting (P := P) (w := w) (base := base) x  (c.a.def_ 12 (d := d_Rule__setting) rfl)
  have c_reach := ok_reach (P := P) (w := w) (base := base) x c_Rule__setting c_Rule__step (c.a.def_ 13 (d := d_reach) rfl)
  have c_arrivals := ok_arrivals (P := P) (w := w) (base := base) x c_reach (c.a.def_ 14 (d := d_arrivals) rfl)
  have c_Rule__pause := ok_Rule__pause (P := P) (w := w) (base := base) x  (c.a.def_ 15 (d := d_Rule__pause) rfl)
  have c_least_arrival := ok_least_arrival (P := P) (w := w) (base := base) x c_Rule__pause (c.a.def_ 16 (d := d_least_arrival) rfl)
  have c_ways_of := ok_ways_of (P := P) (w := w) (base := base) x c_joins c_arrivals c_least_arrival (c.a.def_ 17 (d := d_ways_of) rfl)
  have c_blocks_of := ok_blocks_of (P := P) (w := w) (base := base) x c_joins (c.a.def_ 18 (d := d_blocks_of) rfl)
  have c_some_stays := ok_some_stays (P := P) (w := w) (base := base) x c_check_notes c_ways_of c_blocks_of (c.a.def_ 19 (d := d_some_stays) rfl)
  have c__law_sip := ok__law_sip (P := P) (w := w) (base := base) x  (c.a.def_ 20 (d := d__law_sip) rfl)
  have c__law_pick := ok__law_pick (P := P) (w := w) (base := base) x c__law_sip (c.a.def_ 21 (d := d__law_pick) rfl)
  have c__law_far := ok__law_far (P := P) (w := w) (base := base) x c__law_sip c__law_pick (c.a.def_ 22 (d := d__law_far) rfl)
  have c__law_plan := ok__law_plan (P := P) (w := w) (base := base) x c__law_pick c__law_far c__law_sip (c.a.def_ 23 (d := d__law_plan) rfl)
  have c__law_mark := ok__law_mark (P := P) (w := w) (base := base) x  (c.a.def_ 24 (d := d__law_mark) rfl)
  have c__law_rows := ok__law_rows (P := P) (w := w) (base := base) x c__law_sip c__law_pick c__law_mark (c.a.def_ 25 (d := d__law_rows) rfl)
  have c__law_made := ok__law_made (P := P) (w := w) (base := base) x c_Rule____init__ (c.a.def_ 26 (d := d__law_made) rfl)
  have c_fits := ok_fits (P := P) (w := w) (base := base) x c_check_notes c_ways_of (c.a.def_ 27 (d := d_fits) rfl)
  have c__law_fitting := ok__law_fitting (P := P) (w := w) (base := base) x c__law_mark (c.a.def_ 28 (d := d__law_fitting) rfl)
  have c_are_minutes := ok_are_minutes (P := P) (w := w) (base := base) x c_is_integer (c.a.def_ 29 (d := d_are_minutes) rfl)
  have c_are_stays := ok_are_stays (P := P) (w := w) (base := base) x c_is_integer c_Rule__pause (c.a.def_ 30 (d := d_are_stays) rfl)
  have c_mark_at := ok_mark_at (P := P) (w := w) (base := base) x c_reach c_Rule__step (c.a.def_ 31 (d := d_mark_at) rfl)
  have c_do_fit := ok_do_fit (P := P) (w := w) (base := base) x c_check_notes c_are_minutes c_are_stays c_mark_at (c.a.def_ 32 (d := d_do_fit) rfl)
  have c__law_minutes := ok__law_minutes (P := P) (w := w) (base := base) x  (c.a.def_ 33 (d := d__law_minutes) rfl)
  have c__law_cuts := ok__law_cuts (P := P) (w := w) (base := base) x  (c.a.def_ 34 (d := d__law_cuts) rfl)
  have c__law_span := ok__law_span (P := P) (w := w) (base := base) x  (c.a.def_ 35 (d := d__law_span) rfl)
  have c__law_stays := ok__law_stays (P := P) (w := w) (base := base) x c__law_span (c.a.def_ 36 (d := d__law_stays) rfl)
  have c__law_all := ok__law_all (P := P) (w := w) (base := base) x c__law_minutes c__law_cuts c__law_stays (c.a.def_ 37 (d := d__law_all) rfl)
  have c__law_right_k16 := ok__law_right_k16 (P := P) (w := w) (base := base) x c__law_plan c__law_rows c__law_made c__law_pick c__law_far c_some_stays c_fits c__law_fitting c_do_fit c__law_all (c.a.def_ 38 (d := d__law_right_k16) rfl)
  have c__law_flask := ok__law_flask (P := P) (w := w) (base := base) x  (c.a.def_ 39 (d := d__law_flask) rfl)
  have c_law_k16 := ok_law_k16 (P := P) (w := w) (base := base) x c_Rule____init__ c_some_stays c__law_right_k16 c__law_flask (c.a.def_ 40 (d := d_law_k16) rfl)
  exact c_law_k16
end
def fnLaw : Nat := 40
theorem law_at {K : PySem.W.Frag} {h : Heap} {mg : Str → Option Value} (X : K.In h) (G : h.Ns mainGlobals mg) (c : SaysP fa fn fy K) : mg "law" = some (.ref (He.ga K "law")) := (fx_of X G c).glo_law
end Pu.Q
local macro_rules
  | `(tactic| simp_arith [$xs,*]) => `(tactic| simp (disch := first | omega | rfl) only [↓Pu.ok_d1, ↓Pu.ok_d2, ↓Pu.ok_d3, ↓Pu.ok_d4, ↓Pu.ok_d5, ↓Pu.ok_d6, ↓Pu.ok_d7, ↓Pu.ok_bind, ↓Pu.ok_ret, ↓Pu.ok_bad, ↓Pu.ok_mV, ↓Pu.ok_rdD, ↓Pu.ok_rdT, ↓Pu.ok_dtD, ↓Pu.ok_dtT, ↓Pu.ok_rds0, ↓Pu.ok_rdsC, ↓Pu.ok_dts0, ↓Pu.ok_dtsC, ↓Pu.ok_nil, ↓Pu.ok_cons, ↓Pu.ok_bin, ↓Pu.ok_cb, ↓Pu.ok_tup, ↓Pu.ok_lst, ↓Pu.ok_tru, ↓Pu.ok_truB, ↓Pu.ok_truI, ↓Pu.ok_truN, ↓Pu.ok_truL, ↓Pu.ok_truT, ↓Pu.ok_and, ↓Pu.ok_or, ↓Pu.ok_not, ↓Pu.ok_ifE, ↓Pu.ok_andV, ↓Pu.ok_orV, ↓Pu.ok_notV, ↓Pu.ok_neg, ↓Pu.ok_chain, ↓Pu.ok_seq, ↓Pu.ok_skip, ↓Pu.ok_retS, ↓Pu.ok_retN, ↓Pu.ok_bk, ↓Pu.ok_ct, ↓Pu.ok_ex1, ↓Pu.ok_if, ↓Pu.ok_set, ↓Pu.ok_setP, ↓Pu.ok_asg, ↓Pu.ok_gN, ↓Pu.ok_gsN, ↓Pu.ok_gsC, ↓Pu.ok_gT, ↓Pu.ok_gTL, ↓Pu.ok_gSb, ↓Pu.ok_par, ↓Pu.ok_put, ↓Pu.ok_get, ↓Pu.ok_run, ↓Pu.ok_call, ↓Pu.ok_callK, ↓Pu.ok_callKD, ↓Pu.ok_make, ↓Pu.ok_prop, ↓Pu.ok_for, ↓Pu.ok_items, ↓Pu.ok_rng1, ↓Pu.ok_rng2, ↓Pu.ok_comp, ↓Pu.ok_yes, ↓Pu.ok_compS0, ↓Pu.ok_compSC, Pu.wipeE, ↓Pu.ok_sl, ↓Pu.ok_noP, ↓Pu.ok_pt, ↓Pu.ok_slL, ↓Pu.ok_slT, ↓Pu.ok_rep, ↓Pu.ok_app, ↓Pu.ok_oSub, ↓Pu.ok_oMul, ↓Pu.ok_oDiv, ↓Pu.ok_oMod, ↓Pu.ok_oPow, ↓Pu.ok_oLt, ↓Pu.ok_oLe, ↓Pu.ok_oGt, ↓Pu.ok_oGe, ↓Pu.ok_oAdd, ↓Pu.ok_oAddL, ↓Pu.ok_oAddT, ↓Pu.ok_oAddI, ↓Pu.ok_oEqI, ↓Pu.ok_oEqL, ↓Pu.ok_oEqT, ↓Pu.ok_oEqB, ↓Pu.ok_oEqN, ↓Pu.ok_oEqS, ↓Pu.ok_oNeI, ↓Pu.ok_oNeL, ↓Pu.ok_oNeT, ↓Pu.ok_oNeB, ↓Pu.ok_oNeN, ↓Pu.ok_oNeS, ↓Pu.ok_oIs, ↓Pu.ok_oIsN, ↓Pu.ix_0, ↓Pu.ix_1, ↓Pu.ix_2, ↓Pu.ix_3, ↓Pu.ix_4, ↓Pu.it_0, ↓Pu.it_1, ↓Pu.it_2, ↓Pu.it_3, Pu.ixn_0, Pu.ixn_1, Pu.ixn_2, ↓Pu.ok_len, ↓Pu.ok_lenT, ↓Pu.ok_absI, ↓Pu.ok_intI, ↓Pu.ok_max2, ↓Pu.ok_min2, ↓Pu.ok_max3, ↓Pu.ok_min3, ↓Pu.ok_dm, ↓Pu.ok_repr, Pu.argsE, Pu.backE, Pu.outE, Pu.M.dt, List.getElem?_cons_zero, List.getElem?_cons_succ, List.set_cons_zero, List.set_cons_succ, List.take_succ_cons, List.take_zero, List.replicate_zero, List.replicate_succ, List.append_nil, List.nil_append, List.cons_append, List.length_cons, List.length_nil, Nat.sub_self, Nat.reduceSub, Nat.reduceAdd, Nat.reduceLeDiff, decide_true, decide_false, reduceCtorEq, Pu.noBor, Pu.setsE, Pu.slotOf, Pu.setsS, Pu.putFs, Pu.putVs, Pu.lookV, Pu.sel, Pu.isNon, Bool.not_true, Bool.not_false, Bool.not_eq_true, decide_eq_true_eq, decide_eq_false_iff_not, Bool.true_eq_false, Bool.false_eq_true, false_implies, true_implies, and_true, true_and, not_true_eq_false, not_false_eq_true, and_self, implies_true, or_false, false_or, List.flatten_cons, List.flatten_nil, true_or, or_true, Int.sub_zero, eq_self, Pu.veq_int, Pu.veq_str, Pu.cMod, Pu.cDiv, Pu.cPow, Pu.cMul_r, Pu.cMul_l, Pu.strq, String.reduceEq, Pu.sz, Pu.szl, Pu.dOk_int, Pu.dOk_bl, Pu.dOk_non, if_true, if_false, Int.reducePow, Int.reduceToNat, Int.reduceMul, Int.reduceAdd, Int.reduceSub, Int.reduceNeg, Int.reduceLT, Int.reduceLE, Int.reduceGT, Int.reduceEq, gt_iff_lt, ge_iff_le, Nat.reducePow, Nat.reduceMul, Nat.reduceLT, Int.cast_ofNat_Int, false_and, and_false, Bool.and_true, Bool.true_and, Bool.and_false, Bool.false_and, Bool.or_true, Bool.true_or, Bool.or_false, Bool.false_or, ↓Pu.vD_0, ↓Pu.vO_0, ↓Pu.rD_0, ↓Pu.rO_0, ↓Pu.kD_0, ↓Pu.kO_0, ↓Pu.vD_1, ↓Pu.vO_1, ↓Pu.rD_1, ↓Pu.rO_1, ↓Pu.kD_1, ↓Pu.kO_1, ↓Pu.vD_2, ↓Pu.vO_2, ↓Pu.rD_2, ↓Pu.rO_2, ↓Pu.kD_2, ↓Pu.kO_2, ↓Pu.vD_3, ↓Pu.vO_3, ↓Pu.rD_3, ↓Pu.rO_3, ↓Pu.kD_3, ↓Pu.kO_3, ↓Pu.vD_4, ↓Pu.vO_4, ↓Pu.rD_4, ↓Pu.rO_4, ↓Pu.kD_4, ↓Pu.kO_4, ↓Pu.vD_5, ↓Pu.vO_5, ↓Pu.rD_5, ↓Pu.rO_5, ↓Pu.kD_5, ↓Pu.kO_5, ↓Pu.vD_6, ↓Pu.vO_6, ↓Pu.rD_6, ↓Pu.rO_6, ↓Pu.kD_6, ↓Pu.kO_6, ↓Pu.vD_7, ↓Pu.vO_7, ↓Pu.rD_7, ↓Pu.rO_7, ↓Pu.kD_7, ↓Pu.kO_7, ↓Pu.vD_8, ↓Pu.vO_8, ↓Pu.rD_8, ↓Pu.rO_8, ↓Pu.kD_8, ↓Pu.kO_8, ↓Pu.vD_9, ↓Pu.vO_9, ↓Pu.rD_9, ↓Pu.rO_9, ↓Pu.kD_9, ↓Pu.kO_9, ↓Pu.vD_10, ↓Pu.vO_10, ↓Pu.rD_10, ↓Pu.rO_10, ↓Pu.kD_10, ↓Pu.kO_10, ↓Pu.vD_11, ↓Pu.vO_11, ↓Pu.rD_11, ↓Pu.rO_11, ↓Pu.kD_11, ↓Pu.kO_11, ↓Pu.vD_12, ↓Pu.vO_12, ↓Pu.rD_12, ↓Pu.rO_12, ↓Pu.kD_12, ↓Pu.kO_12, ↓Pu.vD_13, ↓Pu.vO_13, ↓Pu.rD_13, ↓Pu.rO_13, ↓Pu.kD_13, ↓Pu.kO_13, ↓Pu.vD_14, ↓Pu.vO_14, ↓Pu.rD_14, ↓Pu.rO_14, ↓Pu.kD_14, ↓Pu.kO_14, ↓Pu.vD_15, ↓Pu.vO_15, ↓Pu.rD_15, ↓Pu.rO_15, ↓Pu.kD_15, ↓Pu.kO_15, $xs,*])
  | `(tactic| simp_arith) => `(tactic| simp (disch := first | omega | rfl) only [↓Pu.ok_d1, ↓Pu.ok_d2, ↓Pu.ok_d3, ↓Pu.ok_d4, ↓Pu.ok_d5, ↓Pu.ok_d6, ↓Pu.ok_d7, ↓Pu.ok_bind, ↓Pu.ok_ret, ↓Pu.ok_bad, ↓Pu.ok_mV, ↓Pu.ok_rdD, ↓Pu.ok_rdT, ↓Pu.ok_dtD, ↓Pu.ok_dtT, ↓Pu.ok_rds0, ↓Pu.ok_rdsC, ↓Pu.ok_dts0, ↓Pu.ok_dtsC, ↓Pu.ok_nil, ↓Pu.ok_cons, ↓Pu.ok_bin, ↓Pu.ok_cb, ↓Pu.ok_tup, ↓Pu.ok_lst, ↓Pu.ok_tru, ↓Pu.ok_truB, ↓Pu.ok_truI, ↓Pu.ok_truN, ↓Pu.ok_truL, ↓Pu.ok_truT, ↓Pu.ok_and, ↓Pu.ok_or, ↓Pu.ok_not, ↓Pu.ok_ifE, ↓Pu.ok_andV, ↓Pu.ok_orV, ↓Pu.ok_notV, ↓Pu.ok_neg, ↓Pu.ok_chain, ↓Pu.ok_seq, ↓Pu.ok_skip, ↓Pu.ok_retS, ↓Pu.ok_retN, ↓Pu.ok_bk, ↓Pu.ok_ct, ↓Pu.ok_ex1, ↓Pu.ok_if, ↓Pu.ok_set, ↓Pu.ok_setP, ↓Pu.ok_asg, ↓Pu.ok_gN, ↓Pu.ok_gsN, ↓Pu.ok_gsC, ↓Pu.ok_gT, ↓Pu.ok_gTL, ↓Pu.ok_gSb, ↓Pu.ok_par, ↓Pu.ok_put, ↓Pu.ok_get, ↓Pu.ok_run, ↓Pu.ok_call, ↓Pu.ok_callK, ↓Pu.ok_callKD, ↓Pu.ok_make, ↓Pu.ok_prop, ↓Pu.ok_for, ↓Pu.ok_items, ↓Pu.ok_rng1, ↓Pu.ok_rng2, ↓Pu.ok_comp, ↓Pu.ok_yes, ↓Pu.ok_compS0, ↓Pu.ok_compSC, Pu.wipeE, ↓Pu.ok_sl, ↓Pu.ok_noP, ↓Pu.ok_pt, ↓Pu.ok_slL, ↓Pu.ok_slT, ↓Pu.ok_rep, ↓Pu.ok_app, ↓Pu.ok_oSub, ↓Pu.ok_oMul, ↓Pu.ok_oDiv, ↓Pu.ok_oMod, ↓Pu.ok_oPow, ↓Pu.ok_oLt, ↓Pu.ok_oLe, ↓Pu.ok_oGt, ↓Pu.ok_oGe, ↓Pu.ok_oAdd, ↓Pu.ok_oAddL, ↓Pu.ok_oAddT, ↓Pu.ok_oAddI, ↓Pu.ok_oEqI, ↓Pu.ok_oEqL, ↓Pu.ok_oEqT, ↓Pu.ok_oEqB, ↓Pu.ok_oEqN, ↓Pu.ok_oEqS, ↓Pu.ok_oNeI, ↓Pu.ok_oNeL, ↓Pu.ok_oNeT, ↓Pu.ok_oNeB, ↓Pu.ok_oNeN, ↓Pu.ok_oNeS, ↓Pu.ok_oIs, ↓Pu.ok_oIsN, ↓Pu.ix_0, ↓Pu.ix_1, ↓Pu.ix_2, ↓Pu.ix_3, ↓Pu.ix_4, ↓Pu.it_0, ↓Pu.it_1, ↓Pu.it_2, ↓Pu.it_3, Pu.ixn_0, Pu.ixn_1, Pu.ixn_2, ↓Pu.ok_len, ↓Pu.ok_lenT, ↓Pu.ok_absI, ↓Pu.ok_intI, ↓Pu.ok_max2, ↓Pu.ok_min2, ↓Pu.ok_max3, ↓Pu.ok_min3, ↓Pu.ok_dm, ↓Pu.ok_repr, Pu.argsE, Pu.backE, Pu.outE, Pu.M.dt, List.getElem?_cons_zero, List.getElem?_cons_succ, List.set_cons_zero, List.set_cons_succ, List.take_succ_cons, List.take_zero, List.replicate_zero, List.replicate_succ, List.append_nil, List.nil_append, List.cons_append, List.length_cons, List.length_nil, Nat.sub_self, Nat.reduceSub, Nat.reduceAdd, Nat.reduceLeDiff, decide_true, decide_false, reduceCtorEq, Pu.noBor, Pu.setsE, Pu.slotOf, Pu.setsS, Pu.putFs, Pu.putVs, Pu.lookV, Pu.sel, Pu.isNon, Bool.not_true, Bool.not_false, Bool.not_eq_true, decide_eq_true_eq, decide_eq_false_iff_not, Bool.true_eq_false, Bool.false_eq_true, false_implies, true_implies, and_true, true_and, not_true_eq_false, not_false_eq_true, and_self, implies_true, or_false, false_or, List.flatten_cons, List.flatten_nil, true_or, or_true, Int.sub_zero, eq_self, Pu.veq_int, Pu.veq_str, Pu.cMod, Pu.cDiv, Pu.cPow, Pu.cMul_r, Pu.cMul_l, Pu.strq, String.reduceEq, Pu.sz, Pu.szl, Pu.dOk_int, Pu.dOk_bl, Pu.dOk_non, if_true, if_false, Int.reducePow, Int.reduceToNat, Int.reduceMul, Int.reduceAdd, Int.reduceSub, Int.reduceNeg, Int.reduceLT, Int.reduceLE, Int.reduceGT, Int.reduceEq, gt_iff_lt, ge_iff_le, Nat.reducePow, Nat.reduceMul, Nat.reduceLT, Int.cast_ofNat_Int, false_and, and_false, Bool.and_true, Bool.true_and, Bool.and_false, Bool.false_and, Bool.or_true, Bool.true_or, Bool.or_false, Bool.false_or, ↓Pu.vD_0, ↓Pu.vO_0, ↓Pu.rD_0, ↓Pu.rO_0, ↓Pu.kD_0, ↓Pu.kO_0, ↓Pu.vD_1, ↓Pu.vO_1, ↓Pu.rD_1, ↓Pu.rO_1, ↓Pu.kD_1, ↓Pu.kO_1, ↓Pu.vD_2, ↓Pu.vO_2, ↓Pu.rD_2, ↓Pu.rO_2, ↓Pu.kD_2, ↓Pu.kO_2, ↓Pu.vD_3, ↓Pu.vO_3, ↓Pu.rD_3, ↓Pu.rO_3, ↓Pu.kD_3, ↓Pu.kO_3, ↓Pu.vD_4, ↓Pu.vO_4, ↓Pu.rD_4, ↓Pu.rO_4, ↓Pu.kD_4, ↓Pu.kO_4, ↓Pu.vD_5, ↓Pu.vO_5, ↓Pu.rD_5, ↓Pu.rO_5, ↓Pu.kD_5, ↓Pu.kO_5, ↓Pu.vD_6, ↓Pu.vO_6, ↓Pu.rD_6, ↓Pu.rO_6, ↓Pu.kD_6, ↓Pu.kO_6, ↓Pu.vD_7, ↓Pu.vO_7, ↓Pu.rD_7, ↓Pu.rO_7, ↓Pu.kD_7, ↓Pu.kO_7, ↓Pu.vD_8, ↓Pu.vO_8, ↓Pu.rD_8, ↓Pu.rO_8, ↓Pu.kD_8, ↓Pu.kO_8, ↓Pu.vD_9, ↓Pu.vO_9, ↓Pu.rD_9, ↓Pu.rO_9, ↓Pu.kD_9, ↓Pu.kO_9, ↓Pu.vD_10, ↓Pu.vO_10, ↓Pu.rD_10, ↓Pu.rO_10, ↓Pu.kD_10, ↓Pu.kO_10, ↓Pu.vD_11, ↓Pu.vO_11, ↓Pu.rD_11, ↓Pu.rO_11, ↓Pu.kD_11, ↓Pu.kO_11, ↓Pu.vD_12, ↓Pu.vO_12, ↓Pu.rD_12, ↓Pu.rO_12, ↓Pu.kD_12, ↓Pu.kO_12, ↓Pu.vD_13, ↓Pu.vO_13, ↓Pu.rD_13, ↓Pu.rO_13, ↓Pu.kD_13, ↓Pu.kO_13, ↓Pu.vD_14, ↓Pu.vO_14, ↓Pu.rD_14, ↓Pu.rO_14, ↓Pu.kD_14, ↓Pu.kO_14, ↓Pu.vD_15, ↓Pu.vO_15, ↓Pu.rD_15, ↓Pu.rO_15, ↓Pu.kD_15, ↓Pu.kO_15])
set_option Elab.async false
set_option linter.all false
set_option maxRecDepth 100000
set_option maxHeartbeats 4000000
namespace Pu.Q
open PySem PySem.Spec PyProof.Rows L2 Pu
theorem i_int {i : Int} : fIsi isT [.int i, .ty "int"] = mV (.bl true) := rfl
theorem i_boo {i : Int} : fIsi isT [.int i, .ty "bool"] = mV (.bl false) := rfl
theorem i_str {z : Str} : fIsi isT [.str z, .ty "str"] = mV (.bl true) := rfl
theorem i_rul {fs : List Str} {vs : List Val} : fIsi isT [.obj "Rule" fs vs, .glo "Rule"] = mV (.bl true) := rfl
section
variable {Q : RV → Ev → Prop}
theorem r_is_integer {i : Int} : Ok den_is_integer [.dat (.int i)] Q ↔ Q (.dat (.bl true)) [.un] := by
  simp_arith [↓den_is_integer, ↓b_is_integer, ↓i_int, ↓i_boo]
theorem r_is_between {v lo hi : Int} (h1 : lo ≤ v) (h2 : v ≤ hi) : Ok den_is_between [.dat (.int v), .dat (.int lo), .dat (.int hi)] Q ↔ Q (.dat (.bl true)) [.un, .un, .un] := by
  simp_arith [↓den_is_between, ↓b_is_between, ↓r_is_integer, ↓h1, ↓h2]
theorem r_check_number {v lo hi : Int} (h1 : lo ≤ v) (h2 : v ≤ hi) : Ok den_check_number [.dat (.int v), .dat (.int lo), .dat (.int hi)] Q ↔ Q (.dat .non) [.un, .un, .un] := by
  simp_arith [↓den_check_number, ↓b_check_number, ↓r_is_between h1 h2]
abbrev rV (s l p : Int) (t : Str) : Val := .obj "Rule" ["limit", "parts"] [.int l, .tup [.int s, .str t, .int l, .int p]]
variable {s l p : Int} {t : Str}
theorem r_check_rule : Ok den_check_rule [.dat (rV s l p t)] Q ↔ Q (.dat .non) [.un] := by
  simp_arith [↓den_check_rule, ↓b_check_rule, ↓i_rul]
theorem r_step : Ok den_Rule__step [.dat (rV s l p t)] Q ↔ Q (.dat (.int s)) [.un] := by
  simp_arith [↓den_Rule__step, ↓b_Rule__step]
theorem r_setting : Ok den_Rule__setting [.dat (rV s l p t)] Q ↔ Q (.dat (.str t)) [.un] := by
  simp_arith [↓den_Rule__setting, ↓b_Rule__setting]
def low (t : Str) (s : Int) : Int := if t = "next" then 0 else if t = "last" then 1 - s else -((s - 1) / 2)
def high (t : Str) (s : Int) : Int := if t = "next" then s - 1 else if t = "last" then 0 else s / 2
theorem r_reach : Ok den_reach [.dat (rV s l p t)] Q ↔ Q (.dat (.tup [.int (low t s), .int (high t s)])) [.un] := by
  unfold low high
  by_cases h1 : t = "next"
  · simp_arith [↓den_reach, ↓b_reach, ↓r_setting, ↓r_step, ↓h1]
  · by_cases h2 : t = "last"
    · simp_arith [↓den_reach, ↓b_reach, ↓r_setting, ↓r_step, ↓h1, ↓h2]
    · simp_arith [↓den_reach, ↓b_reach, ↓r_setting, ↓r_step, ↓h1, ↓h2]
theorem r_sip {a b c top : Int} (h1 : 0 < top) (h2 : top < 1606938044258990275541962092341162602522202993782792835301376) :
    Ok den__law_sip [.own (.lst [.int a, .int b, .int c]), .dat (.int top)] fun r e' => ∃ d a' b' c', r = .dat (.int d) ∧ e' = [.own (.lst [.int a', .int b', .int c']), .un] ∧ 0 ≤ d ∧ d < top := by
  simp_arith [↓den__law_sip, ↓b__law_sip, ↓h1, ↓h2]
  refine ⟨fun q => ⟨_, _, _, _, rfl, rfl, Int.emod_nonneg _ (by omega), Int.emod_lt_of_pos _ h1⟩, fun q => ⟨_, _, _, _, rfl, rfl, Int.emod_nonneg _ (by omega), Int.emod_lt_of_pos _ h1⟩⟩
end
section
variable {Q : RV → Ev → Prop} {s l p : Int} {t : Str}
def markV (t : Str) (s a : Int) : Int := a + low t s + (-a - low t s) % s
theorem r_mark_at {a : Int} (hs : 0 < s) : Ok den_mark_at [.dat (rV s l p t), .dat (.int a)] Q ↔ Q (.dat (.int (markV t s a))) [.un, .un] := by
  unfold markV
  simp_arith [↓den_mark_at, ↓b_mark_at, ↓r_reach, ↓r_step, ↓hs]
def mx (i j : Int) : Int := if j > i then j else i
theorem r_arrivals {m : Int} : Ok den_arrivals [.dat (rV s l p t), .dat (.int m)] Q ↔ Q (.dat (.tup [.int (mx 0 (m - high t s)), .int (m - low t s)])) [.un, .un] := by
  unfold mx
  simp_arith [↓den_arrivals, ↓b_arrivals, ↓r_reach]
def inMenu (t : Str) : Prop := t = "next" ∨ t = "last" ∨ t = "near"
theorem notin {t : Str} (h : inMenu t) : oInG true (.str t) (.tup [.str "next", .str "last", .str "near"]) = mV (.bl false) := by
  rcases h with rfl | rfl | rfl <;> rfl
theorem r_init {s l p : Int} {t : Str} (h1 : 1 ≤ s) (h2 : s ≤ 1000000000000) (h3 : s ≤ l) (h4 : l ≤ 1000000000000000000) (h5 : 1 ≤ p) (h6 : p ≤ 1000000000000000000) (ht : inMenu t) :
    Ok den_Rule____init__ [.own (.obj "Rule" [] []), .dat (.int s), .dat (.str t), .dat (.int l), .dat (.int p)] Q ↔ Q (.dat .non) [.own (rV s l p t), .un, .un, .un, .un] := by
  simp_arith [↓den_Rule____init__, ↓b_Rule____init__, ↓r_check_number h1 h2, ↓r_check_number h3 h4, ↓r_check_number h5 h6, ↓i_str, ↓notin ht]
theorem r_made {s l p : Int} {t : Str} (h1 : 1 ≤ s) (h2 : s ≤ 1000000000000) (h3 : s ≤ l) (h4 : l ≤ 1000000000000000000) (h5 : 1 ≤ p) (h6 : p ≤ 1000000000000000000) (ht : inMenu t) :
    Ok den__law_made [.dat (.lst [.int s, .str t, .int l, .int p])] Q ↔ Q (.tmp (rV s l p t)) [.un] := by
  simp_arith [↓den__law_made, ↓b__law_made, ↓r_init h1 h2 h3 h4 h5 h6 ht]
theorem r_pick {a b c : Int} {xs : List Val} (h1 : xs ≠ []) (h2 : xs.length ≤ 1000) :
    Ok den__law_pick [.own (.lst [.int a, .int b, .int c]), .dat (.lst xs)] fun r e' => ∃ v a' b' c', v ∈ xs ∧ r = .dat v ∧ e' = [.own (.lst [.int a', .int b', .int c']), .un] := by
  have h3 : 0 < xs.length := List.length_pos_iff.mpr h1
  simp_arith [↓den__law_pick, ↓b__law_pick]
  refine Ok.mono (r_sip (top := (xs.length : Int)) (by omega) (by omega)) ?_
  rintro _ _ ⟨d, a', b', c', rfl, rfl, h4, h5⟩
  obtain ⟨v, hv, e1⟩ := atI_mem h4 h5
  simp_arith [↓ok_ixL]
  exact ⟨v, e1, v, a', b', c', hv, rfl, rfl⟩
end
section
variable {Q : RV → Ev → Prop} {s l p : Int} {t : Str}
theorem r_far {a b c most : Int} (h1 : 1 ≤ most) (h2 : most < 1606938044258990275541962092341162602522202993782792835301376) :
    Ok den__law_far [.own (.lst [.int a, .int b, .int c]), .dat (.int most)] fun r e' => ∃ d a' b' c', r = .dat (.int d) ∧ e' = [.own (.lst [.int a', .int b', .int c']), .un] ∧ 1 ≤ d ∧ d ≤ most := by
  simp_arith [↓den__law_far, ↓b__law_far]
  refine ⟨fun q => ?_, fun q => ?_⟩
  · refine Ok.mono (r_sip (by omega) (by omega)) ?_
    rintro _ _ ⟨d, a', b', c', rfl, rfl, h4, h5⟩
    simp_arith
    exact ⟨_, _, _, _, rfl, rfl, by omega, by omega⟩
  · refine Ok.mono (r_pick (by simp) (by simp)) ?_
    rintro _ _ ⟨v, a', b', c', hv, rfl, rfl⟩
    have hi : ∃ k, v = .int k := by
      simp only [List.mem_cons, List.not_mem_nil, or_false] at hv
      rcases hv with rfl | rfl | rfl | rfl | rfl | rfl | rfl | rfl <;> exact ⟨_, rfl⟩
    obtain ⟨k, rfl⟩ := hi
    simp_arith
    refine Ok.mono (r_sip (by omega) (by omega)) ?_
    rintro _ _ ⟨d, a1, b1, c1, rfl, rfl, h4, h5⟩
    simp_arith
    refine Ok.mono (r_sip (by omega) (by omega)) ?_
    rintro _ _ ⟨d2, a2, b2, c2, rfl, rfl, h6, h7⟩
    simp_arith
    refine ⟨by omega, _, _, _, _, rfl, rfl, ?_, ?_⟩
    · have := Int.emod_nonneg (d * k + d2) (show most ≠ 0 by omega)
      omega
    · have := Int.emod_lt_of_pos (d * k + d2) (show 0 < most by omega)
      omega
def pV (g f p : Int) (t : Str) : Val := .lst [.int g, .str t, .int f, .int p]
def lmark (t : Str) (g a : Int) : Int := if a % g = 0 ∨ t = "last" then a - a % g else if t = "next" ∨ 2 * (a % g) ≥ g then a - a % g + g else a - a % g
theorem r_mark {g f p a : Int} (hg : 0 < g) : Ok den__law_mark [.dat (.lst [.int g, .str t, .int f, .int p]), .dat (.int a)] Q ↔ Q (.dat (.int (lmark t g a))) [.un, .un] := by
  have e1 : ∀ x : Int, (a - x = a) ↔ x = 0 := fun x => by omega
  have e2 : a - (a - a % g) = a % g := by omega
  unfold lmark
  by_cases h0 : a % g = 0
  · simp_arith [↓den__law_mark, ↓b__law_mark, ↓hg, ↓e1, ↓h0]
  · by_cases h1 : t = "last"
    · simp_arith [↓den__law_mark, ↓b__law_mark, ↓hg, ↓e1, ↓h0, ↓h1]
    · by_cases h2 : t = "next"
      · simp_arith [↓den__law_mark, ↓b__law_mark, ↓hg, ↓e1, ↓h0, ↓h1, ↓h2]
      · by_cases h3 : g ≤ 2 * (a % g)
        · simp_arith [↓den__law_mark, ↓b__law_mark, ↓hg, ↓e1, ↓e2, ↓h0, ↓h1, ↓h2, ↓h3]
        · simp_arith [↓den__law_mark, ↓b__law_mark, ↓hg, ↓e1, ↓e2, ↓h0, ↓h1, ↓h2, ↓h3]
def lspan (t : Str) (g k : Int) : Int × Int := if t = "next" then (mx 0 (k - g + 1), k) else if t = "last" then (k, k + g - 1) else (mx 0 (k - g / 2), k + (g - 1) / 2)
theorem r_span {g f p k : Int} : Ok den__law_span [.dat (.lst [.int g, .str t, .int f, .int p]), .dat (.int k)] Q ↔ Q (.dat (.tup [.int (lspan t g k).1, .int (lspan t g k).2])) [.un, .un] := by
  unfold lspan mx
  by_cases h1 : t = "next"
  · simp_arith [↓den__law_span, ↓b__law_span, ↓h1]
  · by_cases h2 : t = "last"
    · simp_arith [↓den__law_span, ↓b__law_span, ↓h1, ↓h2]
    · simp_arith [↓den__law_span, ↓b__law_span, ↓h1, ↓h2]
end
theorem ceil_iff {y k g : Int} (hg : 0 < g) (hk : k % g = 0) : y + (-y) % g = k ↔ k - g < y ∧ y ≤ k := by
  have h0 := Int.emod_nonneg (-y) (show g ≠ 0 by omega)
  have h1 := Int.emod_lt_of_pos (-y) hg
  have h2 : (y + (-y) % g) % g = 0 := by
    rw [Int.add_emod, Int.emod_emod_of_dvd _ (Int.dvd_refl g), ← Int.add_emod, Int.add_right_neg, Int.zero_emod]
  constructor
  · intro h; omega
  · rintro ⟨h3, h4⟩
    obtain ⟨c, hc⟩ := Int.dvd_of_emod_eq_zero h2
    obtain ⟨d, hd⟩ := Int.dvd_of_emod_eq_zero hk
    have e1 : y + (-y) % g - k = g * (c - d) := by rw [Int.mul_sub, ← hc, ← hd]
    have b1 : y + (-y) % g - k < g := by omega
    have b2 : -g < y + (-y) % g - k := by omega
    have e2 : c - d = 0 := by
      rcases Int.lt_trichotomy (c - d) 0 with q | q | q
      · have : g * (c - d) ≤ g * (-1) := Int.mul_le_mul_of_nonneg_left (by omega) (by omega)
        omega
      · exact q
      · have : g * 1 ≤ g * (c - d) := Int.mul_le_mul_of_nonneg_left (by omega) (by omega)
        omega
    rw [e2] at e1
    omega
theorem high_low {t : Str} {g : Int} (ht : inMenu t) : high t g = low t g + g - 1 := by
  unfold high low
  rcases ht with rfl | rfl | rfl
  · simp_arith
    omega
  · simp_arith
    omega
  · simp_arith
    omega
theorem mark_iff {t : Str} {g x k : Int} (hg : 0 < g) (ht : inMenu t) (hk : k % g = 0) : markV t g x = k ↔ k - high t g ≤ x ∧ x ≤ k - low t g := by
  have h := ceil_iff (y := x + low t g) hg hk
  have e : markV t g x = x + low t g + (-(x + low t g)) % g := by
    unfold markV
    rw [show -x - low t g = -(x + low t g) by omega]
  rw [e, h, high_low ht]
  constructor
  · rintro ⟨a, b⟩; exact ⟨by omega, by omega⟩
  · rintro ⟨a, b⟩; exact ⟨by omega, by omega⟩
theorem down {g a : Int} (hg : 0 < g) : (a - a % g) % g = 0 := by
  rw [Int.sub_emod, Int.emod_emod_of_dvd _ (Int.dvd_refl g), Int.sub_self, Int.zero_emod]
theorem up_ {g a : Int} (hg : 0 < g) : (a - a % g + g) % g = 0 := by
  rw [Int.add_emod, down hg]
  simp
theorem lmark_mul {t : Str} {g a : Int} (hg : 0 < g) : lmark t g a % g = 0 := by
  unfold lmark
  split
  · exact down hg
  · split
    · exact up_ hg
    · exact down hg
theorem lmark_eq {t : Str} {g a : Int} (hg : 0 < g) (ht : inMenu t) : markV t g a = lmark t g a := by
  rw [mark_iff hg ht (lmark_mul hg)]
  have h0 := Int.emod_nonneg a (show g ≠ 0 by omega)
  have h1 := Int.emod_lt_of_pos a hg
  unfold high low lmark
  rcases ht with rfl | rfl | rfl
  · simp_arith
    split <;> omega
  · simp_arith
    omega
  · simp_arith
    split
    · omega
    · split <;> omega
theorem Ok.seq {a b : S} {e : Ev} {Q : Out → Ev → Prop} (P : Ev → Prop) (h : Ok a e fun o e1 => o = .nx ∧ P e1) (k : ∀ e1, P e1 → Ok b e1 Q) : Ok (mSeq a b) e Q := by
  rw [ok_seq]
  exact Ok.mono h fun o e1 ⟨h1, h2⟩ => by subst h1; exact k e1 h2
theorem Ok.loopI {mt : Val → M Unit} {mb : S} (P : Ev → Prop) {vs : List Val} {e : Ev} (h : P e) (st : ∀ (v : Val) (e : Ev), v ∈ vs → P e → Ok (mt v) e fun _ e1 => Ok mb e1 fun o e2 => (o = .nx ∨ o = .ct) ∧ P e2) : Ok (loopS mt mb vs) e fun o e' => o = .nx ∧ P e' :=
  Ok.loop (fun _ => P) (i := 0) h fun j v e hj hp => st v e (List.mem_of_getElem? hj) hp
theorem r_flask {ns : List Int} {k : Int} (hk : 0 ≤ k) : Ok den__law_flask [.dat (.lst (ns.map .int)), .dat (.int k)] fun r e' => ∃ a b c, r = .tmp (.lst [.int a, .int b, .int c]) ∧ e' = [.un, .un] := by
  unfold den__law_flask
  rw [ok_d2]
  unfold b__law_flask
  refine Ok.seq (fun e => ∃ i, e = [.dat (.lst (ns.map .int)), .dat (.int k), .dat (.int i), .un, .un]) ?_ ?_
  · simp_arith
    refine ⟨fun q => ?_, fun _ => ⟨_, rfl⟩⟩
    obtain ⟨v, hv, e1⟩ := atI_mem hk q
    obtain ⟨i, _, rfl⟩ := List.mem_map.mp hv
    simp_arith [↓ok_ixL]
    exact ⟨_, e1, by simp_arith; exact ⟨_, rfl⟩⟩
  rintro _ ⟨i, rfl⟩
  refine Ok.seq (fun e => ∃ st, e = [.dat (.lst (ns.map .int)), .dat (.int k), .dat (.int i), .dat (.int st), .un]) ?_ ?_
  · simp_arith
    exact ⟨_, rfl⟩
  rintro _ ⟨st, rfl⟩
  refine Ok.seq (fun e => ∃ st s4, e = [.dat (.lst (ns.map .int)), .dat (.int k), .dat (.int i), .dat (.int st), s4]) ?_ ?_
  · simp_arith
    refine Ok.loopI _ ⟨_, _, rfl⟩ ?_
    rintro v _ hv ⟨st, s4, rfl⟩
    have hi : ∃ j, v = .int j := by
      have h1 := List.mem_of_mem_take hv
      have h2 := List.mem_of_mem_drop h1
      obtain ⟨j, _, rfl⟩ := List.mem_map.mp h2
      exact ⟨j, rfl⟩
    obtain ⟨j, rfl⟩ := hi
    simp_arith
    exact ⟨_, _, rfl⟩
  rintro _ ⟨st, s4, rfl⟩
  simp_arith
  exact ⟨fun q => ⟨_, _, _, rfl⟩, fun q => ⟨_, _, _, rfl⟩⟩
section
variable {Q : RV → Ev → Prop} {s l p : Int} {t : Str}
theorem r_mark' {g f p a : Int} (hg : 0 < g) (ht : inMenu t) : Ok den__law_mark [.dat (.lst [.int g, .str t, .int f, .int p]), .dat (.int a)] Q ↔ Q (.dat (.int (markV t g a))) [.un, .un] := by
  rw [r_mark hg, lmark_eq hg ht]
theorem span_eq {g k : Int} (ht : inMenu t) (hk : 0 ≤ k) : lspan t g k = (mx 0 (k - high t g), k - low t g) := by
  unfold lspan low high mx
  rcases ht with rfl | rfl | rfl
  · simp_arith
    rw [show k - (g - 1) = k - g + 1 by omega]
  · simp_arith
    rw [show k - (1 - g) = k + g - 1 by omega]
    by_cases h : 0 < k
    · simp_arith [↓h]
    · have : k = 0 := by omega
      subst this
      simp_arith
  · simp_arith
    rw [show k - -((g - 1) / 2) = k + (g - 1) / 2 by omega]
theorem r_span' {g f p k : Int} (ht : inMenu t) (hk : 0 ≤ k) : Ok den__law_span [.dat (.lst [.int g, .str t, .int f, .int p]), .dat (.int k)] Q ↔ Q (.dat (.tup [.int (mx 0 (k - high t g)), .int (k - low t g)])) [.un, .un] := by
  rw [r_span, span_eq ht hk]
end
theorem Ok.compF {ws : List Nat} {mt : Val → M Unit} {me : M RV} {vs : List Val} {e : Ev} (f : Val → Val) (hl : vs.length ≤ sizeLine)
    (st : ∀ v ∈ vs, Ok (mt v) e fun _ e1 => Ok me e1 fun x e3 => Ok (M.dt x) e3 fun w e4 => w = f v ∧ wipeE e4 ws = e) :
    Ok (compS ws mt mYes me vs []) e fun r e' => r = vs.map f ∧ e' = e := by
  refine Ok.mono (Ok.compS (fun e' => e' = e) (fun v w => w = f v) rfl (by simpa using hl) fun v e' hv he => by subst he; exact st v hv) ?_
  rintro r e' ⟨h1, rs, h2, h3, h4⟩
  rw [List.nil_append] at h2
  subst h2
  refine ⟨?_, h1⟩
  apply List.ext_getElem (by rw [h3, List.length_map])
  intro j a b
  rw [List.getElem_map]
  have b' : j < vs.length := by rwa [List.length_map] at b
  exact h4 j _ _ (List.getElem?_eq_getElem b') (List.getElem?_eq_getElem a)
theorem dOk_is {is : List Int} : dOk (.lst (is.map .int)) = true ↔ True := by
  have h1 : isDs (is.map .int) = true := by induction is with
    | nil => rfl
    | cons i is ih => simp [isDs, isD, ih]
  have h2 : deps (is.map .int) = 0 := by induction is with
    | nil => rfl
    | cons i is ih => simp only [List.map_cons, deps, dep, ih (by simpa [isDs, isD] using h1)]; rfl
  simp [dOk, isD, dep, h1, h2]
theorem veq_is {is : List Int} : veq (.lst (is.map .int)) (.lst (is.map .int)) = true := veq_lst fun x hx => by
  obtain ⟨i, _, rfl⟩ := List.mem_map.mp hx
  rw [veq_int, decide_eq_true rfl]
theorem ints_is : ∀ {is : List Int}, ints? (is.map .int) = some is
  | [] => rfl
  | i :: is => by simp only [List.map_cons, ints?, ints_is (is := is)]
section
variable {Q : RV → Ev → Prop} {s l p : Int} {t : Str}
theorem n1 : inMenu "next" := .inl rfl
theorem n2 : inMenu "last" := .inr (.inl rfl)
theorem n3 : inMenu "near" := .inr (.inr rfl)
theorem mx_n (i j : Int) : mx i j = if j > i then j else i := rfl
theorem back_t {v : Val} {p e : Ev} : backE [true] [.tmp v] p e = e := by cases p <;> rfl
end
end Pu.Q
set_option Elab.async false
set_option linter.all false
set_option maxRecDepth 100000
set_option maxHeartbeats 4000000
namespace Pu.Q
open PySem PySem.Spec PyProof.Rows L2 Pu
theorem ok_det {α : Type} {m : M α} {e e' : Ev} {a : α} {Q : α → Ev → Prop} (h : Ok m e fun r x => r = a ∧ x = e') : Ok m e Q ↔ Q a e' := by
  obtain ⟨r, x, h1, rfl, rfl⟩ := ok_ex.mp h
  constructor
  · intro q
    obtain ⟨r', x', h2, q⟩ := ok_ex.mp q
    rw [h1] at h2; cases h2
    exact q
  · intro q
    exact ok_ex.mpr ⟨_, _, h1, q⟩
theorem Ok.via {α : Type} {m : M α} {e : Ev} {Q : α → Ev → Prop} (h : ∀ Q' : α → Ev → Prop, (∀ a e', Q a e' → Q' a e') → Ok m e Q') : Ok m e Q := h Q fun _ _ q => q
theorem ixT_of {xs : List Val} {i : Int} {v : Val} {e : Ev} {Q : RV → Ev → Prop} (h : atI xs i = some v) : Ok (oIx (.tup xs) (.int i)) e Q ↔ Q (.dat v) e := by
  rw [ok_ixT, h]; simp
theorem ixL_of {xs : List Val} {i : Int} {v : Val} {e : Ev} {Q : RV → Ev → Prop} (h : atI xs i = some v) : Ok (oIx (.lst xs) (.int i)) e Q ↔ Q (.dat v) e := by
  rw [ok_ixL, h]; simp
def optV : Option Int → Val
  | none => .non
  | some i => .int i
theorem optV_none : optV none = .non := rfl
theorem optV_some {i : Int} : optV (some i) = .int i := rfl
theorem ok_oEqO {a b : Option Int} {e : Ev} {Q : RV → Ev → Prop} : Ok (oEq (optV a) (optV b)) e Q ↔ Q (.dat (.bl (decide (a = b)))) e := by
  cases a <;> cases b
  · have : Ok (oEq .non .non) e Q ↔ Q (.dat (.bl (veq .non .non))) e := Iff.rfl
    simpa [optV, show veq .non .non = true from by decide +kernel] using this
  · rename_i j
    have : Ok (oEq .non (.int j)) e Q ↔ Q (.dat (.bl (veq .non (.int j)))) e := Iff.rfl
    simpa [optV, show veq .non (.int j) = false from by simp [veq, toP, PyData.eqv]] using this
  · rename_i j
    have : Ok (oEq (.int j) .non) e Q ↔ Q (.dat (.bl (veq (.int j) .non))) e := Iff.rfl
    simpa [optV, show veq (.int j) .non = false from by simp [veq, toP, PyData.eqv]] using this
  · rename_i i j
    rw [show optV (some i) = .int i from rfl, show optV (some j) = .int j from rfl, ok_oEqI, veq_int]
    simp [dOk_int]
theorem r_Rule__pause {s l p : Int} {t : Str} {Q : RV → Ev → Prop} : Ok den_Rule__pause [.dat (rV s l p t)] Q ↔ Q (.dat (.int p)) [.un] := by
  simp_arith [↓den_Rule__pause, ↓b_Rule__pause]
abbrev Note := Int × Int × Option Int
def nV (n : Note) : Val := .tup [.int n.1, .int n.2.1, optV n.2.2]
def notesV (ns : List Note) : Val := .tup (ns.map nV)
theorem inF_is {i : Int} {is : List Int} : inF (.int i) (is.map .int) = decide (i ∈ is) := by
  unfold inF
  rw [Bool.eq_iff_iff]
  simp only [List.any_eq_true, List.mem_map, decide_eq_true_eq]
  constructor
  · rintro ⟨y, ⟨j, hj, rfl⟩, h⟩
    rw [veq_int, decide_eq_true_eq] at h
    rw [← h]; exact hj
  · intro h
    exact ⟨_, ⟨i, h, rfl⟩, by rw [veq_int, decide_eq_true rfl]⟩
theorem flat_is {is : List Int} : (is.map Val.int).all flat = true := by
  rw [List.all_eq_true]
  intro x hx
  obtain ⟨i, _, rfl⟩ := List.mem_map.mp hx
  rfl
theorem ok_inT {i : Int} {is : List Int} {e : Ev} {Q : RV → Ev → Prop} : Ok (oInG false (.int i) (.tup (is.map .int))) e Q ↔ Q (.dat (.bl (decide (i ∈ is)))) e := by
  show Ok (if (flat (.int i) && (is.map Val.int).all flat) = true then mV (.bl (if false = true then !inF (.int i) (is.map .int) else inF (.int i) (is.map .int))) else M.bad) e Q ↔ _
  rw [if_pos (by rw [flat_is]; rfl), ok_mV, inF_is]
  rfl
theorem isNon_opt {m : Option Int} : isNon (optV m) = m.isNone := by cases m <;> rfl
def mkAt (ns : List Note) (i : Nat) : Option Int := (ns[i]?).bind (·.2.2)
def joinsB (ns : List Note) (i : Nat) (ap : List Int) : Bool := decide (0 < i) && !decide ((i : Int) ∈ ap) && (mkAt ns i).isSome && decide (mkAt ns i = mkAt ns (i - 1))
theorem atI_ns {ns : List Note} {i : Nat} (h : i < ns.length) : atI (ns.map nV) (i : Int) = some (nV ns[i]) := atI_lit i (by simp [h])
theorem ixN_of {ns : List Note} {i : Nat} {e : Ev} {Q : RV → Ev → Prop} (h : i < ns.length) : Ok (oIx (notesV ns) (.int i)) e Q ↔ Q (.dat (nV ns[i])) e := ixT_of (atI_ns h)
theorem mkAt_of {ns : List Note} {i : Nat} (h : i < ns.length) : mkAt ns i = ns[i].2.2 := by simp [mkAt, h]
theorem r_joins {ns : List Note} {i : Nat} {ap : List Int} (h : i < ns.length) {Q : RV → Ev → Prop} :
    Ok den_joins [.dat (notesV ns), .dat (.int i), .dat (.tup (ap.map .int))] Q ↔ Q (.dat (.bl (joinsB ns i ap))) [.un, .un, .un] := by
  refine ok_det ?_
  unfold notesV joinsB
  have h1 := atI_ns h
  have h1' : nV ns[i] = .tup [.int ns[i].1, .int ns[i].2.1, optV ns[i].2.2] := rfl
  rw [mkAt_of h]
  cases i with
  | zero => simp_arith [↓den_joins, ↓b_joins]
            try simp
  | succ i =>
    have h2 : i < ns.length := by omega
    have h3 := atI_ns h2
    have h3' : nV ns[i] = .tup [.int ns[i].1, .int ns[i].2.1, optV ns[i].2.2] := rfl
    have h4 : ((i + 1 : Nat) : Int) - 1 = (i : Nat) := by omega
    have h5 : ¬ ((i + 1 : Nat) : Int) = 0 := by omega
    rw [show i + 1 - 1 = i by omega, mkAt_of h2]
    simp_arith [↓den_joins, ↓b_joins, ↓h5, ↓ok_inT, ↓ixT_of h1, ↓h1', ↓h4, ↓ixT_of h3, ↓h3', ↓isNon_opt, ↓ok_oEqO]
    refine ⟨fun a => ?_, fun a => ⟨fun b => ?_, fun b => ?_⟩⟩
    · simp only [a, decide_true, Bool.not_true, Bool.and_false, Bool.false_and]
    · rw [Option.isNone_iff_eq_none] at b
      simp only [b, Option.isSome_none, Bool.and_false, Bool.false_and]
    · have c : ns[i + 1].2.2.isSome = true := by
        cases q : ns[i + 1].2.2
        · rw [q] at b; cases b
        · rfl
      have d : decide (0 < i + 1) = true := decide_eq_true (by omega)
      simp only [a, c, d, decide_false, Bool.not_false, Bool.and_true, Bool.true_and]
theorem if_mx {i j : Int} : (if i < j then j else i) = mx i j := rfl
def leastArr (p now : Int) (last : Option Int) (ab : Bool) : Int :=
  let l := match last with
    | none => 0
    | some x => x + p
  if ab then mx l (now + 1) else l
theorem r_least_arrival {s l p now : Int} {t : Str} {last : Option Int} {ab : Bool} {Q : RV → Ev → Prop} :
    Ok den_least_arrival [.dat (rV s l p t), .dat (.int now), .dat (optV last), .dat (.bl ab), .dat (.bl false)] Q ↔ Q (.dat (.int (leastArr p now last ab))) [.un, .un, .un, .un, .un] := by
  refine ok_det ?_
  cases last <;> cases ab <;> simp_arith [↓den_least_arrival, ↓b_least_arrival, ↓optV_none, ↓optV_some, ↓r_Rule__pause, ↓leastArr, ↓if_mx]
structure WS where
  now : Int
  last : Option Int
  beg : Option Int
def absB (ns : List Note) (i : Nat) : Bool := decide (0 < i) && (mkAt ns (i - 1)).isNone
def wStep (s p : Int) (t : Str) (ns : List Note) (ap : List Int) (i : Nat) (n : Note) (w : WS) : Option WS :=
  match n.2.2 with
  | none =>
    let x := mx (mx n.1 w.now) (match w.last with
      | none => 0
      | some x => x + 1)
    if n.2.1 < x then none else some ⟨x, w.last, w.beg⟩
  | some m => if joinsB ns i ap then (if n.2.1 < mx n.1 w.now then none else some ⟨mx n.1 w.now, some (mx n.1 w.now), w.beg⟩)
    else
      let b := mx (mx 0 (m - high t s)) (leastArr p w.now w.last (absB ns i))
      if m - low t s < b then none else if n.2.1 < mx (mx n.1 w.now) b then none else some ⟨mx (mx n.1 w.now) b, some (mx (mx n.1 w.now) b), some b⟩
def wGo (s p : Int) (t : Str) (ns : List Note) (ap : List Int) : List Note → Nat → WS → Option (List (Int × Option Int))
  | [], _, _ => some []
  | n :: r, i, w => match wStep s p t ns ap i n w with
    | none => none
    | some w' => match wGo s p t ns ap r (i + 1) w' with
      | none => none
      | some out => some ((w'.now, n.2.2.bind fun _ => w'.beg) :: out)
theorem wGo_none {s p : Int} {t : Str} {ns : List Note} {ap : List Int} {n : Note} {r : List Note} {i : Nat} {w : WS} (h : wStep s p t ns ap i n w = none) : wGo s p t ns ap (n :: r) i w = none := by
  simp only [wGo, h]
theorem wGo_some {s p : Int} {t : Str} {ns : List Note} {ap : List Int} {n : Note} {r : List Note} {i : Nat} {w w' : WS} (h : wStep s p t ns ap i n w = some w') : wGo s p t ns ap (n :: r) i w = match wGo s p t ns ap r (i + 1) w' with
    | none => none
    | some out => some ((w'.now, n.2.2.bind fun _ => w'.beg) :: out) := by
  simp only [wGo, h]
def wV (q : Int × Option Int) : Val := .tup [.int q.1, optV q.2]
abbrev w0 : WS := ⟨0, none, none⟩
def ways (s p : Int) (t : Str) (ns : List Note) (ap : List Int) : Option (List (Int × Option Int)) := wGo s p t ns ap ns 0 w0
theorem ways_loop {s l p : Int} {t : Str} {ns : List Note} {ap : List Int} : ∀ (rest : List Note) (i : Nat) (w : WS) (acc : List Val) (s8 s9 s10 s11 s12 s13 s14 s15 : Slot), ns.drop i = rest → acc.length + rest.length ≤ 1000 →
    Ok ((loopS (gT 2 (gsC (gN 8) (gsC (gT 3 (gsC (gN 10) (gsC (gN 11) (gsC (gN 12) gsN)))) gsN))) (mSeq (mSet 9 (mCB fMax2 (mCons (mVar 10) (mCons (mVar 4) mNil)))) (mSeq (mIf (mTru (mBin oIs (mVar 12) (mV .non))) (mSet 9 (mCB fMax2 (mCons (mVar 9) (mCons (mIfE (mTru (mBin oIs (mVar 5) (mV .non))) (mV (.int 0)) (mBin oAdd (mVar 5) (mV (.int 1)))) mNil)))) (mIf (mNot (mTru (mCall [false, false, false] den_joins (mCons (mVar 1) (mCons (mVar 8) (mCons (mVar 2) mNil))) []))) (mSeq (mAsg (gT 2 (gsC (gN 14) (gsC (gN 15) gsN))) (mCall [false, false] den_arrivals (mCons (mVar 0) (mCons (mVar 12) mNil)) [])) (mSeq (mSet 13 (mAndV (mBin oGt (mVar 8) (mV (.int 0))) (mBin oIs (mBin oIx (mBin oIx (mVar 1) (mBin oSub (mVar 8) (mV (.int 1)))) (mV (.int 2))) (mV .non)))) (mSeq (mSet 6 (mCB fMax2 (mCons (mVar 14) (mCons (mCall [false, false, false, false, false] den_least_arrival (mCons (mVar 0) (mCons (mVar 4) (mCons (mVar 5) (mCons (mVar 13) (mCons (mVar 3) mNil))))) []) mNil)))) (mSeq (mIf (mTru (mBin oGt (mVar 6) (mVar 15))) (mRet (mV .non)) mSkip) (mSet 9 (mCB fMax2 (mCons (mVar 9) (mCons (mVar 6) mNil)))))))) mSkip)) (mSeq (mIf (mTru (mBin oGt (mVar 9) (mVar 11))) (mRet (mV .non)) mSkip) (mSeq (mPar false [4, 5] (mCons (mVar 9) (mCons (mIfE (mTru (mBin oIs (mVar 12) (mV .non))) (mVar 5) (mVar 9)) mNil))) (mEx (mApp (mVar 7) (mTup (mCons (mVar 9) (mCons (mIfE (mTru (mBin oIs (mVar 12) (mV .non))) (mV .non) (mVar 6)) mNil)))))))))) (enumV (i : Int) (rest.map nV))) [.dat (rV s l p t), .dat (notesV ns), .dat (.tup (ap.map .int)), .dat (.bl false), .dat (.int w.now), .dat (optV w.last), .dat (optV w.beg), .own (.lst acc), s8, s9, s10, s11, s12, s13, s14, s15]
      fun o e' => match wGo s p t ns ap rest i w with
        | none => o = .rt (.dat .non) ∧ ∃ x4 x5 x6 x7 x8 x9 x10 x11 x12 x13 x14 x15, e' = [.dat (rV s l p t), .dat (notesV ns), .dat (.tup (ap.map .int)), .dat (.bl false), x4, x5, x6, x7, x8, x9, x10, x11, x12, x13, x14, x15]
        | some out => o = .nx ∧ ∃ x4 x5 x6 x8 x9 x10 x11 x12 x13 x14 x15, e' = [.dat (rV s l p t), .dat (notesV ns), .dat (.tup (ap.map .int)), .dat (.bl false), x4, x5, x6, .own (.lst (acc ++ out.map wV)), x8, x9, x10, x11, x12, x13, x14, x15]
  | [], i, w, acc, s8, s9, s10, s11, s12, s13, s14, s15, _, _ => by
    show Ok (loopS _ _ []) _ _
    rw [ok_loop0]
    exact ⟨rfl, _, _, _, _, _, _, _, _, _, _, _, by rw [List.map_nil, List.append_nil]⟩
  | n :: r, i, w, acc, s8, s9, s10, s11, s12, s13, s14, s15, hd, hl => by
    have hi : i < ns.length := by
      have := congrArg List.length hd
      rw [List.length_drop, List.length_cons] at this
      omega
    have hn : ns[i] = n := by
      have h1 : (ns.drop i)[0]? = some n := by rw [hd]; rfl
      rw [List.getElem?_drop] at h1
      simpa [hi] using h1
    have hr : ns.drop (i + 1) = r := by
      have := congrArg List.tail hd
      simpa using this
    obtain ⟨lo, hi', m⟩ := n
    rw [List.map_cons]
    refine Ok.via fun Q' k => ?_
    rw [show enumV (i : Int) (nV (lo, hi', m) :: r.map nV) = .tup [.int i, nV (lo, hi', m)] :: enumV ((i : Int) + 1) (r.map nV) from rfl, ok_loopC]
    rw [List.length_cons] at hl
    have ih := fun w acc s8 s9 s10 s11 s12 s13 s14 s15 h => ways_loop (s := s) (l := l) (p := p) (t := t) (ap := ap) r (i + 1) w acc s8 s9 s10 s11 s12 s13 s14 s15 hr h
    have e1 : ((i : Int) + 1) = ((i + 1 : Nat) : Int) := by omega
    rw [← e1] at ih
    have stop : ∀ {x4 x5 x6 x7 x8 x9 x10 x11 x12 x13 x14 x15}, wStep s p t ns ap i (lo, hi', m) w = none → Q' (.rt (.dat .non)) [.dat (rV s l p t), .dat (notesV ns), .dat (.tup (ap.map .int)), .dat (.bl false), x4, x5, x6, x7, x8, x9, x10, x11, x12, x13, x14, x15] := fun h => k _ _ (by
      rw [wGo_none h]
      exact ⟨rfl, _, _, _, _, _, _, _, _, _, _, _, _, rfl⟩)
    have on : ∀ {w' s8 s9 s10 s11 s12 s13 s14 s15}, wStep s p t ns ap i (lo, hi', m) w = some w' → Ok ((loopS (gT 2 (gsC (gN 8) (gsC (gT 3 (gsC (gN 10) (gsC (gN 11) (gsC (gN 12) gsN)))) gsN))) (mSeq (mSet 9 (mCB fMax2 (mCons (mVar 10) (mCons (mVar 4) mNil)))) (mSeq (mIf (mTru (mBin oIs (mVar 12) (mV .non))) (mSet 9 (mCB fMax2 (mCons (mVar 9) (mCons (mIfE (mTru (mBin oIs (mVar 5) (mV .non))) (mV (.int 0)) (mBin oAdd (mVar 5) (mV (.int 1)))) mNil)))) (mIf (mNot (mTru (mCall [false, false, false] den_joins (mCons (mVar 1) (mCons (mVar 8) (mCons (mVar 2) mNil))) []))) (mSeq (mAsg (gT 2 (gsC (gN 14) (gsC (gN 15) gsN))) (mCall [false, false] den_arrivals (mCons (mVar 0) (mCons (mVar 12) mNil)) [])) (mSeq (mSet 13 (mAndV (mBin oGt (mVar 8) (mV (.int 0))) (mBin oIs (mBin oIx (mBin oIx (mVar 1) (mBin oSub (mVar 8) (mV (.int 1)))) (mV (.int 2))) (mV .non)))) (mSeq (mSet 6 (mCB fMax2 (mCons (mVar 14) (mCons (mCall [false, false, false, false, false] den_least_arrival (mCons (mVar 0) (mCons (mVar 4) (mCons (mVar 5) (mCons (mVar 13) (mCons (mVar 3) mNil))))) []) mNil)))) (mSeq (mIf (mTru (mBin oGt (mVar 6) (mVar 15))) (mRet (mV .non)) mSkip) (mSet 9 (mCB fMax2 (mCons (mVar 9) (mCons (mVar 6) mNil)))))))) mSkip)) (mSeq (mIf (mTru (mBin oGt (mVar 9) (mVar 11))) (mRet (mV .non)) mSkip) (mSeq (mPar false [4, 5] (mCons (mVar 9) (mCons (mIfE (mTru (mBin oIs (mVar 12) (mV .non))) (mVar 5) (mVar 9)) mNil))) (mEx (mApp (mVar 7) (mTup (mCons (mVar 9) (mCons (mIfE (mTru (mBin oIs (mVar 12) (mV .non))) (mV .non) (mVar 6)) mNil)))))))))) (enumV ((i : Int) + 1) (r.map nV))) [.dat (rV s l p t), .dat (notesV ns), .dat (.tup (ap.map .int)), .dat (.bl false), .dat (.int w'.now), .dat (optV w'.last), .dat (optV w'.beg), .own (.lst (acc ++ [.tup [.int w'.now, optV (m.bind fun _ => w'.beg)]])), s8, s9, s10, s11, s12, s13, s14, s15] Q' := fun {w' s8 s9 s10 s11 s12 s13 s14 s15} h => by
      refine Ok.mono (ih w' _ _ _ _ _ _ _ _ _ (by simp; omega)) fun o e' q => k _ _ ?_
      rw [wGo_some h]
      split at q
      · rename_i hg
        try rw [hg]
        exact q
      · rename_i out hg
        try rw [hg]
        obtain ⟨h1, x4, x5, x6, x8, x9, x10, x11, x12, x13, x14, x15, rfl⟩ := q
        exact ⟨h1, x4, x5, x6, x8, x9, x10, x11, x12, x13, x14, x15, by simp [List.append_assoc, wV]⟩
    clear ih k
    obtain ⟨now, last, beg⟩ := w
    cases m with
    | none =>
      cases last with
      | none =>
        simp_arith [↓nV, ↓optV_none, ↓if_mx]
        exact ⟨fun c => stop (by simp only [wStep, if_pos c]), fun c => on (w' := ⟨mx (mx lo now) 0, none, beg⟩) (by simp only [wStep, if_neg c])⟩
      | some lastx =>
        simp_arith [↓nV, ↓optV_none, ↓optV_some, ↓if_mx]
        exact ⟨fun c => stop (by simp only [wStep, if_pos c]), fun c => on (w' := ⟨mx (mx lo now) (lastx + 1), some lastx, beg⟩) (by simp only [wStep, if_neg c])⟩
    | some m =>
      by_cases hj : joinsB ns i ap = true
      · simp_arith [↓nV, ↓optV_some, ↓if_mx, ↓r_joins hi, ↓hj]
        exact ⟨fun c => stop (by simp only [wStep, if_pos hj, if_pos c]), fun c => on (w' := ⟨mx lo now, some (mx lo now), beg⟩) (by simp only [wStep, if_pos hj, if_neg c])⟩
      · have hj' : joinsB ns i ap = false := by simpa using hj
        obtain ⟨B, hB⟩ : ∃ B, B = mx (mx 0 (m - high t s)) (leastArr p now last (absB ns i)) := ⟨_, rfl⟩
        have fin1 : m - low t s < B → wStep s p t ns ap i (lo, hi', some m) ⟨now, last, beg⟩ = none := fun c => by simp only [wStep, ← hB, if_neg hj, if_pos c]
        have fin2 : ¬ m - low t s < B → hi' < mx (mx lo now) B → wStep s p t ns ap i (lo, hi', some m) ⟨now, last, beg⟩ = none := fun c c2 => by simp only [wStep, ← hB, if_neg hj, if_neg c, if_pos c2]
        have fin3 : ¬ m - low t s < B → ¬ hi' < mx (mx lo now) B → wStep s p t ns ap i (lo, hi', some m) ⟨now, last, beg⟩ = some ⟨mx (mx lo now) B, some (mx (mx lo now) B), some B⟩ := fun c c2 => by simp only [wStep, ← hB, if_neg hj, if_neg c, if_neg c2]
        by_cases h0 : i = 0
        · have z1 : (0 < (i : Int)) = False := eq_false (by omega)
          have z2 : absB ns i = false := by simp [absB, h0]
          rw [z2] at hB
          simp_arith [↓nV, ↓optV_some, ↓if_mx, ↓r_joins hi, ↓hj', ↓r_arrivals, ↓z1, ↓r_least_arrival]
          simp only [← hB]
          exact ⟨fun c => stop (fin1 c), fun c => ⟨fun c2 => stop (fin2 c c2), fun c2 => on (fin3 c c2)⟩⟩
        · obtain ⟨j, rfl⟩ : ∃ j, i = j + 1 := ⟨i - 1, by omega⟩
          have h2 : j < ns.length := by omega
          have h4 : ((j + 1 : Nat) : Int) - 1 = (j : Nat) := by omega
          have h5 : (0 < ((j + 1 : Nat) : Int)) = True := eq_true (by omega)
          have z2 : absB ns (j + 1) = (ns[j].2.2).isNone := by
            unfold absB
            rw [show j + 1 - 1 = j by omega, mkAt_of h2]
            simp
          rw [z2] at hB
          simp_arith [↓nV, ↓optV_some, ↓if_mx, ↓r_joins hi, ↓hj', ↓r_arrivals, ↓h5, ↓h4, ↓ixN_of h2, ↓isNon_opt, ↓r_least_arrival]
          simp only [← hB]
          exact ⟨fun c => stop (fin1 c), fun c => ⟨fun c2 => stop (fin2 c c2), fun c2 => on (fin3 c c2)⟩⟩
theorem ok_enum {m : M RV} {e : Ev} {Q : List Val → Ev → Prop} : Ok (mEnum m) e Q ↔ Ok m e fun r e1 => Ok (M.dt r) e1 fun v e2 => match seqV v with
    | some xs => Q (enumV 0 xs) e2
    | none => False := by
  unfold mEnum
  rw [ok_bind]
  have : ∀ {α : Type} {m : M α} {e : Ev} {P R : α → Ev → Prop}, (∀ a e, P a e ↔ R a e) → (Ok m e P ↔ Ok m e R) := fun h => ⟨fun q => Ok.mono q fun a e' => (h a e').mp, fun q => Ok.mono q fun a e' => (h a e').mpr⟩
  refine this fun r e1 => ?_
  rw [ok_bind]
  refine this fun v e2 => ?_
  cases seqV v with
  | none => exact ok_bad
  | some xs => exact ok_ret
theorem ok_zip {m : M (List RV)} {e : Ev} {Q : List Val → Ev → Prop} : Ok (mZip m) e Q ↔ Ok m e fun rs e1 => Ok (M.dts rs) e1 fun vs e2 => match vs with
    | [v, w] => (match seqV v, seqV w with
      | some xs, some ys => Q (zipV xs ys) e2
      | _, _ => False)
    | _ => False := by
  unfold mZip
  rw [ok_bind]
  have : ∀ {α : Type} {m : M α} {e : Ev} {P R : α → Ev → Prop}, (∀ a e, P a e ↔ R a e) → (Ok m e P ↔ Ok m e R) := fun h => ⟨fun q => Ok.mono q fun a e' => (h a e').mp, fun q => Ok.mono q fun a e' => (h a e').mpr⟩
  refine this fun r e1 => ?_
  rw [ok_bind]
  refine this fun vs e2 => ?_
  match vs with
  | [] => exact ok_bad
  | [_] => exact ok_bad
  | [v, w] =>
    dsimp only
    cases seqV v <;> cases seqV w <;> first | exact ok_bad | exact ok_ret
  | _ :: _ :: _ :: _ => exact ok_bad
theorem seqV_T {xs : List Val} : seqV (.tup xs) = some xs := rfl
theorem seqV_N {ns : List Note} : seqV (notesV ns) = some (ns.map nV) := rfl
theorem r_ways_of {s l p : Int} {t : Str} {ns : List Note} {ap : List Int} (hl : ns.length ≤ 1000) :
    Ok den_ways_of [.dat (rV s l p t), .dat (notesV ns), .dat (.tup (ap.map .int)), .dat (.bl false)] fun r e' => (match ways s p t ns ap with
      | none => r = .dat .non
      | some out => r = .tmp (.lst (out.map wV))) ∧ e' = [.un, .un, .un, .un] := by
  simp_arith [↓den_ways_of, ↓b_ways_of, ↓ok_enum, ↓seqV_N]
  refine Ok.mono (ways_loop ns 0 w0 [] _ _ _ _ _ _ _ _ rfl (by simpa using hl)) fun o e' h => ?_
  unfold ways
  split at h
  · rename_i hg
    try rw [hg]
    obtain ⟨rfl, x4, x5, x6, x7, x8, x9, x10, x11, x12, x13, x14, x15, rfl⟩ := h
    simp_arith
  · rename_i out hg
    try rw [hg]
    obtain ⟨rfl, x4, x5, x6, x8, x9, x10, x11, x12, x13, x14, x15, rfl⟩ := h
    simp_arith
end Pu.Q
set_option Elab.async false
set_option linter.all false
set_option maxRecDepth 100000
set_option maxHeartbeats 4000000
namespace Pu.Q
open PySem PySem.Spec PyProof.Rows L2 Pu
mutual
def nb : Val → Bool
  | .non => true
  | .int _ => true
  | .str _ => true
  | .tup xs => nbs xs
  | .lst xs => nbs xs
  | _ => false
def nbs : List Val → Bool
  | [] => true
  | x :: xs => nb x && nbs xs
end
mutual
theorem veq_nb : ∀ x y : Val, nb x = true → nb y = true → (veq x y = true ↔ x = y)
  | .non, y, _, h => by cases y <;> simp_all [veq, toP, PyData.eqv, nb]
  | .int _, y, _, h => by cases y <;> simp_all [veq, toP, PyData.eqv, nb]
  | .str _, y, _, h => by cases y <;> simp_all [veq, toP, PyData.eqv, nb]
  | .tup xs, y, g, h => by
    cases y with
    | tup ys =>
      have := veqs_nb xs ys (by simpa [nb] using g) (by simpa [nb] using h)
      simpa [veq, toP, PyData.eqv] using this
    | _ => simp_all [veq, toP, PyData.eqv, nb]
  | .lst xs, y, g, h => by
    cases y with
    | lst ys =>
      have := veqs_nb xs ys (by simpa [nb] using g) (by simpa [nb] using h)
      simpa [veq, toP, PyData.eqv] using this
    | _ => simp_all [veq, toP, PyData.eqv, nb]
  | .bl _, _, g, _ => by simp [nb] at g
  | .ty _, _, g, _ => by simp [nb] at g
  | .glo _, _, g, _ => by simp [nb] at g
  | .obj _ _ _, _, g, _ => by simp [nb] at g
theorem veqs_nb : ∀ xs ys : List Val, nbs xs = true → nbs ys = true → (PyData.eqvAll (toPs xs) (toPs ys) = true ↔ xs = ys)
  | [], [], _, _ => by simp [toPs, PyData.eqvAll]
  | [], y :: ys, _, _ => by simp [toPs, PyData.eqvAll]
  | x :: xs, [], _, _ => by simp [toPs, PyData.eqvAll]
  | x :: xs, y :: ys, g, h => by
    rw [nbs, Bool.and_eq_true] at g h
    have h1 := veq_nb x y g.1 h.1
    have h2 := veqs_nb xs ys g.2 h.2
    unfold veq at h1
    simp [toPs, PyData.eqvAll, h1, h2]
end
theorem veq_no {x y : Val} (hx : nb x = true) (hy : nb y = true) (h : x ≠ y) : veq x y = false := by
  cases q : veq x y
  · rfl
  · exact absurd ((veq_nb x y hx hy).mp q) h
theorem veq_yes {x : Val} (hx : nb x = true) : veq x x = true := (veq_nb x x hx hx).mpr rfl
section
variable {Q : RV → Ev → Prop} {s l p : Int} {t : Str}
theorem i_tup {xs : List Val} : fIsi isT [.tup xs, .ty "tuple"] = mV (.bl true) := rfl
theorem r_is_betweenB {v lo hi : Int} : Ok den_is_between [.dat (.int v), .dat (.int lo), .dat (.int hi)] Q ↔ Q (.dat (.bl (decide (lo ≤ v ∧ v ≤ hi)))) [.un, .un, .un] := by
  refine ok_det ?_
  simp_arith [↓den_is_between, ↓b_is_between, ↓r_is_integer]
  by_cases h1 : lo ≤ v
  · simp_arith [↓h1]
    try simp [h1]
  · simp_arith [↓h1]
    try simp [h1]
abbrev Mx : Int := 1000000000000000000000000000000
theorem r_is_minuteB {v : Int} : Ok den_is_minute [.dat (.int v)] Q ↔ Q (.dat (.bl (decide (0 ≤ v ∧ v ≤ Mx)))) [.un] := by
  refine ok_det ?_
  simp_arith [↓den_is_minute, ↓b_is_minute, ↓r_is_betweenB]
def markB (s m : Int) : Bool := decide ((0 ≤ m ∧ m ≤ Mx) ∧ m % s = 0)
theorem r_is_markB {m : Int} (hs : 0 < s) : Ok den_is_mark [.dat (rV s l p t), .dat (.int m)] Q ↔ Q (.dat (.bl (markB s m))) [.un, .un] := by
  refine ok_det ?_
  unfold markB
  by_cases h1 : 0 ≤ m ∧ m ≤ Mx
  · simp_arith [↓den_is_mark, ↓b_is_mark, ↓r_is_betweenB, ↓r_step, ↓hs, ↓h1]
    try (by_cases h2 : m % s = 0 <;> simp [h2])
  · simp_arith [↓den_is_mark, ↓b_is_mark, ↓r_is_betweenB, ↓r_step, ↓hs, ↓h1]
    try simp [h1]
def noteB (s : Int) (n : Note) : Bool := decide (0 ≤ n.1 ∧ n.1 ≤ Mx) && decide (0 ≤ n.2.1 ∧ n.2.1 ≤ Mx) && decide (n.1 ≤ n.2.1) && (match n.2.2 with
  | none => true
  | some m => markB s m)
theorem r_is_note {n : Note} (hs : 0 < s) : Ok den_is_note [.dat (rV s l p t), .dat (nV n)] Q ↔ Q (.dat (.bl (noteB s n))) [.un, .un] := by
  refine ok_det ?_
  obtain ⟨lo, hi, m⟩ := n
  unfold nV noteB
  by_cases h1 : 0 ≤ lo ∧ lo ≤ Mx
  · by_cases h2 : 0 ≤ hi ∧ hi ≤ Mx
    · by_cases h3 : lo ≤ hi
      · cases m with
        | none =>
          simp_arith [↓den_is_note, ↓b_is_note, ↓i_tup, ↓r_is_minuteB, ↓h1, ↓h2, ↓h3, ↓optV_none]
        | some m =>
          simp_arith [↓den_is_note, ↓b_is_note, ↓i_tup, ↓r_is_minuteB, ↓h1, ↓h2, ↓h3, ↓optV_some, ↓r_is_markB hs, ↓Bool.true_and]
      · simp_arith [↓den_is_note, ↓b_is_note, ↓i_tup, ↓r_is_minuteB, ↓h1, ↓h2, ↓h3, ↓Bool.and_false, ↓Bool.false_and]
    · simp_arith [↓den_is_note, ↓b_is_note, ↓i_tup, ↓r_is_minuteB, ↓h1, ↓h2, ↓Bool.and_false, ↓Bool.false_and]
  · simp_arith [↓den_is_note, ↓b_is_note, ↓i_tup, ↓r_is_minuteB, ↓h1, ↓Bool.and_false, ↓Bool.false_and]
end
theorem nb_opt {m : Option Int} : nb (optV m) = true := by cases m <;> rfl
theorem nb_nV {n : Note} : nb (nV n) = true := by simp [nV, nb, nbs, nb_opt]
theorem nbs_ns : ∀ {ns : List Note}, nbs (ns.map nV) = true
  | [] => rfl
  | n :: ns => by simp [nbs, nb_nV, nbs_ns (ns := ns)]
theorem isD_nV {n : Note} : isD (nV n) = true := by obtain ⟨a, b, m⟩ := n; cases m <;> rfl
theorem dep_nV {n : Note} : dep (nV n) = 1 := by obtain ⟨a, b, m⟩ := n; cases m <;> simp [nV, optV, dep, deps]
theorem isDs_ns : ∀ {ns : List Note}, isDs (ns.map nV) = true
  | [] => rfl
  | n :: ns => by simp [isDs, isD_nV, isDs_ns (ns := ns)]
theorem deps_ns : ∀ {ns : List Note}, deps (ns.map nV) ≤ 1
  | [] => by simp [deps]
  | n :: ns => by
    have := deps_ns (ns := ns)
    simp only [List.map_cons, deps, dep_nV]
    omega
theorem dOk_ns {ns : List Note} : dOk (notesV ns) = true := by
  have := deps_ns (ns := ns)
  simp [dOk, notesV, isD, isDs_ns, dep]
  omega
theorem dOk_nil : dOk (.tup []) = true := rfl
theorem ok_ne_nil {ns : List Note} {e : Ev} {Q : RV → Ev → Prop} (h : ns ≠ []) : Ok (oEq (notesV ns) (.tup [])) e Q ↔ Q (.dat (.bl false)) e := by
  rw [show oEq (notesV ns) (.tup []) = oEq (.tup (ns.map nV)) (.tup []) from rfl, ok_oEqT, veq_no (x := .tup (ns.map nV)) (by simp [nb, nbs_ns]) rfl (by simp [h])]
  simp [show dOk (.tup (ns.map nV)) = true from dOk_ns, dOk_nil]
theorem i_tupN {ns : List Note} : fIsi isT [notesV ns, .ty "tuple"] = mV (.bl true) := rfl
def faultGo (s : Int) : List Note → Nat → Int
  | [], _ => -1
  | n :: r, i => if noteB s n = true then faultGo s r (i + 1) else i
section
variable {Q : RV → Ev → Prop} {s l p : Int} {t : Str}
theorem fault_loop {s l p : Int} {t : Str} {x1 : Slot} (hs : 0 < s) : ∀ (ns : List Note) (i : Nat) (s2 s3 : Slot), i + ns.length ≤ 40 →
    Ok ((loopS (gT 2 (gsC (gN 2) (gsC (gN 3) gsN))) (mIf (mOr (mTru (mBin oEq (mVar 2) (mV (.int 40)))) (mNot (mTru (mCall [false, false] den_is_note (mCons (mVar 0) (mCons (mVar 3) mNil)) [])))) (mRet (mVar 2)) mSkip)) (enumV (i : Int) (ns.map nV))) [.dat (rV s l p t), x1, s2, s3] fun o e' => ∃ y2 y3, e' = [.dat (rV s l p t), x1, y2, y3] ∧ ((faultGo s ns i = -1 ∧ o = .nx) ∨ (faultGo s ns i ≠ -1 ∧ o = .rt (.dat (.int (faultGo s ns i)))))
  | [], i, s2, s3, _ => by
    show Ok (loopS _ _ []) _ _
    rw [ok_loop0]
    exact ⟨s2, s3, rfl, .inl ⟨rfl, rfl⟩⟩
  | n :: r, i, s2, s3, hl => by
    have ih := fun s2 s3 => fault_loop (l := l) (p := p) (t := t) (x1 := x1) hs r (i + 1) s2 s3 (by simp at hl; omega)
    rw [show (((i + 1 : Nat)) : Int) = (i : Int) + 1 by omega] at ih
    rw [List.length_cons] at hl
    refine Ok.via fun Q' k => ?_
    have h40 : ¬ (i : Int) = 40 := by omega
    rw [show enumV (i : Int) ((n :: r).map nV) = .tup [.int i, nV n] :: enumV ((i : Int) + 1) (r.map nV) from rfl, ok_loopC]
    by_cases h : noteB s n = true
    · simp_arith [↓h40, ↓r_is_note hs, ↓h]
      refine Ok.mono (ih _ _) fun o e' ⟨y2, y3, q1, q2⟩ => k _ _ ⟨y2, y3, q1, ?_⟩
      simpa only [faultGo, if_pos h] using q2
    · have h' : noteB s n = false := by simpa using h
      simp_arith [↓h40, ↓r_is_note hs, ↓h']
      refine k _ _ ⟨_, _, rfl, .inr ?_⟩
      simp only [faultGo, if_neg h]
      exact ⟨by omega, by trivial⟩
theorem r_notes_fault {ns : List Note} (hs : 0 < s) (h0 : ns ≠ []) (hl : ns.length ≤ 40) : Ok den_notes_fault [.dat (rV s l p t), .dat (notesV ns)] Q ↔ Q (.dat (.int (faultGo s ns 0))) [.un, .un] := by
  refine ok_det ?_
  simp_arith [↓den_notes_fault, ↓b_notes_fault, ↓i_tupN, ↓ok_ne_nil h0, ↓ok_enum, ↓seqV_N]
  refine Ok.mono (fault_loop hs ns 0 _ _ (by simpa using hl)) ?_
  rintro o _ ⟨y2, y3, rfl, ⟨h, rfl⟩ | ⟨h, rfl⟩⟩
  · simp_arith [↓h]
  · simp_arith
theorem fault_ok {s : Int} : ∀ {ns : List Note} {i : Nat}, faultGo s ns i = -1 ↔ ∀ n ∈ ns, noteB s n = true
  | [], i => by simp [faultGo]
  | n :: ns, i => by
    by_cases h : noteB s n = true
    · simp [faultGo, h, fault_ok (ns := ns)]
    · simp [faultGo, h]
      try omega
theorem r_check_notes {ns : List Note} (hs : 0 < s) (h0 : ns ≠ []) (hl : ns.length ≤ 40) (h : ∀ n ∈ ns, noteB s n = true) : Ok den_check_notes [.dat (rV s l p t), .dat (notesV ns)] Q ↔ Q (.dat .non) [.un, .un] := by
  refine ok_det ?_
  simp_arith [↓den_check_notes, ↓b_check_notes, ↓r_check_rule, ↓r_notes_fault hs h0 hl, ↓fault_ok.mpr h]
end
end Pu.Q
set_option Elab.async false
set_option linter.all false
set_option maxRecDepth 100000
set_option maxHeartbeats 4000000
namespace Pu.Q
open PySem PySem.Spec PyProof.Rows L2 Pu
section
variable {Q : RV → Ev → Prop} {s l p day t0 : Int} {t : Str} {ts : List Int}
theorem nb_is {is : List Int} : nbs (is.map .int) = true := by induction is with
  | nil => rfl
  | cons i is ih => simp [nbs, nb, ih]
theorem dOkT_is {is : List Int} : dOk (.tup (is.map .int)) = true ↔ True := by
  have := dOk_is (is := is)
  simp only [dOk, isD, dep] at this ⊢
  exact this
theorem dOk_nilL : dOk (.lst []) = true := rfl
end
end Pu.Q
set_option Elab.async false
set_option linter.all false
set_option maxRecDepth 100000
set_option maxHeartbeats 4000000
namespace Pu.Q
open PySem PySem.Spec PyProof.Rows L2 Pu
theorem Ok.iffQ {α : Type} {m : M α} {e : Ev} {P R : α → Ev → Prop} (h : ∀ a e, P a e ↔ R a e) : Ok m e P ↔ Ok m e R := ⟨fun q => Ok.mono q fun a e' => (h a e').mp, fun q => Ok.mono q fun a e' => (h a e').mpr⟩
theorem ok_tupL {xs : List Val} {e : Ev} {Q : RV → Ev → Prop} : Ok (fTup [.lst xs]) e Q ↔ Q (.dat (.tup xs)) e := Iff.rfl
end Pu.Q
set_option Elab.async false
set_option linter.all false
set_option maxRecDepth 100000
set_option maxHeartbeats 8000000
namespace Pu.Q
open PySem PySem.Spec PyProof.Rows L2 Pu
theorem clamp {len m : Int} (hm : 2 ≤ m) : 2 ≤ (if 2 < (if m < len then m else len) then (if m < len then m else len) else 2) ∧ (if 2 < (if m < len then m else len) then (if m < len then m else len) else 2) ≤ m := by
  split
  · split <;> omega
  · omega
end Pu.Q
set_option Elab.async false
set_option linter.all false
set_option maxRecDepth 100000
set_option maxHeartbeats 8000000
namespace Pu.Q
open PySem PySem.Spec PyProof.Rows L2 Pu
abbrev Ds := List (Option Int)
def dAt (d : Ds) (i : Nat) : Option Int := d.getD i none
def done (d e : Ds) : Nat → Nat
  | 0 => 0
  | n + 1 => done d e n + if dAt d n = dAt e n then 1 else 0
end Pu.Q
set_option Elab.async false
set_option linter.all false
set_option maxRecDepth 100000
set_option maxHeartbeats 8000000
namespace Pu.Q
open PySem PySem.Spec PyProof.Rows L2 Pu
theorem ok_lstT {xs : List Val} {e : Ev} {Q : RV → Ev → Prop} : Ok (fLst [.tup xs]) e Q ↔ Q (.tmp (.lst xs)) e := Iff.rfl
end Pu.Q
set_option Elab.async false
set_option linter.all false
set_option maxRecDepth 100000
set_option maxHeartbeats 8000000
set_option Elab.async false
set_option linter.all false
set_option maxRecDepth 100000
set_option maxHeartbeats 8000000
namespace Pu.Q
open PySem PySem.Spec PyProof.Rows L2 Pu
variable {s l p : Int} {t : Str} {Q : RV → Ev → Prop}
theorem ok_lenN {ns : List Note} {e : Ev} : Ok (fLen [notesV ns]) e Q ↔ Q (.dat (.int (ns.length : Int))) e := by
  rw [notesV, ok_lenT, List.length_map]
def LateOk (n : Int) : Int → List Int → Prop
  | _, [] => True
  | lo, x :: r => lo ≤ x ∧ x ≤ n - 1 ∧ LateOk n (x + 1) r
end Pu.Q
set_option Elab.async false
set_option linter.all false
set_option maxRecDepth 100000
set_option maxHeartbeats 8000000
namespace Pu.Q
open PySem PySem.Spec PyProof.Rows L2 Pu
variable {s l p : Int} {t : Str} {Q : RV → Ev → Prop}
theorem mx_eq (i j : Int) : mx i j = max i j := by rw [mx_n]; split <;> omega
theorem cut_last {xs : List Val} {x : Val} : cutA (xs ++ [x]) (some (-1)) none = [x] := by
  have h : HT.sIx (xs ++ [x]).length 0 (some (-1)) = xs.length := by
    unfold HT.sIx
    simp
    rw [show (-1 + ((xs.length : Int) + 1)) = xs.length by omega]
    rfl
  have h2 : HT.sIx (xs ++ [x]).length (xs ++ [x]).length none = xs.length + 1 := by simp [HT.sIx]
  unfold cutA
  rw [h, h2]
  simp
end Pu.Q
set_option Elab.async false
set_option linter.all false
set_option maxRecDepth 100000
set_option maxHeartbeats 8000000
set_option Elab.async false
set_option linter.all false
set_option maxRecDepth 100000
set_option maxHeartbeats 8000000
namespace Pu.Q
open PySem PySem.Spec PyProof.Rows L2 Pu
section
variable {s l p : Int} {t : Str} {Q : RV → Ev → Prop}
theorem rangeI {i : Nat} {n : Int} : rangeV (i : Int) n = (List.range' i (n - i).toNat).map fun (j : Nat) => Val.int (j : Int) := by
  rw [rangeV, List.range'_eq_map_range, List.map_map]
  apply List.map_congr_left
  intro a _
  simp
theorem drop_at {α : Type} {l : List α} {i : Nat} {x : α} {r : List α} (h : l.drop i = x :: r) : ∃ hi : i < l.length, l[i] = x ∧ l.drop (i + 1) = r := by
  have hi : i < l.length := by
    have := congrArg List.length h
    rw [List.length_drop, List.length_cons] at this
    omega
  refine ⟨hi, ?_, ?_⟩
  · have h1 : (l.drop i)[0]? = some x := by rw [h]; rfl
    rw [List.getElem?_drop] at h1
    simpa [hi] using h1
  · have := congrArg List.tail h
    simpa using this
theorem LateOk.mono {n : Int} : ∀ {is : List Int} {lo lo' : Int}, lo' ≤ lo → LateOk n lo is → LateOk n lo' is
  | [], _, _, _, _ => trivial
  | _ :: _, _, _, h, ⟨h1, h2, h3⟩ => ⟨by omega, h2, h3⟩
end
end Pu.Q
set_option Elab.async false
set_option linter.all false
set_option maxRecDepth 100000
set_option maxHeartbeats 8000000
set_option Elab.async false
set_option linter.all false
set_option maxRecDepth 100000
set_option maxHeartbeats 8000000
set_option Elab.async false
set_option linter.all false
set_option maxRecDepth 100000
set_option maxHeartbeats 8000000
set_option Elab.async false
set_option linter.all false
set_option maxRecDepth 100000
set_option maxHeartbeats 8000000
set_option Elab.async false
set_option linter.all false
set_option maxRecDepth 100000
set_option maxHeartbeats 8000000
set_option Elab.async false
set_option linter.all false
set_option maxRecDepth 100000
set_option maxHeartbeats 8000000
set_option Elab.async false
set_option linter.all false
set_option maxRecDepth 100000
set_option maxHeartbeats 8000000
set_option Elab.async false
set_option linter.all false
set_option maxRecDepth 100000
set_option maxHeartbeats 8000000
namespace Pu.Q
open PySem PySem.Spec PyProof.Rows L2 Pu
section
variable {s l p : Int} {t : Str} {Q : RV → Ev → Prop}
theorem LateOk.filter {n : Int} : ∀ {is : List Int} {lo : Int}, LateOk n lo is → ∀ k, LateOk k lo (is.filter fun x => decide (x < k))
  | [], _, _, _ => trivial
  | x :: r, lo, ⟨h1, h2, h3⟩, k => by
    rw [List.filter_cons]
    by_cases hx : x < k
    · rw [if_pos (decide_eq_true hx)]
      exact ⟨h1, by omega, LateOk.filter h3 k⟩
    · rw [if_neg (by simpa using hx)]
      exact LateOk.mono (by omega) (LateOk.filter h3 k)
end
end Pu.Q
set_option Elab.async false
set_option linter.all false
set_option maxRecDepth 100000
set_option maxHeartbeats 8000000
namespace Pu.Q
open PySem PySem.Spec PyProof.Rows L2 Pu
section
variable {s l p : Int} {t : Str} {Q : RV → Ev → Prop}
theorem ok_NeT {is : List Int} {e : Ev} : Ok (oNe (.tup (is.map .int)) (.tup [])) e Q ↔ Q (.dat (.bl (decide (is ≠ [])))) e := by
  rw [ok_oNeT]
  have h1 : dOk (.tup (is.map .int)) = true := dOkT_is.mpr trivial
  have h2 : (!veq (.tup (is.map .int)) (.tup [])) = decide (is ≠ []) := by
    cases is with
    | nil => rw [show veq (.tup (([] : List Int).map .int)) (.tup []) = true from veq_yes rfl]; rfl
    | cons x r =>
      rw [veq_no (by rw [nb]; exact nb_is) rfl (by simp)]
      simp
  rw [h1, h2]
  exact ⟨fun z => z.2, fun z => ⟨⟨rfl, rfl⟩, z⟩⟩
end
end Pu.Q
set_option Elab.async false
set_option linter.all false
set_option maxRecDepth 100000
set_option maxHeartbeats 8000000
namespace Pu.Q
open PySem PySem.Spec PyProof.Rows L2 Pu
section
variable {s l p : Int} {t : Str} {Q : RV → Ev → Prop}
theorem ok_callDs {ms : List Bool} {f : M RV} {as : M (List RV)} {ds : List Val} {e : Ev} : Ok (mCall ms f as ds) e Q ↔ Ok as e fun rs e1 => Ok (runF ms f (rs ++ ds.map .dat)) e1 Q := by
  unfold mCall
  rw [ok_bind]
theorem mapD_c {v : Val} {r : List Val} : (v :: r).map RV.dat = .dat v :: r.map RV.dat := rfl
theorem mapD_n : ([] : List Val).map RV.dat = [] := rfl
theorem i_bl {b : Bool} : fIsi isT [.bl b, .ty "bool"] = mV (.bl true) := rfl
end
end Pu.Q
set_option Elab.async false
set_option linter.all false
set_option maxRecDepth 100000
set_option maxHeartbeats 8000000
namespace Pu.Q
open PySem PySem.Spec PyProof.Rows L2 Pu
section
variable {s l p : Int} {t : Str} {Q : RV → Ev → Prop}
def tupI (is : List Int) : Val := .tup (is.map .int)
def lstI (is : List Int) : Val := .lst (is.map .int)
def rangeI_ (lo hi : Int) : List Int := (List.range (hi - lo).toNat).map fun i => lo + (i : Nat)
theorem rangeV_I {lo hi : Int} : rangeV lo hi = (rangeI_ lo hi).map Val.int := by
  unfold rangeV rangeI_
  rw [List.map_map]; rfl
theorem rangeI_len {lo hi : Int} : (rangeI_ lo hi).length = (hi - lo).toNat := by simp [rangeI_]
theorem mem_rangeI {lo hi x : Int} : x ∈ rangeI_ lo hi ↔ lo ≤ x ∧ x < hi := by
  unfold rangeI_
  rw [List.mem_map]
  constructor
  · rintro ⟨i, hi', rfl⟩
    rw [List.mem_range] at hi'
    omega
  · intro h
    exact ⟨(x - lo).toNat, by rw [List.mem_range]; omega, by omega⟩
def begM (low : Int) (line : List Int) : Int := match line.getLast? with
  | none => low
  | some y => mx low y
def minStep (n : Note) (line : List Int) : List (List Int) := (rangeI_ (begM n.1 line) (n.2.1 + 1)).map fun x => line ++ [x]
def minGo : List Note → List (List Int) → List (List Int)
  | [], f => f
  | n :: r, f => minGo r (f.flatMap (minStep n))
def minsL (ns : List Note) : List (List Int) := minGo ns [[]]
theorem minStep_len {n : Note} {line : List Int} {w : Nat} (h : n.2.1 + 1 - n.1 ≤ w) : (minStep n line).length ≤ w := by
  unfold minStep
  rw [List.length_map, rangeI_len]
  have : n.1 ≤ begM n.1 line := by
    unfold begM
    split
    · omega
    · rw [mx_eq]; omega
  omega
theorem flat_len {α β : Type} {f : α → List β} {w : Nat} : ∀ {xs : List α}, (∀ x ∈ xs, (f x).length ≤ w) → (xs.flatMap f).length ≤ xs.length * w
  | [], _ => by simp
  | x :: xs, h => by
    have h1 := h x List.mem_cons_self
    have h2 := flat_len (xs := xs) fun y hy => h y (List.mem_cons_of_mem _ hy)
    rw [List.flatMap_cons, List.length_append, List.length_cons, Nat.succ_mul]
    omega
theorem ok_NeTI {is : List Int} {e : Ev} : Ok (oNe (tupI is) (.tup [])) e Q ↔ Q (.dat (.bl (decide (is ≠ [])))) e := ok_NeT
theorem last_at {α : Type} {xs : List α} {x : α} (h : xs.getLast? = some x) : atI xs (-1) = some x := by
  have hne : xs ≠ [] := fun z => by rw [z] at h; cases h
  have hl : 0 < xs.length := List.length_pos_iff.mpr hne
  unfold atI ixN
  rw [if_neg (by omega), if_pos (by omega)]
  show xs[(-1 + (xs.length : Int)).toNat]? = some x
  rw [show (-1 + (xs.length : Int)).toNat = xs.length - 1 by omega, ← List.getLast?_eq_getElem?]
  exact h
def addV (v w : Val) : Val := match v, w with
  | .tup xs, .int x => .tup (xs ++ [.int x])
  | _, _ => v
theorem addV_map {line is : List Int} : (is.map Val.int).map (addV (tupI line)) = (is.map fun x => line ++ [x]).map tupI := by
  rw [List.map_map, List.map_map]
  apply List.map_congr_left
  intro x _
  simp [addV, tupI]
theorem minIn_loop {n : Note} {s0 s1 s4 : Slot} {w : Nat} (hw : n.2.1 + 1 - n.1 ≤ w) (hw2 : w ≤ 1000) (b1 : 0 ≤ n.1 ∧ n.1 ≤ 1000000000000) (b2 : 0 ≤ n.2.1 ∧ n.2.1 ≤ 1000000000000) : ∀ (lines acc : List (List Int)) (s6 s7 s8 : Slot), (∀ li ∈ lines, ∀ y, li.getLast? = some y → y ≤ 1000000000000) → (∀ li ∈ lines, li.length ≤ 1000) → acc.length + lines.length * w ≤ 1000000 →
    Ok ((loopS (gN 6) (mSeq (mSet 7 (mIfE (mTru (mBin oNe (mVar 6) (mTup mNil))) (mCB fMax2 (mCons (mVar 2) (mCons (mBin oIx (mVar 6) (mNeg (mV (.int 1)))) mNil))) (mVar 2))) (mSet 5 (mBin oAdd (mVar 5) (mComp [8] (mRng2 (mVar 7) (mBin oAdd (mVar 3) (mV (.int 1)))) (gN 8) mYes (mBin oAdd (mVar 6) (mTup (mCons (mVar 8) mNil)))))))) (lines.map tupI)) [s0, s1, .dat (.int n.1), .dat (.int n.2.1), s4, .own (.lst (acc.map tupI)), s6, s7, s8]
      fun o e' => o = .nx ∧ ∃ s6 s7 s8, e' = [s0, s1, .dat (.int n.1), .dat (.int n.2.1), s4, .own (.lst ((acc ++ lines.flatMap (minStep n)).map tupI)), s6, s7, s8]
  | [], acc, s6, s7, s8, _, _, _ => by
    show Ok (loopS _ _ []) _ _
    rw [ok_loop0]
    exact ⟨rfl, _, _, _, by rw [List.flatMap_nil, List.append_nil]⟩
  | li :: r, acc, s6, s7, s8, hy, hy2, hl => by
    have sl := minStep_len (line := li) hw
    rw [List.length_cons, Nat.succ_mul] at hl
    have ih := fun s6 s7 s8 => minIn_loop (s0 := s0) (s1 := s1) (s4 := s4) hw hw2 b1 b2 r (acc ++ minStep n li) s6 s7 s8 (fun x hx => hy x (List.mem_cons_of_mem _ hx)) (fun x hx => hy2 x (List.mem_cons_of_mem _ hx)) (by rw [List.length_append]; omega)
    rw [List.flatMap_cons, ← List.append_assoc]
    refine Ok.via fun Q' k => ?_
    have ih := fun s6 s7 s8 => Ok.mono (ih s6 s7 s8) k
    have hl2 := hy2 li List.mem_cons_self
    have al : acc.length ≤ 1000000 := by omega
    have bm : n.1 ≤ begM n.1 li ∧ begM n.1 li ≤ 1000000000000 + 1000 := by
      unfold begM
      cases hli : li.getLast? with
      | none => simp only; omega
      | some y => have := hy li List.mem_cons_self y hli; simp only [mx_eq]; omega
    -- the rest of a turn, from the begin on
    have rest : ∀ (b : Int), begM n.1 li = b → Ok (mSet 5 (mBin oAdd (mVar 5) (mComp [8] (mRng2 (mVar 7) (mBin oAdd (mVar 3) (mV (.int 1)))) (gN 8) mYes (mBin oAdd (mVar 6) (mTup (mCons (mVar 8) mNil)))))) [s0, s1, .dat (.int n.1), .dat (.int n.2.1), s4, .own (.lst (acc.map tupI)), .dat (tupI li), .dat (.int b), s8]
        (fun o e' => o = .nx ∧ ∃ s8, e' = [s0, s1, .dat (.int n.1), .dat (.int n.2.1), s4, .own (.lst ((acc ++ minStep n li).map tupI)), .dat (tupI li), .dat (.int b), s8]) := fun b hb => by
      rw [hb] at bm
      simp_arith
      refine ⟨⟨by omega, by omega⟩, ?_⟩
      rw [rangeV_I]
      refine Ok.mono (Ok.compF (addV (tupI li)) (by rw [List.length_map, rangeI_len, sizeLine_eq]; omega) ?_) ?_
      · intro v hv
        have ⟨x, _, hx⟩ := List.mem_map.mp hv
        subst hx
        unfold tupI
        simp_arith [↓addV, ↓List.length_map]
        first | done | (rw [sizeLine_eq]; omega)
      · intro r' e' hh
        have h1 := hh.1
        have h2 := hh.2
        subst h1
        subst h2
        clear hh
        rw [addV_map]
        simp_arith
        refine ⟨?_, .un, ?_⟩
        · rw [List.length_map, List.length_map, List.length_map, rangeI_len, sizeLine_eq]; omega
        · unfold minStep; rw [hb, List.map_append]
    simp only [List.map_cons, ok_loopC]
    generalize hR : (mSet 5 (mBin oAdd (mVar 5) (mComp [8] (mRng2 (mVar 7) (mBin oAdd (mVar 3) (mV (.int 1)))) (gN 8) mYes (mBin oAdd (mVar 6) (mTup (mCons (mVar 8) mNil)))))) = R at rest ⊢
    cases hli : li.getLast? with
    | none =>
      have e0 : li = [] := by
        cases li with
        | nil => rfl
        | cons a b => simp at hli
      have eb : begM n.1 li = n.1 := by unfold begM; rw [hli]
      have rest := rest _ eb
      simp_arith [↓ok_NeTI]
      refine ⟨fun z => absurd e0 z, fun _ => ?_⟩
      refine Ok.mono rest ?_
      rintro o e' ⟨rfl, s8, rfl⟩
      subst hR
      exact ih _ _ _
    | some y =>
      have e0 : li ≠ [] := fun z => by rw [z] at hli; cases hli
      have eb : begM n.1 li = mx n.1 y := by unfold begM; rw [hli]
      have rest := rest _ eb
      have ixl : ∀ (e : Ev) (Q : RV → Ev → Prop), Ok (oIx (tupI li) (.int (-1))) e Q ↔ Q (.dat (.int y)) e := fun e Q => ixT_of (by
        refine last_at ?_
        rw [List.getLast?_map, hli]; rfl)
      simp_arith [↓ok_NeTI, ↓ixl, ↓if_mx]
      refine ⟨fun _ => ?_, fun z => absurd e0 z⟩
      refine Ok.mono rest ?_
      rintro o e' ⟨rfl, s8, rfl⟩
      subst hR
      exact ih _ _ _
theorem minStep_mem {n : Note} {line li : List Int} : li ∈ minStep n line ↔ ∃ x, li = line ++ [x] ∧ n.1 ≤ x ∧ x ≤ n.2.1 ∧ ∀ y, line.getLast? = some y → y ≤ x := by
  unfold minStep
  rw [List.mem_map]
  have bg : ∀ x, begM n.1 line ≤ x ↔ n.1 ≤ x ∧ ∀ y, line.getLast? = some y → y ≤ x := fun x => by
    unfold begM
    cases line.getLast? with
    | none => simp
    | some y => simp only [mx_eq, Option.some.injEq, forall_eq']; omega
  constructor
  · rintro ⟨x, hx, rfl⟩
    rw [mem_rangeI, bg] at hx
    exact ⟨x, rfl, hx.1.1, by omega, hx.1.2⟩
  · rintro ⟨x, rfl, h1, h2, h3⟩
    exact ⟨x, mem_rangeI.mpr ⟨(bg x).mpr ⟨h1, h3⟩, by omega⟩, rfl⟩
structure SmallN (w : Nat) (n : Note) : Prop where
  lo : 0 ≤ n.1 ∧ n.1 ≤ 1000000000000
  hi : 0 ≤ n.2.1 ∧ n.2.1 ≤ 1000000000000
  wd : n.2.1 + 1 - n.1 ≤ w
def linesV (f : List (List Int)) : Val := .lst (f.map tupI)
theorem minOut_loop {w : Nat} {s0 : Slot} (hw2 : w ≤ 1000) : ∀ (rest : List Note) (f : List (List Int)) (c : Nat) (s1 s2 s3 s4 s5 s6 s7 s8 : Slot) (d : Bool), (s1 = .dat (linesV f) ∨ (d = false ∧ s1 = .own (linesV f))) → (∀ n ∈ rest, SmallN w n) → 1 ≤ w →
    (∀ li ∈ f, ∀ y, li.getLast? = some y → y ≤ 1000000000000) → (∀ li ∈ f, li.length ≤ c) → c + rest.length ≤ 1000 → f.length * w ^ rest.length ≤ 1000000 →
    Ok ((loopS (gT 3 (gsC (gN 2) (gsC (gN 3) (gsC (gN 4) gsN)))) (mSeq (mSet 5 (mLst mNil)) (mSeq (mFor (mItems (mVar 1)) (gN 6) (mSeq (mSet 7 (mIfE (mTru (mBin oNe (mVar 6) (mTup mNil))) (mCB fMax2 (mCons (mVar 2) (mCons (mBin oIx (mVar 6) (mNeg (mV (.int 1)))) mNil))) (mVar 2))) (mSet 5 (mBin oAdd (mVar 5) (mComp [8] (mRng2 (mVar 7) (mBin oAdd (mVar 3) (mV (.int 1)))) (gN 8) mYes (mBin oAdd (mVar 6) (mTup (mCons (mVar 8) mNil)))))))) (mSet 1 (mVar 5))))) (rest.map nV)) [s0, s1, s2, s3, s4, s5, s6, s7, s8]
      fun o e' => o = .nx ∧ ∃ s1 s2 s3 s4 s5 s6 s7 s8, (s1 = .dat (linesV (minGo rest f)) ∨ ((rest = [] ∧ d = false) ∧ s1 = .own (linesV (minGo rest f)))) ∧ e' = [s0, s1, s2, s3, s4, s5, s6, s7, s8]
  | [], f, c, s1, s2, s3, s4, s5, s6, s7, s8, d, h1, _, _, _, _, _, _ => by
    show Ok (loopS _ _ []) _ _
    rw [ok_loop0]
    refine ⟨rfl, _, _, _, _, _, _, _, _, ?_, rfl⟩
    rcases h1 with h1 | h1
    · exact .inl h1
    · exact .inr ⟨⟨rfl, h1.1⟩, h1.2⟩
  | n :: r, f, c, s1, s2, s3, s4, s5, s6, s7, s8, d, h1, hn, w1, hy, hc, hc2, hl => by
    have S := hn n List.mem_cons_self
    have sl := fun li => minStep_len (n := n) (line := li) (w := w) S.wd
    have fl := flat_len (f := minStep n) (w := w) (xs := f) fun x _ => sl x
    rw [List.length_cons] at hc2
    have pw : f.length * w * w ^ r.length ≤ 1000000 := by rw [List.length_cons, Nat.pow_succ] at hl; rw [Nat.mul_assoc, Nat.mul_comm w]; exact hl
    have pos : 1 ≤ w ^ r.length := Nat.one_le_pow _ _ w1
    have fw : f.length * w ≤ 1000000 := Nat.le_trans (Nat.le_mul_of_pos_right _ pos) pw
    have ih := fun s2 s3 s4 s5 s6 s7 s8 => minOut_loop (s0 := s0) hw2 r (f.flatMap (minStep n)) (c + 1) (.dat (linesV (f.flatMap (minStep n)))) s2 s3 s4 s5 s6 s7 s8 true (.inl rfl) (fun x hx => hn x (List.mem_cons_of_mem _ hx)) w1
      (fun li hli y hy2 => by
        obtain ⟨l0, _, h2⟩ := List.mem_flatMap.mp hli
        obtain ⟨x, rfl, h3, h4, _⟩ := minStep_mem.mp h2
        rw [List.getLast?_append] at hy2
        simp at hy2
        subst hy2
        have := S.hi.2; omega)
      (fun li hli => by
        obtain ⟨l0, h0, h2⟩ := List.mem_flatMap.mp hli
        obtain ⟨x, rfl, h3, h4, _⟩ := minStep_mem.mp h2
        have := hc l0 h0
        simp; omega)
      (by omega) (Nat.le_trans (Nat.mul_le_mul_right _ fl) pw)
    refine Ok.via fun Q' k => ?_
    have ih := fun s2 s3 s4 s5 s6 s7 s8 => Ok.mono (ih s2 s3 s4 s5 s6 s7 s8) fun a e' ⟨h1, s1, s2, s3, s4, s5, s6, s7, s8, h2, h3⟩ => k a e' ⟨h1, s1, s2, s3, s4, s5, s6, s7, s8, h2.elim .inl (fun z => absurd z.1.2 (by decide)), h3⟩
    have inn := fun s4 s6 s7 s8 => minIn_loop (n := n) (s0 := s0) (s1 := .dat (linesV f)) (s4 := s4) S.wd hw2 S.lo S.hi f [] s6 s7 s8 hy (fun li h => by have := hc li h; omega) (by simp; exact fw)
    have ok1 : nV n = .tup [.int n.1, .int n.2.1, optV n.2.2] := rfl
    simp only [List.map_cons, ok_loopC, ok1]
    generalize hR2 : (loopS (gT 3 (gsC (gN 2) (gsC (gN 3) (gsC (gN 4) gsN)))) (mSeq (mSet 5 (mLst mNil)) (mSeq (mFor (mItems (mVar 1)) (gN 6) (mSeq (mSet 7 (mIfE (mTru (mBin oNe (mVar 6) (mTup mNil))) (mCB fMax2 (mCons (mVar 2) (mCons (mBin oIx (mVar 6) (mNeg (mV (.int 1)))) mNil))) (mVar 2))) (mSet 5 (mBin oAdd (mVar 5) (mComp [8] (mRng2 (mVar 7) (mBin oAdd (mVar 3) (mV (.int 1)))) (gN 8) mYes (mBin oAdd (mVar 6) (mTup (mCons (mVar 8) mNil)))))))) (mSet 1 (mVar 5))))) = R2 at ih ⊢
    rcases h1 with rfl | ⟨_, rfl⟩
    · unfold linesV at inn ih ⊢
      simp_arith
      refine Ok.mono (inn _ _ _ _) ?_
      rintro o e' ⟨rfl, s6, s7, s8, rfl⟩
      simp_arith
      exact ih _ _ _ _ _ _ _
    · unfold linesV at inn ih ⊢
      simp_arith
      refine Ok.mono (inn _ _ _ _) ?_
      rintro o e' ⟨rfl, s6, s7, s8, rfl⟩
      simp_arith
      exact ih _ _ _ _ _ _ _
theorem r_minutes {ns : List Note} {w : Nat} (h0 : ns ≠ []) (h : ∀ n ∈ ns, SmallN w n) (w1 : 1 ≤ w) (w2 : w ≤ 1000) (h2 : ns.length ≤ 100) (h3 : w ^ ns.length ≤ 1000000) : Ok den__law_minutes [.dat (notesV ns)] Q ↔ Q (.dat (linesV (minsL ns))) [.un] := by
  refine ok_det ?_
  have lp := fun s2 s3 s4 s5 s6 s7 s8 => minOut_loop (s0 := .dat (notesV ns)) (w := w) w2 ns [[]] 0 (.own (linesV [[]])) s2 s3 s4 s5 s6 s7 s8 false (.inr ⟨rfl, rfl⟩) h w1 (fun li hl y hy => by simp at hl; subst hl; cases hy) (fun li hl => by simp at hl; subst hl; simp) (by omega) (by simpa using h3)
  have e0 : linesV [[]] = .lst [.tup []] := rfl
  rw [e0] at lp
  simp_arith [↓den__law_minutes, ↓b__law_minutes, ↓ok_items, ↓seqV_N]
  refine Ok.mono (lp _ _ _ _ _ _ _) ?_
  rintro o e' ⟨rfl, s1, s2, s3, s4, s5, s6, s7, s8, h1, rfl⟩
  rcases h1 with rfl | ⟨⟨z, _⟩, _⟩
  · simp_arith
    exact rfl
  · exact absurd z h0
end
end Pu.Q
set_option Elab.async false
set_option linter.all false
set_option maxRecDepth 100000
set_option maxHeartbeats 8000000
namespace Pu.Q
open PySem PySem.Spec PyProof.Rows L2 Pu
section
variable {s l p : Int} {t : Str} {Q : RV → Ev → Prop}
def cutStep (j : Bool) (line : List Int) : List (List Int) := if j = true then [line ++ [1], line ++ [0]] else [line ++ [1]]
def cutGo (ns : List Note) : Nat → Nat → List (List Int) → List (List Int)
  | 0, _, f => f
  | r + 1, i, f => cutGo ns r (i + 1) (f.flatMap (cutStep (joinsB ns i [])))
def cutsL (ns : List Note) : List (List Int) := cutGo ns ns.length 0 [[]]
theorem cutStep_len {j : Bool} {line : List Int} : (cutStep j line).length ≤ 2 := by
  unfold cutStep; split <;> simp
def cutsV (f : List (List Int)) : Val := .lst (f.map lstI)
theorem cutIn_loop {s0 s1 s2 : Slot} {j : Bool} : ∀ (lines acc : List (List Int)) (s5 : Slot), (∀ li ∈ lines, li.length ≤ 900) → acc.length + lines.length * 2 ≤ 1000000 →
    Ok ((loopS (gN 5) (mSet 4 (mBin oAdd (mVar 4) (mIfE (mTru (mVar 3)) (mLst (mCons (mBin oAdd (mVar 5) (mLst (mCons (mV (.int 1)) mNil))) (mCons (mBin oAdd (mVar 5) (mLst (mCons (mV (.int 0)) mNil))) mNil))) (mLst (mCons (mBin oAdd (mVar 5) (mLst (mCons (mV (.int 1)) mNil))) mNil)))))) (lines.map lstI)) [s0, s1, s2, .dat (.bl j), .own (.lst (acc.map lstI)), s5]
      fun o e' => o = .nx ∧ ∃ s5, e' = [s0, s1, s2, .dat (.bl j), .own (.lst ((acc ++ lines.flatMap (cutStep j)).map lstI)), s5]
  | [], acc, s5, _, _ => by
    show Ok (loopS _ _ []) _ _
    rw [ok_loop0]
    exact ⟨rfl, _, by rw [List.flatMap_nil, List.append_nil]⟩
  | li :: r, acc, s5, hc, hl => by
    have sl := cutStep_len (j := j) (line := li)
    rw [List.length_cons] at hl
    have ih := fun s5 => cutIn_loop (s0 := s0) (s1 := s1) (s2 := s2) (j := j) r (acc ++ cutStep j li) s5 (fun x hx => hc x (List.mem_cons_of_mem _ hx)) (by rw [List.length_append]; omega)
    rw [List.flatMap_cons, ← List.append_assoc]
    refine Ok.via fun Q' k => ?_
    have ih := fun s5 => Ok.mono (ih s5) k
    have hl2 := hc li List.mem_cons_self
    have el : lstI li = .lst (li.map .int) := rfl
    simp only [List.map_cons, ok_loopC]
    rw [List.map_append] at ih
    have sz1 : acc.length + 2 ≤ sizeLine := by rw [sizeLine_eq]; omega
    have sz2 : acc.length + 1 ≤ sizeLine := by rw [sizeLine_eq]; omega
    have e1 : lstI (li ++ [1]) = .lst (li.map .int ++ [.int 1]) := by unfold lstI; rw [List.map_append]; rfl
    have e2 : lstI (li ++ [0]) = .lst (li.map .int ++ [.int 0]) := by unfold lstI; rw [List.map_append]; rfl
    cases j with
    | true =>
      simp only [cutStep, if_true, List.map_cons, List.map_nil, e1, e2] at ih
      simp_arith [↓el, ↓List.length_map]
      exact ⟨sz1, ih _⟩
    | false =>
      simp only [cutStep, Bool.false_eq_true, if_false, List.map_cons, List.map_nil, e1] at ih
      simp_arith [↓el, ↓List.length_map]
      exact ⟨sz2, ih _⟩
theorem may_ok {ns : List Note} {i : Nat} {s1 s3 s4 s5 : Slot} (h : i < ns.length) : Ok (mAndV (mBin oGt (mVar 2) (mV (.int 0))) (mAndV (mBin oIsN (mBin oIx (mBin oIx (mVar 0) (mVar 2)) (mV (.int 2))) (mV .non)) (mBin oEq (mBin oIx (mBin oIx (mVar 0) (mVar 2)) (mV (.int 2))) (mBin oIx (mBin oIx (mVar 0) (mBin oSub (mVar 2) (mV (.int 1)))) (mV (.int 2))))))
    [.dat (notesV ns), s1, .dat (.int (i : Int)), s3, s4, s5] Q ↔ Q (.dat (.bl (joinsB ns i []))) [.dat (notesV ns), s1, .dat (.int (i : Int)), s3, s4, s5] := by
  refine ok_det ?_
  have a1 := mkAt_of h
  have n1 : nV ns[i] = .tup [.int ns[i].1, .int ns[i].2.1, optV (mkAt ns i)] := by rw [a1]; rfl
  have x1 : ∀ (e : Ev) (Q : RV → Ev → Prop), Ok (oIx (notesV ns) (.int (i : Int))) e Q ↔ Q (.dat (nV ns[i])) e := fun e Q => ixN_of h
  unfold joinsB
  have d0 : decide ((i : Int) ∈ ([] : List Int)) = false := decide_eq_false (by simp)
  rw [d0]
  cases i with
  | zero => simp_arith
  | succ k =>
    have c0 : (0 : Int) < ((k + 1 : Nat) : Int) := by omega
    have c1 : ((k + 1 : Nat) : Int) - 1 = (k : Nat) := by omega
    have a2 := mkAt_of (ns := ns) (i := k) (by omega)
    have n2 : nV ns[k] = .tup [.int ns[k].1, .int ns[k].2.1, optV (mkAt ns k)] := by rw [a2]; rfl
    have x2 : ∀ (e : Ev) (Q : RV → Ev → Prop), Ok (oIx (notesV ns) (.int (k : Int))) e Q ↔ Q (.dat (nV ns[k])) e := fun e Q => ixN_of (by omega)
    have e0 : decide (0 < k + 1) = true := rfl
    rw [e0]
    cases hm : mkAt ns (k + 1) with
    | none =>
      rw [hm] at n1
      simp_arith [↓c1, ↓x1, ↓n1, ↓optV_none]
      exact ⟨fun _ => rfl, fun _ => rfl⟩
    | some m =>
      rw [hm] at n1
      simp_arith [↓c1, ↓x1, ↓x2, ↓n1, ↓n2, ↓optV_some]
      refine ⟨fun _ => ?_, fun z => absurd c0 z⟩
      have oe := fun (e : Ev) (Q : RV → Ev → Prop) => ok_oEqO (a := some m) (b := mkAt ns k) (e := e) (Q := Q)
      rw [optV_some] at oe
      rw [oe]
      refine ⟨?_, rfl⟩
      have e2 : k + 1 - 1 = k := rfl
      rw [e2]
      simp
theorem cut_turn {ns : List Note} {i c : Nat} {r : List Val} {f : List (List Int)} {s1 s2 s3 s4 s5 : Slot} {P : Out → Ev → Prop} (hi : i < ns.length) (h1 : s1 = .dat (cutsV f) ∨ s1 = .own (cutsV f)) (L : ∀ li ∈ f, li.length ≤ c) (hc : c ≤ 900) (fw : f.length * 2 ≤ 1000000)
    (k : ∀ s2 s3 s4 s5, Ok ((loopS (gN 2) (mSeq (mSet 3 (mAndV (mBin oGt (mVar 2) (mV (.int 0))) (mAndV (mBin oIsN (mBin oIx (mBin oIx (mVar 0) (mVar 2)) (mV (.int 2))) (mV .non)) (mBin oEq (mBin oIx (mBin oIx (mVar 0) (mVar 2)) (mV (.int 2))) (mBin oIx (mBin oIx (mVar 0) (mBin oSub (mVar 2) (mV (.int 1)))) (mV (.int 2))))))) (mSeq (mSet 4 (mLst mNil)) (mSeq (mFor (mItems (mVar 1)) (gN 5) (mSet 4 (mBin oAdd (mVar 4) (mIfE (mTru (mVar 3)) (mLst (mCons (mBin oAdd (mVar 5) (mLst (mCons (mV (.int 1)) mNil))) (mCons (mBin oAdd (mVar 5) (mLst (mCons (mV (.int 0)) mNil))) mNil))) (mLst (mCons (mBin oAdd (mVar 5) (mLst (mCons (mV (.int 1)) mNil))) mNil)))))) (mSet 1 (mVar 4)))))) r) [.dat (notesV ns), .dat (cutsV (f.flatMap (cutStep (joinsB ns i [])))), s2, s3, s4, s5] P) : Ok ((loopS (gN 2) (mSeq (mSet 3 (mAndV (mBin oGt (mVar 2) (mV (.int 0))) (mAndV (mBin oIsN (mBin oIx (mBin oIx (mVar 0) (mVar 2)) (mV (.int 2))) (mV .non)) (mBin oEq (mBin oIx (mBin oIx (mVar 0) (mVar 2)) (mV (.int 2))) (mBin oIx (mBin oIx (mVar 0) (mBin oSub (mVar 2) (mV (.int 1)))) (mV (.int 2))))))) (mSeq (mSet 4 (mLst mNil)) (mSeq (mFor (mItems (mVar 1)) (gN 5) (mSet 4 (mBin oAdd (mVar 4) (mIfE (mTru (mVar 3)) (mLst (mCons (mBin oAdd (mVar 5) (mLst (mCons (mV (.int 1)) mNil))) (mCons (mBin oAdd (mVar 5) (mLst (mCons (mV (.int 0)) mNil))) mNil))) (mLst (mCons (mBin oAdd (mVar 5) (mLst (mCons (mV (.int 1)) mNil))) mNil)))))) (mSet 1 (mVar 4)))))) (.int (i : Int) :: r)) [.dat (notesV ns), s1, s2, s3, s4, s5] P := by
  have inn := fun s2 s5 => cutIn_loop (s0 := .dat (notesV ns)) (s1 := .dat (cutsV f)) (s2 := s2) (j := joinsB ns i []) f [] s5 (fun li h => by have := L li h; omega) (by simp; exact fw)
  have mo := fun s1 s3 s4 s5 Q => may_ok (ns := ns) (i := i) (s1 := s1) (s3 := s3) (s4 := s4) (s5 := s5) (Q := Q) hi
  generalize hM : (mAndV (mBin oGt (mVar 2) (mV (.int 0))) (mAndV (mBin oIsN (mBin oIx (mBin oIx (mVar 0) (mVar 2)) (mV (.int 2))) (mV .non)) (mBin oEq (mBin oIx (mBin oIx (mVar 0) (mVar 2)) (mV (.int 2))) (mBin oIx (mBin oIx (mVar 0) (mBin oSub (mVar 2) (mV (.int 1)))) (mV (.int 2)))))) = M at mo k ⊢
  simp only [ok_loopC]
  rcases h1 with rfl | rfl
  · unfold cutsV at inn k ⊢
    simp_arith [↓mo]
    refine Ok.mono (inn _ _) ?_
    rintro o e' ⟨rfl, s5, rfl⟩
    simp_arith
    exact k _ _ _ _
  · unfold cutsV at inn k ⊢
    simp_arith [↓mo]
    refine Ok.mono (inn _ _) ?_
    rintro o e' ⟨rfl, s5, rfl⟩
    simp_arith
    exact k _ _ _ _
theorem cutsOk_next {f : List (List Int)} {c : Nat} {j : Bool} (L : ∀ li ∈ f, li.length ≤ c) : ∀ li ∈ f.flatMap (cutStep j), li.length ≤ c + 1 := fun li h => by
  obtain ⟨l0, h0, h2⟩ := List.mem_flatMap.mp h
  have := L l0 h0
  unfold cutStep at h2
  split at h2
  · simp only [List.mem_cons, List.not_mem_nil, or_false] at h2
    rcases h2 with rfl | rfl <;> (rw [List.length_append]; simp; omega)
  · simp only [List.mem_cons, List.not_mem_nil, or_false] at h2
    subst h2
    rw [List.length_append]; simp; omega
theorem cutOut_loop {ns : List Note} {P : Out → Ev → Prop} : ∀ (r i : Nat) (f : List (List Int)) (c : Nat) (s2 s3 s4 s5 : Slot), i + r ≤ ns.length → (∀ li ∈ f, li.length ≤ c) → c + r ≤ 900 → f.length * 2 ^ r ≤ 1000000 →
    (∀ s2 s3 s4 s5, P .nx [.dat (notesV ns), .dat (cutsV (cutGo ns r i f)), s2, s3, s4, s5]) → Ok ((loopS (gN 2) (mSeq (mSet 3 (mAndV (mBin oGt (mVar 2) (mV (.int 0))) (mAndV (mBin oIsN (mBin oIx (mBin oIx (mVar 0) (mVar 2)) (mV (.int 2))) (mV .non)) (mBin oEq (mBin oIx (mBin oIx (mVar 0) (mVar 2)) (mV (.int 2))) (mBin oIx (mBin oIx (mVar 0) (mBin oSub (mVar 2) (mV (.int 1)))) (mV (.int 2))))))) (mSeq (mSet 4 (mLst mNil)) (mSeq (mFor (mItems (mVar 1)) (gN 5) (mSet 4 (mBin oAdd (mVar 4) (mIfE (mTru (mVar 3)) (mLst (mCons (mBin oAdd (mVar 5) (mLst (mCons (mV (.int 1)) mNil))) (mCons (mBin oAdd (mVar 5) (mLst (mCons (mV (.int 0)) mNil))) mNil))) (mLst (mCons (mBin oAdd (mVar 5) (mLst (mCons (mV (.int 1)) mNil))) mNil)))))) (mSet 1 (mVar 4)))))) ((List.range' i r).map fun (j : Nat) => Val.int (j : Int))) [.dat (notesV ns), .dat (cutsV f), s2, s3, s4, s5] P
  | 0, i, f, c, s2, s3, s4, s5, _, _, _, _, k => by
    show Ok (loopS _ _ []) _ _
    rw [ok_loop0]
    exact k _ _ _ _
  | r + 1, i, f, c, s2, s3, s4, s5, hi, L, hc, hl, k => by
    have fl := flat_len (f := cutStep (joinsB ns i [])) (w := 2) (xs := f) fun x _ => cutStep_len
    have pw : f.length * 2 * 2 ^ r ≤ 1000000 := by rw [Nat.pow_succ] at hl; rw [Nat.mul_assoc, Nat.mul_comm 2]; exact hl
    have pos : 1 ≤ 2 ^ r := Nat.one_le_pow _ _ (by omega)
    have fw : f.length * 2 ≤ 1000000 := Nat.le_trans (Nat.le_mul_of_pos_right _ pos) pw
    rw [List.range'_succ, List.map_cons]
    refine cut_turn (by omega) (.inl rfl) L (by omega) fw fun s2 s3 s4 s5 => ?_
    exact cutOut_loop r (i + 1) _ (c + 1) _ _ _ _ (by omega) (cutsOk_next L) (by omega) (Nat.le_trans (Nat.mul_le_mul_right _ fl) pw) k
theorem r_cuts {ns : List Note} (h0 : ns ≠ []) (h2 : ns.length ≤ 19) : Ok den__law_cuts [.dat (notesV ns)] Q ↔ Q (.dat (cutsV (cutsL ns))) [.un] := by
  have ⟨n, hn⟩ : ∃ n, ns.length = n + 1 := by
    cases ns with
    | nil => exact absurd rfl h0
    | cons a b => exact ⟨b.length, rfl⟩
  refine ok_det ?_
  have p2 : 2 * 2 ^ n ≤ 1000000 := by
    have : 2 ^ n ≤ 2 ^ 18 := Nat.pow_le_pow_right (by omega) (by omega)
    omega
  have fl := flat_len (f := cutStep (joinsB ns 0 [])) (w := 2) (xs := [[]]) fun x _ => cutStep_len
  have L0 : ∀ li ∈ ([[]] : List (List Int)), li.length ≤ 0 := fun li hl => (by simp at hl; subst hl; simp)
  have rg : rangeV 0 (ns.length : Int) = .int ((0 : Nat) : Int) :: (List.range' 1 n).map fun (j : Nat) => Val.int (j : Int) := by
    have := rangeI (i := 0) (n := (ns.length : Int))
    have e0 : ((0 : Nat) : Int) = 0 := rfl
    rw [e0] at this
    rw [this]
    have e1 : ((ns.length : Int) - (0 : Int)).toNat = n + 1 := by omega
    rw [e1, List.range'_succ, List.map_cons]
  simp_arith [↓den__law_cuts, ↓b__law_cuts, ↓ok_lenN]
  rw [rg]
  refine ⟨⟨by omega, by omega⟩, ?_⟩
  refine cut_turn (f := [[]]) (c := 0) (by omega) (.inr rfl) L0 (by omega) (by simp) fun s2 s3 s4 s5 => ?_
  refine cutOut_loop n 1 _ 1 _ _ _ _ (by omega) (cutsOk_next L0) (by omega) (Nat.le_trans (Nat.mul_le_mul_right _ fl) (by simpa using p2)) fun s2 s3 s4 s5 => ?_
  simp_arith
  unfold cutsL
  rw [hn]
  rfl
abbrev Stay := Int × Int × Int × Int
def sV (a : Stay) : Val := .lst [.int a.1, .int a.2.1, .int a.2.2.1, .int a.2.2.2]
structure FS where
  found : List Stay
  gone : Int
  lx : Option Int
def setLast (f : List Stay) (k : Int) : List Stay := match f.getLast? with
  | none => f
  | some a => f.dropLast ++ [(a.1, k, a.2.2)]
def mn (i j : Int) : Int := if j < i then j else i
def stLeast (s p : Int) (t : Str) (m : Int) (w : FS) : Int := mx (mx (mx 0 (m - high t s)) (match w.lx with
  | none => 0
  | some y => y + p)) (w.gone + 1)
def stStep (s p : Int) (t : Str) (k : Int) (n : Note) (x c : Int) (w : FS) : Option FS := match n.2.2 with
  | none => (match w.lx with
    | none => some { w with gone := x }
    | some y => if y ≥ x then none else some { w with gone := x })
  | some m => if c = 0 then some ⟨setLast w.found k, w.gone, some x⟩
    else if stLeast s p t m w > mn (m - low t s) x then none else some ⟨w.found ++ [(k, k, stLeast s p t m w, mn (m - low t s) x)], w.gone, some x⟩
def stGo (s p : Int) (t : Str) : List Note → List Int → List Int → Nat → FS → Option FS
  | [], _, _, _, w => some w
  | n :: r, x :: xs, c :: cs, k, w => (stStep s p t k n x c w).bind fun w' => stGo s p t r xs cs (k + 1) w'
  | _ :: _, _, _, _, _ => none
abbrev fs0 : FS := ⟨[], -1, none⟩
def staysL (s p : Int) (t : Str) (ns : List Note) (xs cs : List Int) : Option (List Stay) := (stGo s p t ns xs cs 0 fs0).map (·.found)
structure FSOk (ns : List Note) (xs : List Int) (k : Nat) (w : FS) : Prop where
  prev : 0 < k → mkAt ns (k - 1) ≠ none → w.found ≠ []
  nil : w.lx = none ↔ w.found = []
  last : ∀ a, w.found.getLast? = some a → 0 ≤ a.2.1 ∧ a.2.1 < k ∧ ∃ y, w.lx = some y ∧ xs[a.2.1.toNat]? = some y
theorem setLast_some {f : List Stay} {a : Stay} {k : Int} (h : f.getLast? = some a) : setLast f k = f.dropLast ++ [(a.1, k, a.2.2)] := by
  unfold setLast; rw [h]
theorem FSOk.step {ns : List Note} {xs : List Int} {k : Nat} {w w' : FS} {n : Note} {x c : Int} (h : FSOk ns xs k w) (hn : ns[k]? = some n) (hx : xs[k]? = some x) (hc : c = 0 → n.2.2 ≠ none → w.found ≠ []) (e : stStep s p t k n x c w = some w') : FSOk ns xs (k + 1) w' := by
  have mk1 : mkAt ns (k + 1 - 1) = n.2.2 := by simp [mkAt, hn]
  unfold stStep at e
  obtain ⟨lo, hi, m⟩ := n
  cases m with
  | none =>
    have : w' = { w with gone := x } := by
      simp only at e
      cases hl : w.lx with
      | none => rw [hl] at e; simp only at e; exact (Option.some.inj e).symm
      | some y =>
        rw [hl] at e; simp only at e
        split at e
        · cases e
        · exact (Option.some.inj e).symm
    subst this
    exact ⟨fun _ z => absurd mk1 z, h.nil, fun a ha => ⟨(h.last a ha).1, by have := (h.last a ha).2.1; omega, (h.last a ha).2.2⟩⟩
  | some m =>
    simp only at e
    by_cases c0 : c = 0
    · rw [if_pos c0] at e
      cases e
      have ne := hc c0 (by simp)
      obtain ⟨a, ha⟩ : ∃ a, w.found.getLast? = some a := ⟨w.found.getLast ne, List.getLast?_eq_some_getLast ne⟩
      refine ⟨fun _ _ z => ?_, ⟨fun z => (by cases z), fun z => ?_⟩, fun b hb => ?_⟩
      · simp only at z
        rw [setLast_some ha] at z
        simp at z
      · simp only at z
        rw [setLast_some ha] at z
        simp at z
      · simp only at hb
        rw [setLast_some ha, List.getLast?_append] at hb
        simp at hb
        subst hb
        exact ⟨by simp, by simp only; omega, x, rfl, by simpa using hx⟩
    · rw [if_neg c0] at e
      split at e
      · cases e
      · cases e
        refine ⟨fun _ _ z => (by simp at z), ⟨fun z => (by cases z), fun z => (by simp at z)⟩, fun b hb => ?_⟩
        rw [List.getLast?_append] at hb
        simp at hb
        subst hb
        exact ⟨by simp, by simp only; omega, x, rfl, by simpa using hx⟩
theorem veq_stays {f : List Stay} : veq (.lst (f.map sV)) (.lst []) = decide (f = []) := by
  have nbsV : ∀ f : List Stay, nbs (f.map sV) = true := fun f => by
    induction f with
    | nil => rfl
    | cons a r ih => rw [List.map_cons, nbs, ih]; rfl
  have nL : nb (.lst (f.map sV)) = true := by rw [nb]; exact nbsV f
  cases f with
  | nil => rfl
  | cons a r =>
    rw [veq_no nL rfl (by simp)]
    simp
theorem dOk_stays {f : List Stay} : dOk (.lst (f.map sV)) = true := by
  have h1 : ∀ f : List Stay, isDs (f.map sV) = true := fun f => by
    induction f with
    | nil => rfl
    | cons a r ih => rw [List.map_cons, isDs, ih]; rfl
  have h2 : ∀ f : List Stay, deps (f.map sV) ≤ 1 := fun f => by
    induction f with
    | nil => exact Nat.zero_le _
    | cons a r ih =>
      rw [List.map_cons, deps]
      have : dep (sV a) = 1 := by simp [sV, dep, deps]
      omega
  have := h2 f
  simp [dOk, isD, h1, dep]
  omega
theorem ok_NeSt {f : List Stay} {e : Ev} : Ok (oNe (.lst (f.map sV)) (.lst [])) e Q ↔ Q (.dat (.bl (decide (f ≠ [])))) e := by
  rw [ok_oNeL, veq_stays, dOk_stays, dOk_nilL]
  by_cases h : f = [] <;> simp [h]
theorem put_last {g : List Stay} {a : Stay} {k : Int} {s0 s1 s2 s3 s4 s6 s7 s8 s9 : Slot} {P : Out → Ev → Prop} : Ok (putN 5 (.int k) (-1) 1) [s0, s1, s2, s3, s4, .dat (.lst ((g ++ [a]).map sV)), s6, s7, s8, s9] P ↔ P .nx [s0, s1, s2, s3, s4, .dat (.lst ((g ++ [(a.1, k, a.2.2)]).map sV)), s6, s7, s8, s9] := by
  have e : putN 5 (.int k) (-1) 1 [s0, s1, s2, s3, s4, .dat (.lst ((g ++ [a]).map sV)), s6, s7, s8, s9] = .ok .nx [s0, s1, s2, s3, s4, .dat (.lst ((g ++ [(a.1, k, a.2.2)]).map sV)), s6, s7, s8, s9] := by
    unfold putN
    have i1 : ixN ((g ++ [a]).map sV).length (-1) = some g.length := by
      unfold ixN
      rw [List.length_map, List.length_append, if_neg (by omega), if_pos (by simp; omega)]
      have : (-1 + ((g.length + [a].length : Nat) : Int)).toNat = g.length := by simp; omega
      rw [this]
    have i2 : ((g ++ [a]).map sV)[g.length]? = some (.lst [.int a.1, .int a.2.1, .int a.2.2.1, .int a.2.2.2]) := by simp [sV]
    have i3 : ixN ([.int a.1, .int a.2.1, .int a.2.2.1, .int a.2.2.2] : List Val).length 1 = some 1 := rfl
    simp only [List.getElem?_cons_succ, List.getElem?_cons_zero, i1, i2, i3]
    have i4 : ((g ++ [a]).map sV).set g.length (.lst [.int a.1, .int k, .int a.2.2.1, .int a.2.2.2]) = (g ++ [(a.1, k, a.2.2)]).map sV := by simp [sV]
    simp only [List.set_cons_succ, List.set_cons_zero, i4]
  exact ok_ex.trans ⟨fun ⟨_, _, q, q2⟩ => (by rw [e] at q; cases q; exact q2), fun q => ⟨_, _, e, q⟩⟩
theorem if_mn {i j : Int} : (if j < i then j else i) = mn i j := rfl
theorem stay_turn {f : Int} {ns : List Note} {xs cs : List Int} {k : Nat} {n : Note} {x c : Int} {w : FS} {r : List Val} {s4 s7 s8 s9 : Slot} {P : Out → Ev → Prop} (ht : inMenu t) (hn : ns[k]? = some n) (hm : ∀ m, n.2.2 = some m → 0 ≤ m) (hx : xs[k]? = some x) (hcs : cs[k]? = some c) (W : FSOk ns xs k w) (hc : c = 0 → n.2.2 ≠ none → w.found ≠ []) (hl0 : w.found.length ≤ 900)
    (h : match stStep s p t k n x c w with
      | none => ∀ s4 s5 s6 s7 s8 s9, P (.rt (.dat .non)) [.dat (pV s f p t), .dat (notesV ns), .dat (tupI xs), .dat (lstI cs), s4, s5, s6, s7, s8, s9]
      | some w' => ∀ s4 s7 s8 s9, Ok ((loopN 4 (mNIf (mTru (mBin oIs (mBin oIx (mBin oIx (mVar 1) (mVar 4)) (mV (.int 2))) (mV .non))) (mSeq (mNIf (mAnd (mTru (mBin oNe (mVar 5) (mLst mNil))) (mTru (mBin oGe (mBin oIx (mVar 2) (mBin oIx (mBin oIx (mVar 5) (mNeg (mV (.int 1)))) (mV (.int 1)))) (mBin oIx (mVar 2) (mVar 4))))) (mRet (mK (mV .non))) mSkip) (mNSet 6 (mBin oIx (mVar 2) (mVar 4)))) (mNIf (mTru (mBin oEq (mBin oIx (mVar 3) (mVar 4)) (mV (.int 0)))) (mNPut 5 (mNeg (mV (.int 1))) (mV (.int 1)) (mVar 4)) (mSeq (mNSet 7 (mCall [false, false] den__law_span (mCons (mVar 0) (mCons (mBin oIx (mBin oIx (mVar 1) (mVar 4)) (mV (.int 2))) mNil)) [])) (mSeq (mNSet 8 (mCB fMax3 (mCons (mBin oIx (mVar 7) (mV (.int 0))) (mCons (mIfE (mTru (mBin oNe (mVar 5) (mLst mNil))) (mBin oAdd (mBin oIx (mVar 2) (mBin oIx (mBin oIx (mVar 5) (mNeg (mV (.int 1)))) (mV (.int 1)))) (mBin oIx (mVar 0) (mV (.int 3)))) (mV (.int 0))) (mCons (mBin oAdd (mVar 6) (mV (.int 1))) mNil))))) (mSeq (mNSet 9 (mCB fMin2 (mCons (mBin oIx (mVar 7) (mV (.int 1))) (mCons (mBin oIx (mVar 2) (mVar 4)) mNil)))) (mSeq (mNIf (mTru (mBin oGt (mVar 8) (mVar 9))) (mRet (mK (mV .non))) mSkip) (mNApp 5 (mLst (mCons (mVar 4) (mCons (mVar 4) (mCons (mVar 8) (mCons (mVar 9) mNil))))))))))))) r) [.dat (pV s f p t), .dat (notesV ns), .dat (tupI xs), .dat (lstI cs), s4, .dat (.lst (w'.found.map sV)), .dat (.int w'.gone), s7, s8, s9] P) :
    Ok ((loopN 4 (mNIf (mTru (mBin oIs (mBin oIx (mBin oIx (mVar 1) (mVar 4)) (mV (.int 2))) (mV .non))) (mSeq (mNIf (mAnd (mTru (mBin oNe (mVar 5) (mLst mNil))) (mTru (mBin oGe (mBin oIx (mVar 2) (mBin oIx (mBin oIx (mVar 5) (mNeg (mV (.int 1)))) (mV (.int 1)))) (mBin oIx (mVar 2) (mVar 4))))) (mRet (mK (mV .non))) mSkip) (mNSet 6 (mBin oIx (mVar 2) (mVar 4)))) (mNIf (mTru (mBin oEq (mBin oIx (mVar 3) (mVar 4)) (mV (.int 0)))) (mNPut 5 (mNeg (mV (.int 1))) (mV (.int 1)) (mVar 4)) (mSeq (mNSet 7 (mCall [false, false] den__law_span (mCons (mVar 0) (mCons (mBin oIx (mBin oIx (mVar 1) (mVar 4)) (mV (.int 2))) mNil)) [])) (mSeq (mNSet 8 (mCB fMax3 (mCons (mBin oIx (mVar 7) (mV (.int 0))) (mCons (mIfE (mTru (mBin oNe (mVar 5) (mLst mNil))) (mBin oAdd (mBin oIx (mVar 2) (mBin oIx (mBin oIx (mVar 5) (mNeg (mV (.int 1)))) (mV (.int 1)))) (mBin oIx (mVar 0) (mV (.int 3)))) (mV (.int 0))) (mCons (mBin oAdd (mVar 6) (mV (.int 1))) mNil))))) (mSeq (mNSet 9 (mCB fMin2 (mCons (mBin oIx (mVar 7) (mV (.int 1))) (mCons (mBin oIx (mVar 2) (mVar 4)) mNil)))) (mSeq (mNIf (mTru (mBin oGt (mVar 8) (mVar 9))) (mRet (mK (mV .non))) mSkip) (mNApp 5 (mLst (mCons (mVar 4) (mCons (mVar 4) (mCons (mVar 8) (mCons (mVar 9) mNil))))))))))))) (.int (k : Int) :: r)) [.dat (pV s f p t), .dat (notesV ns), .dat (tupI xs), .dat (lstI cs), s4, .dat (.lst (w.found.map sV)), .dat (.int w.gone), s7, s8, s9] P := by
  have hk : k < ns.length := (List.getElem?_eq_some_iff.mp hn).1
  have hk2 : ns[k] = n := (List.getElem?_eq_some_iff.mp hn).2
  have rk : ∀ (e : Ev) (Q : RV → Ev → Prop), Ok (oIx (notesV ns) (.int (k : Int))) e Q ↔ Q (.dat (nV n)) e := fun e Q => by rw [ixN_of hk, hk2]
  have xk : ∀ (e : Ev) (Q : RV → Ev → Prop), Ok (oIx (tupI xs) (.int (k : Int))) e Q ↔ Q (.dat (.int x)) e := fun e Q => ixT_of (atI_lit k (by simp [hx]))
  have ck : ∀ (e : Ev) (Q : RV → Ev → Prop), Ok (oIx (lstI cs) (.int (k : Int))) e Q ↔ Q (.dat (.int c)) e := fun e Q => ixL_of (atI_lit k (by simp [hcs]))
  have nl1 : ∀ i : Int, noLst (.int i) = true := fun _ => rfl
  have nl2 : ∀ i j : Int, noLst (.tup [.int i, .int j]) = true := fun _ _ => rfl
  have nl4 : ∀ i j i' j' : Int, noLsts [.int i, .int j, .int i', .int j'] = true := fun _ _ _ _ => rfl
  have ne := fun (e : Ev) (Q : RV → Ev → Prop) => ok_NeSt (f := w.found) (e := e) (Q := Q)
  rw [ok_loopNC]
  obtain ⟨lo, hi, m⟩ := n
  have lasts : ∀ a, w.found.getLast? = some a → ∃ y, w.lx = some y ∧ (∀ (e : Ev) (Q : RV → Ev → Prop), Ok (oIx (.lst (w.found.map sV)) (.int (-1))) e Q ↔ Q (.dat (sV a)) e) ∧ (∀ (e : Ev) (Q : RV → Ev → Prop), Ok (oIx (sV a) (.int 1)) e Q ↔ Q (.dat (.int a.2.1)) e) ∧ (∀ (e : Ev) (Q : RV → Ev → Prop), Ok (oIx (tupI xs) (.int a.2.1)) e Q ↔ Q (.dat (.int y)) e) := fun a ha => by
    obtain ⟨g1, g2, y, g3, g4⟩ := W.last a ha
    refine ⟨y, g3, fun e Q => ixL_of (last_at (by rw [List.getLast?_map, ha]; rfl)), fun e Q => ?_, fun e Q => ixT_of ?_⟩
    · unfold sV; exact ix_1
    · have := atI_lit (xs := xs.map Val.int) (a := .int y) a.2.1.toNat (by simp [g4])
      rwa [Int.toNat_of_nonneg g1] at this
  cases m with
  | none =>
    unfold stStep at h
    simp only at h
    cases hl : w.found.getLast? with
    | none =>
      have f0 : w.found = [] := List.getLast?_eq_none_iff.mp hl
      have l0 : w.lx = none := W.nil.mpr f0
      rw [l0] at h
      simp only at h
      simp_arith [↓ok_nIf, ↓ok_nSet, ↓rk, ↓nV, ↓optV_none, ↓ne, ↓xk, ↓nl1]
      exact ⟨fun z => absurd f0 z, fun _ => h _ _ _ _⟩
    | some a =>
      obtain ⟨y, l0, z1, z2, z3⟩ := lasts a hl
      have f0 : w.found ≠ [] := fun z => by rw [z] at hl; cases hl
      rw [l0] at h
      simp only at h
      simp_arith [↓ok_nIf, ↓ok_nSet, ↓rk, ↓nV, ↓optV_none, ↓ne, ↓xk, ↓nl1, ↓z1, ↓z2, ↓z3, ↓ok_K]
      exact ⟨fun _ => ⟨fun z => by rw [if_pos z] at h; exact h _ _ _ _ _ _, fun z => by rw [if_neg z] at h; exact h _ _ _ _⟩, fun z => absurd f0 z⟩
  | some m =>
    have m0 := hm m rfl
    have sp := fun Q => r_span' (g := s) (f := f) (p := p) (t := t) (k := m) (Q := Q) ht m0
    have p3 : ∀ (e : Ev) (Q : RV → Ev → Prop), Ok (oIx (pV s f p t) (.int 3)) e Q ↔ Q (.dat (.int p)) e := fun e Q => by unfold pV; exact ix_3
    have pe : (.lst [.int s, .str t, .int f, .int p]) = pV s f p t := rfl
    rw [pe] at sp
    unfold stStep at h
    simp only at h
    by_cases c0 : c = 0
    · rw [if_pos c0] at h
      have f0 := hc c0 (by simp)
      have ⟨a, ha⟩ : ∃ a, w.found.getLast? = some a := ⟨w.found.getLast f0, List.getLast?_eq_some_getLast f0⟩
      have ⟨g, hg⟩ := List.getLast?_eq_some_iff.mp ha
      rw [setLast_some ha, hg, List.dropLast_concat] at h
      subst c0
      rw [hg]
      simp_arith [↓ok_nIf, ↓rk, ↓nV, ↓optV_some, ↓ck, ↓ok_nPut, ↓nl1, ↓put_last]
      exact h _ _ _ _
    · rw [if_neg c0] at h
      cases hl : w.found.getLast? with
      | none =>
        have f0 : w.found = [] := List.getLast?_eq_none_iff.mp hl
        have l0 : w.lx = none := W.nil.mpr f0
        unfold stLeast at h
        rw [l0, f0] at h
        rw [f0] at ne ⊢
        simp_arith [↓ok_nIf, ↓rk, ↓nV, ↓optV_some, ↓ck, ↓ok_nSet, ↓sp, ↓nl2, ↓nl1, ↓nl4, ↓ne, ↓xk, ↓p3, ↓if_mx, ↓if_mn, ↓ok_K, ↓ok_nApp]
        refine ⟨fun z => absurd z c0, fun _ => ⟨fun z => absurd rfl z, fun _ => ?_⟩⟩
        simp only at h
        rw [f0] at hl0
        exact ⟨fun z => by rw [if_pos (of_decide_eq_true z)] at h; exact h _ _ _ _ _ _, fun z => by
          rw [if_neg (of_decide_eq_false z)] at h
          refine ⟨by rw [List.length_map, sizeLine_eq]; omega, ?_⟩
          have h2 := h
          simp only [List.map_append] at h2
          exact h2 _ _ _ _⟩
      | some a =>
        obtain ⟨y, l0, z1, z2, z3⟩ := lasts a hl
        have f0 : w.found ≠ [] := fun z => by rw [z] at hl; cases hl
        unfold stLeast at h
        rw [l0] at h
        simp_arith [↓ok_nIf, ↓rk, ↓nV, ↓optV_some, ↓ck, ↓ok_nSet, ↓sp, ↓nl2, ↓nl1, ↓nl4, ↓ne, ↓xk, ↓p3, ↓if_mx, ↓if_mn, ↓ok_K, ↓ok_nApp, ↓z1, ↓z2, ↓z3]
        refine ⟨fun z => absurd z c0, fun _ => ⟨fun _ => ?_, fun z => absurd f0 z⟩⟩
        simp only at h
        exact ⟨fun z => by rw [if_pos (of_decide_eq_true z)] at h; exact h _ _ _ _ _ _, fun z => by
          rw [if_neg (of_decide_eq_false z)] at h
          refine ⟨by rw [List.length_map, sizeLine_eq]; omega, ?_⟩
          have h2 := h
          simp only [List.map_append] at h2
          exact h2 _ _ _ _⟩
theorem stStep_len {k : Int} {n : Note} {x c : Int} {w w' : FS} (e : stStep s p t k n x c w = some w') : w'.found.length ≤ w.found.length + 1 := by
  unfold stStep at e
  have sl : (setLast w.found k).length ≤ w.found.length + 1 := by
    unfold setLast
    split
    · omega
    · rw [List.length_append, List.length_dropLast]; simp
  split at e
  · split at e
    · cases e; simp
    · split at e
      · cases e
      · cases e; simp
  · split at e
    · cases e; exact sl
    · split at e
      · cases e
      · cases e; simp
theorem stay_loop {f : Int} {ns : List Note} {xs cs : List Int} {P : Out → Ev → Prop} (ht : inMenu t) (hm : ∀ n ∈ ns, ∀ m, n.2.2 = some m → 0 ≤ m) (hx : xs.length = ns.length) (hcs : cs.length = ns.length) (hz : ∀ i, cs[i]? = some 0 → joinsB ns i [] = true) :
    ∀ (rest : List Note) (k : Nat) (w : FS) (s4 s7 s8 s9 : Slot), ns.drop k = rest → FSOk ns xs k w → w.found.length + rest.length ≤ 900 →
    (match stGo s p t rest (xs.drop k) (cs.drop k) k w with
      | none => ∀ s4 s5 s6 s7 s8 s9, P (.rt (.dat .non)) [.dat (pV s f p t), .dat (notesV ns), .dat (tupI xs), .dat (lstI cs), s4, s5, s6, s7, s8, s9]
      | some w' => ∀ s4 s7 s8 s9, P .nx [.dat (pV s f p t), .dat (notesV ns), .dat (tupI xs), .dat (lstI cs), s4, .dat (.lst (w'.found.map sV)), .dat (.int w'.gone), s7, s8, s9]) →
    Ok ((loopN 4 (mNIf (mTru (mBin oIs (mBin oIx (mBin oIx (mVar 1) (mVar 4)) (mV (.int 2))) (mV .non))) (mSeq (mNIf (mAnd (mTru (mBin oNe (mVar 5) (mLst mNil))) (mTru (mBin oGe (mBin oIx (mVar 2) (mBin oIx (mBin oIx (mVar 5) (mNeg (mV (.int 1)))) (mV (.int 1)))) (mBin oIx (mVar 2) (mVar 4))))) (mRet (mK (mV .non))) mSkip) (mNSet 6 (mBin oIx (mVar 2) (mVar 4)))) (mNIf (mTru (mBin oEq (mBin oIx (mVar 3) (mVar 4)) (mV (.int 0)))) (mNPut 5 (mNeg (mV (.int 1))) (mV (.int 1)) (mVar 4)) (mSeq (mNSet 7 (mCall [false, false] den__law_span (mCons (mVar 0) (mCons (mBin oIx (mBin oIx (mVar 1) (mVar 4)) (mV (.int 2))) mNil)) [])) (mSeq (mNSet 8 (mCB fMax3 (mCons (mBin oIx (mVar 7) (mV (.int 0))) (mCons (mIfE (mTru (mBin oNe (mVar 5) (mLst mNil))) (mBin oAdd (mBin oIx (mVar 2) (mBin oIx (mBin oIx (mVar 5) (mNeg (mV (.int 1)))) (mV (.int 1)))) (mBin oIx (mVar 0) (mV (.int 3)))) (mV (.int 0))) (mCons (mBin oAdd (mVar 6) (mV (.int 1))) mNil))))) (mSeq (mNSet 9 (mCB fMin2 (mCons (mBin oIx (mVar 7) (mV (.int 1))) (mCons (mBin oIx (mVar 2) (mVar 4)) mNil)))) (mSeq (mNIf (mTru (mBin oGt (mVar 8) (mVar 9))) (mRet (mK (mV .non))) mSkip) (mNApp 5 (mLst (mCons (mVar 4) (mCons (mVar 4) (mCons (mVar 8) (mCons (mVar 9) mNil))))))))))))) ((List.range' k rest.length).map fun (j : Nat) => Val.int (j : Int))) [.dat (pV s f p t), .dat (notesV ns), .dat (tupI xs), .dat (lstI cs), s4, .dat (.lst (w.found.map sV)), .dat (.int w.gone), s7, s8, s9] P
  | [], k, w, s4, s7, s8, s9, _, _, _, h => by
    show Ok (loopN _ _ []) _ _
    rw [ok_loopN0]
    exact h _ _ _ _
  | n :: r, k, w, s4, s7, s8, s9, hd, W, hl, h => by
    obtain ⟨hk, e1, e2⟩ := drop_at hd
    have hn : ns[k]? = some n := by rw [List.getElem?_eq_getElem hk, e1]
    have kx : k < xs.length := by omega
    have kc : k < cs.length := by omega
    rw [List.drop_eq_getElem_cons kx, List.drop_eq_getElem_cons kc] at h
    rw [List.length_cons] at hl ⊢
    rw [List.range'_succ, List.map_cons]
    have hc : cs[k] = 0 → n.2.2 ≠ none → w.found ≠ [] := fun c0 _ => by
      have j := hz k (by rw [List.getElem?_eq_getElem kc, c0])
      unfold joinsB at j
      simp only [Bool.and_eq_true, decide_eq_true_eq] at j
      obtain ⟨⟨⟨j1, _⟩, j2⟩, j3⟩ := j
      exact W.prev j1 fun z => by rw [j3, z] at j2; cases j2
    refine stay_turn ht hn (hm n (List.mem_of_getElem? hn)) (List.getElem?_eq_getElem kx) (List.getElem?_eq_getElem kc) W hc (by omega) ?_
    unfold stGo at h
    cases hs : stStep s p t k n xs[k] cs[k] w with
    | none =>
      rw [hs] at h
      exact h
    | some w' =>
      rw [hs] at h
      intro s4 s7 s8 s9
      have := stStep_len hs
      exact stay_loop ht hm hx hcs hz r (k + 1) w' _ _ _ _ e2 (W.step hn (List.getElem?_eq_getElem kx) hc hs) (by omega) h
def stV : Option (List Stay) → Val
  | none => .non
  | some f => .lst (f.map sV)
theorem r_stays {f : Int} {ns : List Note} {xs cs : List Int} (ht : inMenu t) (hm : ∀ n ∈ ns, ∀ m, n.2.2 = some m → 0 ≤ m) (hx : xs.length = ns.length) (hcs : cs.length = ns.length) (hz : ∀ i, cs[i]? = some 0 → joinsB ns i [] = true) (hl : ns.length ≤ 900) :
    Ok den__law_stays [.dat (pV s f p t), .dat (notesV ns), .dat (tupI xs), .dat (lstI cs)] Q ↔ Q (.dat (stV (staysL s p t ns xs cs))) [.un, .un, .un, .un] := by
  refine ok_det ?_
  have rg : rangeV 0 (ns.length : Int) = (List.range' 0 ns.length).map fun (j : Nat) => Val.int (j : Int) := by
    have := rangeI (i := 0) (n := (ns.length : Int))
    have e0 : ((0 : Nat) : Int) = 0 := rfl
    rw [e0] at this
    rw [this]
    have e1 : ((ns.length : Int) - (0 : Int)).toNat = ns.length := by omega
    rw [e1]
  have al : ((List.range' 0 ns.length).map fun (j : Nat) => Val.int (j : Int)).all noLst = true := by
    rw [List.all_eq_true]
    intro v hv
    have ⟨j, _, hj⟩ := List.mem_map.mp hv
    subst hj
    rfl
  have lp := fun (P : Out → Ev → Prop) s4 s7 s8 s9 => stay_loop (s := s) (p := p) (t := t) (f := f) (P := P) ht hm hx hcs hz ns 0 fs0 s4 s7 s8 s9 rfl ⟨fun z => absurd z (by omega), ⟨fun _ => rfl, fun _ => rfl⟩, fun a ha => by cases ha⟩ (by simpa using hl)
  have e0 : (fs0.found.map sV) = [] := rfl
  rw [e0] at lp
  simp_arith [↓den__law_stays, ↓b__law_stays, ↓ok_nFor, ↓ok_lenN]
  rw [rg]
  refine ⟨⟨by omega, by omega⟩, ⟨rfl, al⟩, ?_⟩
  refine lp _ _ _ _ _ ?_
  unfold staysL
  rw [List.drop_zero, List.drop_zero]
  cases hs : stGo s p t ns xs cs 0 fs0 with
  | none =>
    intro s4 s5 s6 s7 s8 s9
    simp_arith
    exact rfl
  | some w' =>
    intro s4 s7 s8 s9
    simp_arith
    exact rfl
end
end Pu.Q
set_option Elab.async false
set_option linter.all false
set_option maxRecDepth 100000
set_option maxHeartbeats 8000000
namespace Pu.Q
open PySem PySem.Spec PyProof.Rows L2 Pu
section
variable {s l p : Int} {t : Str} {Q : RV → Ev → Prop}
theorem mem_cutGo {ns : List Note} {cs : List Int} : ∀ {r i : Nat} {f : List (List Int)}, cs ∈ cutGo ns r i f ↔ ∃ line ∈ f, ∃ tl : List Int, cs = line ++ tl ∧ tl.length = r ∧ ∀ j v, tl[j]? = some v → v = 1 ∨ (v = 0 ∧ joinsB ns (i + j) [] = true)
  | 0, i, f => by
    unfold cutGo
    constructor
    · intro h
      exact ⟨cs, h, [], by simp, rfl, fun j v q => by simp at q⟩
    · rintro ⟨line, h, tl, rfl, h2, _⟩
      rw [List.length_eq_zero_iff.mp h2, List.append_nil]
      exact h
  | r + 1, i, f => by
    unfold cutGo
    rw [mem_cutGo]
    constructor
    · rintro ⟨line, h, tl, rfl, h2, h3⟩
      obtain ⟨l0, h4, h5⟩ := List.mem_flatMap.mp h
      have key : ∃ v, line = l0 ++ [v] ∧ (v = 1 ∨ (v = 0 ∧ joinsB ns i [] = true)) := by
        unfold cutStep at h5
        split at h5
        · rename_i j
          simp only [List.mem_cons, List.not_mem_nil, or_false] at h5
          rcases h5 with rfl | rfl
          · exact ⟨1, rfl, .inl rfl⟩
          · exact ⟨0, rfl, .inr ⟨rfl, j⟩⟩
        · simp only [List.mem_cons, List.not_mem_nil, or_false] at h5
          exact ⟨1, h5, .inl rfl⟩
      obtain ⟨v, rfl, hv⟩ := key
      refine ⟨l0, h4, v :: tl, by simp, by simp [h2], fun j u q => ?_⟩
      cases j with
      | zero => simp at q; subst q; exact hv
      | succ j =>
        have := h3 j u (by simpa using q)
        rwa [show i + 1 + j = i + (j + 1) by omega] at this
    · rintro ⟨line, h, tl, rfl, h2, h3⟩
      cases tl with
      | nil => cases h2
      | cons v tl =>
        refine ⟨line ++ [v], List.mem_flatMap.mpr ⟨line, h, ?_⟩, tl, by simp, by simpa using h2, fun j u q => ?_⟩
        · unfold cutStep
          rcases h3 0 v rfl with rfl | ⟨rfl, j⟩
          · split <;> simp
          · rw [if_pos (by simpa using j)]; simp
        · have := h3 (j + 1) u (by simpa using q)
          rwa [show i + 1 + j = i + (j + 1) by omega]
theorem mem_cuts {ns : List Note} {cs : List Int} : cs ∈ cutsL ns ↔ cs.length = ns.length ∧ ∀ (j : Nat) (v : Int), cs[j]? = some v → v = 1 ∨ (v = 0 ∧ joinsB ns j [] = true) := by
  unfold cutsL
  rw [mem_cutGo]
  constructor
  · rintro ⟨line, h, tl, rfl, h2, h3⟩
    rw [List.mem_singleton] at h
    subst h
    exact ⟨by simpa using h2, fun j v q => by have := h3 j v (by simpa using q); simpa using this⟩
  · rintro ⟨h1, h2⟩
    exact ⟨[], List.mem_singleton.mpr rfl, cs, rfl, h1, fun j v q => by have := h2 j v q; simpa using this⟩
def Mins : List Note → Option Int → List Int → Prop
  | [], _, xs => xs = []
  | n :: r, q, xs => ∃ x xs', xs = x :: xs' ∧ n.1 ≤ x ∧ x ≤ n.2.1 ∧ (∀ y, q = some y → y ≤ x) ∧ Mins r (some x) xs'
theorem mem_minGo {xs : List Int} : ∀ {ns : List Note} {f : List (List Int)}, xs ∈ minGo ns f ↔ ∃ line ∈ f, ∃ tl : List Int, xs = line ++ tl ∧ Mins ns line.getLast? tl
  | [], f => by
    unfold minGo
    constructor
    · intro h; exact ⟨xs, h, [], by simp, rfl⟩
    · rintro ⟨line, h, tl, rfl, h2⟩
      have h2 : tl = [] := h2
      rw [h2, List.append_nil]; exact h
  | n :: r, f => by
    unfold minGo
    rw [mem_minGo]
    constructor
    · rintro ⟨line, h, tl, rfl, h2⟩
      obtain ⟨l0, h4, h5⟩ := List.mem_flatMap.mp h
      obtain ⟨x, rfl, h6, h7, h8⟩ := minStep_mem.mp h5
      refine ⟨l0, h4, x :: tl, by simp, x, tl, rfl, h6, h7, h8, ?_⟩
      simpa using h2
    · rintro ⟨line, h, tl, rfl, x, xs', rfl, h6, h7, h8, h9⟩
      refine ⟨line ++ [x], List.mem_flatMap.mpr ⟨line, h, minStep_mem.mpr ⟨x, rfl, h6, h7, h8⟩⟩, xs', by simp, ?_⟩
      simpa using h9
theorem mem_mins {ns : List Note} {xs : List Int} : xs ∈ minsL ns ↔ Mins ns none xs := by
  unfold minsL
  rw [mem_minGo]
  constructor
  · rintro ⟨line, h, tl, rfl, h2⟩
    rw [List.mem_singleton] at h
    subst h
    simpa using h2
  · intro h
    exact ⟨[], List.mem_singleton.mpr rfl, xs, rfl, h⟩
theorem Mins.len : ∀ {ns : List Note} {q : Option Int} {xs : List Int}, Mins ns q xs → xs.length = ns.length
  | [], _, _, h => by rw [show _ = _ from h]; rfl
  | n :: r, q, xs, ⟨x, xs', e, _, _, _, h⟩ => by rw [e, List.length_cons, List.length_cons, h.len]
theorem minsL_len {w : Nat} : ∀ {ns : List Note} {f : List (List Int)}, (∀ n ∈ ns, n.2.1 + 1 - n.1 ≤ (w : Int)) → (minGo ns f).length ≤ f.length * w ^ ns.length
  | [], f, _ => by simp [minGo]
  | n :: r, f, h => by
    unfold minGo
    have fl := flat_len (f := minStep n) (w := w) (xs := f) fun x _ => minStep_len (n := n) (line := x) (w := w) (h n List.mem_cons_self)
    refine Nat.le_trans (minsL_len (ns := r) fun x hx => h x (List.mem_cons_of_mem _ hx)) ?_
    rw [List.length_cons, Nat.pow_succ, Nat.mul_comm (w ^ r.length), ← Nat.mul_assoc]
    exact Nat.mul_le_mul_right _ fl
theorem cutsL_len {ns : List Note} : ∀ {r i : Nat} {f : List (List Int)}, (cutGo ns r i f).length ≤ f.length * 2 ^ r
  | 0, i, f => by simp [cutGo]
  | r + 1, i, f => by
    unfold cutGo
    have fl := flat_len (f := cutStep (joinsB ns i [])) (w := 2) (xs := f) fun x _ => cutStep_len
    refine Nat.le_trans cutsL_len ?_
    rw [Nat.pow_succ, Nat.mul_comm (2 ^ r), ← Nat.mul_assoc]
    exact Nat.mul_le_mul_right _ fl
def fitV1 (q : List Int × List Stay) : Val := .tup [tupI q.1, .lst (q.2.map sV)]
def fits1 (s p : Int) (t : Str) (ns : List Note) (xs : List Int) (cl : List (List Int)) : List (List Int × List Stay) := cl.filterMap fun cs => (staysL s p t ns xs cs).map fun f => (xs, f)
def allL (s p : Int) (t : Str) (ns : List Note) : List (List Int × List Stay) := (minsL ns).flatMap fun xs => fits1 s p t ns xs (cutsL ns)
theorem mem_all {ns : List Note} {q : List Int × List Stay} : q ∈ allL s p t ns ↔ ∃ cs, Mins ns none q.1 ∧ cs ∈ cutsL ns ∧ staysL s p t ns q.1 cs = some q.2 := by
  unfold allL fits1
  rw [List.mem_flatMap]
  constructor
  · rintro ⟨xs, h1, h2⟩
    obtain ⟨cs, h3, h4⟩ := List.mem_filterMap.mp h2
    cases hs : staysL s p t ns xs cs with
    | none => rw [hs] at h4; cases h4
    | some f =>
      rw [hs] at h4
      cases h4
      exact ⟨cs, mem_mins.mp h1, h3, hs⟩
  · rintro ⟨cs, h1, h2, h3⟩
    exact ⟨q.1, mem_mins.mpr h1, List.mem_filterMap.mpr ⟨cs, h2, by rw [h3]; rfl⟩⟩
theorem allIn_loop {f : Int} {ns : List Note} {xs : List Int} {P : Out → Ev → Prop} (ht : inMenu t) (hm : ∀ n ∈ ns, ∀ m, n.2.2 = some m → 0 ≤ m) (hx : xs.length = ns.length) (hl : ns.length ≤ 900) (cl : List (List Int)) : ∀ (acc : List (List Int × List Stay)) (s4 s5 : Slot), (∀ cs ∈ cl, cs ∈ cutsL ns) → acc.length + cl.length ≤ 1000000 →
    (∀ s4 s5, P .nx [.dat (pV s f p t), .dat (notesV ns), .own (.lst ((acc ++ fits1 s p t ns xs cl).map fitV1)), .dat (tupI xs), s4, s5]) →
    Ok ((loopS (gN 4) (mSeq (mSet 5 (mCall [false, false, false, false] den__law_stays (mCons (mVar 0) (mCons (mVar 1) (mCons (mVar 3) (mCons (mVar 4) mNil)))) [])) (mIf (mTru (mBin oIsN (mVar 5) (mV .non))) (mEx (mApp (mVar 2) (mTup (mCons (mVar 3) (mCons (mVar 5) mNil))))) mSkip))) (cl.map lstI)) [.dat (pV s f p t), .dat (notesV ns), .own (.lst (acc.map fitV1)), .dat (tupI xs), s4, s5] P := by
  induction cl with
  | nil =>
    intro acc s4 s5 _ _ k
    show Ok (loopS _ _ []) _ _
    rw [ok_loop0]
    have := k s4 s5
    rw [show fits1 s p t ns xs [] = [] from rfl, List.append_nil] at this
    exact this
  | cons cs r ih0 =>
    intro acc s4 s5 hc hl2 k
    have hcs := mem_cuts.mp (hc cs List.mem_cons_self)
    have rs := fun Q => r_stays (s := s) (f := f) (p := p) (t := t) (Q := Q) (xs := xs) (cs := cs) ht hm hx hcs.1 (fun i q => by
      rcases hcs.2 i 0 q with z | z
      · cases z
      · exact z.2) hl
    rw [List.length_cons] at hl2
    rw [List.map_cons, ok_loopC]
    cases hs : staysL s p t ns xs cs with
    | none =>
      have e1 : fits1 s p t ns xs (cs :: r) = fits1 s p t ns xs r := by unfold fits1; rw [List.filterMap_cons, hs]; rfl
      rw [e1] at k
      have ih := fun s4 s5 => ih0 acc s4 s5 (fun c h => hc c (List.mem_cons_of_mem _ h)) (by omega) k
      rw [hs] at rs
      simp_arith [↓rs, ↓stV]
      exact ih _ _
    | some g =>
      have e1 : fits1 s p t ns xs (cs :: r) = (xs, g) :: fits1 s p t ns xs r := by unfold fits1; rw [List.filterMap_cons, hs]; rfl
      rw [e1] at k
      have ih := fun s4 s5 => ih0 (acc ++ [(xs, g)]) s4 s5 (fun c h => hc c (List.mem_cons_of_mem _ h)) (by rw [List.length_append]; simp; omega) (by intro s4 s5; rw [List.append_assoc]; exact k s4 s5)
      rw [hs] at rs
      rw [List.map_append] at ih
      simp_arith [↓rs, ↓stV, ↓List.length_map]
      exact ⟨by rw [sizeLine_eq]; omega, ih _ _⟩
theorem fits1_len {ns : List Note} {xs : List Int} {cl : List (List Int)} : (fits1 s p t ns xs cl).length ≤ cl.length := List.length_filterMap_le _ _
theorem allOut_loop {f : Int} {ns : List Note} {P : Out → Ev → Prop} (ht : inMenu t) (hm : ∀ n ∈ ns, ∀ m, n.2.2 = some m → 0 ≤ m) (h0 : ns ≠ []) (hl : ns.length ≤ 19) (ml : List (List Int)) : ∀ (acc : List (List Int × List Stay)) (s3 s4 s5 : Slot), (∀ xs ∈ ml, xs ∈ minsL ns) → acc.length + ml.length * (cutsL ns).length ≤ 1000000 →
    (∀ s3 s4 s5, P .nx [.dat (pV s f p t), .dat (notesV ns), .own (.lst ((acc ++ ml.flatMap fun xs => fits1 s p t ns xs (cutsL ns)).map fitV1)), s3, s4, s5]) →
    Ok ((loopS (gN 3) (mFor (mItems (mCall [false] den__law_cuts (mCons (mVar 1) mNil) [])) (gN 4) (mSeq (mSet 5 (mCall [false, false, false, false] den__law_stays (mCons (mVar 0) (mCons (mVar 1) (mCons (mVar 3) (mCons (mVar 4) mNil)))) [])) (mIf (mTru (mBin oIsN (mVar 5) (mV .non))) (mEx (mApp (mVar 2) (mTup (mCons (mVar 3) (mCons (mVar 5) mNil))))) mSkip)))) (ml.map tupI)) [.dat (pV s f p t), .dat (notesV ns), .own (.lst (acc.map fitV1)), s3, s4, s5] P := by
  induction ml with
  | nil =>
    intro acc s3 s4 s5 _ _ k
    show Ok (loopS _ _ []) _ _
    rw [ok_loop0]
    have := k s3 s4 s5
    rw [List.flatMap_nil, List.append_nil] at this
    exact this
  | cons xs r ih0 =>
    intro acc s3 s4 s5 hc hl2 k
    have hx := (mem_mins.mp (hc xs List.mem_cons_self)).len
    rw [List.length_cons, Nat.succ_mul] at hl2
    have fl := fits1_len (s := s) (p := p) (t := t) (ns := ns) (xs := xs) (cl := cutsL ns)
    rw [List.flatMap_cons] at k
    have ih := fun s3 s4 s5 => ih0 (acc ++ fits1 s p t ns xs (cutsL ns)) s3 s4 s5 (fun c h => hc c (List.mem_cons_of_mem _ h)) (by rw [List.length_append]; omega) (by intro s3 s4 s5; rw [List.append_assoc]; exact k s3 s4 s5)
    have rc := fun Q => r_cuts (ns := ns) (Q := Q) h0 hl
    have inn := fun P s4 s5 => allIn_loop (s := s) (f := f) (p := p) (t := t) (P := P) (xs := xs) ht hm hx (by omega) (cutsL ns) acc s4 s5 (fun _ h => h) (by omega)
    rw [List.map_cons, ok_loopC]
    unfold cutsV at rc
    simp_arith [↓rc, ↓ok_items]
    refine inn _ _ _ fun s4 s5 => ?_
    simp_arith
    exact ih _ _ _
theorem r_all {f : Int} {ns : List Note} {w : Nat} (ht : inMenu t) (hm : ∀ n ∈ ns, ∀ m, n.2.2 = some m → 0 ≤ m) (h0 : ns ≠ []) (h : ∀ n ∈ ns, SmallN w n) (w1 : 1 ≤ w) (w2 : w ≤ 1000) (h2 : ns.length ≤ 19) (h3 : (w * 2) ^ ns.length ≤ 1000000) :
    Ok den__law_all [.dat (pV s f p t), .dat (notesV ns)] Q ↔ Q (.tmp (.lst ((allL s p t ns).map fitV1))) [.un, .un] := by
  refine ok_det ?_
  have pw : w ^ ns.length * 2 ^ ns.length ≤ 1000000 := by rw [← Nat.mul_pow]; exact h3
  have pos : 1 ≤ 2 ^ ns.length := Nat.one_le_pow _ _ (by omega)
  have ml := minsL_len (w := w) (ns := ns) (f := [[]]) (fun n hn => (h n hn).wd)
  have cl := cutsL_len (ns := ns) (r := ns.length) (i := 0) (f := [[]])
  have rm := fun Q => r_minutes (ns := ns) (w := w) (Q := Q) h0 h w1 w2 (by omega) (Nat.le_trans (Nat.le_mul_of_pos_right _ pos) pw)
  have both : (minsL ns).length * (cutsL ns).length ≤ 1000000 := Nat.le_trans (Nat.mul_le_mul (show (minGo ns [[]]).length ≤ _ by simpa using ml) (show (cutGo ns ns.length 0 [[]]).length ≤ _ by simpa using cl)) pw
  have lp := fun P s3 s4 s5 => allOut_loop (s := s) (f := f) (p := p) (t := t) (P := P) ht hm h0 h2 (minsL ns) [] s3 s4 s5 (fun _ h => h) (by simpa using both)
  have e0 : (([] : List (List Int × List Stay)).map fitV1) = [] := rfl
  rw [e0] at lp
  unfold linesV at rm
  simp_arith [↓den__law_all, ↓b__law_all, ↓ok_items, ↓rm]
  refine lp _ _ _ _ fun s3 s4 s5 => ?_
  simp_arith
  rfl
end
end Pu.Q
set_option Elab.async false
set_option linter.all false
set_option maxRecDepth 100000
set_option maxHeartbeats 8000000
namespace Pu.Q
open PySem PySem.Spec PyProof.Rows L2 Pu
section
variable {s l p : Int} {t : Str}
theorem mkAt_get {ns : List Note} {i : Nat} {n : Note} (h : ns[i]? = some n) : mkAt ns i = n.2.2 := by simp [mkAt, h]
theorem joins_same {ns : List Note} {i : Nat} {ap : List Int} (h : joinsB ns i ap = true) : 0 < i ∧ (mkAt ns i).isSome = true ∧ mkAt ns (i - 1) = mkAt ns i := by
  unfold joinsB at h
  simp only [Bool.and_eq_true, decide_eq_true_eq] at h
  exact ⟨h.1.1.1, h.1.2, h.2.symm⟩
theorem joins_here {ns : List Note} {i : Nat} {ap : List Int} (h : joinsB ns i ap = true) : absB ns i = false := by
  obtain ⟨_, h2, h3⟩ := joins_same h
  unfold absB
  rw [h3]
  cases q : mkAt ns i
  · rw [q] at h2; cases h2
  · simp
theorem absB_next {ns : List Note} {i : Nat} {n : Note} (h : ns[i]? = some n) : absB ns (i + 1) = n.2.2.isNone := by
  unfold absB
  rw [Nat.add_sub_cancel, mkAt_get h]
  simp
def goneX (lo now : Int) (last : Option Int) : Int := mx (mx lo now) (match last with
  | none => 0
  | some x => x + 1)
theorem wStep_none {ns : List Note} {ap : List Int} {i : Nat} {lo hi : Int} {w : WS} : wStep s p t ns ap i (lo, hi, none) w = if hi < goneX lo w.now w.last then none else some ⟨goneX lo w.now w.last, w.last, w.beg⟩ := rfl
def begX (s p : Int) (t : Str) (ns : List Note) (i : Nat) (m : Int) (w : WS) : Int := mx (mx 0 (m - high t s)) (leastArr p w.now w.last (absB ns i))
theorem wStep_new {ns : List Note} {ap : List Int} {i : Nat} {lo hi m : Int} {w : WS} (h : joinsB ns i ap = false) : wStep s p t ns ap i (lo, hi, some m) w = if m - low t s < begX s p t ns i m w then none else if hi < mx (mx lo w.now) (begX s p t ns i m w) then none else some ⟨mx (mx lo w.now) (begX s p t ns i m w), some (mx (mx lo w.now) (begX s p t ns i m w)), some (begX s p t ns i m w)⟩ := by
  unfold wStep begX
  simp only [h]
  rfl
theorem wStep_join {ns : List Note} {ap : List Int} {i : Nat} {lo hi m : Int} {w : WS} (h : joinsB ns i ap = true) : wStep s p t ns ap i (lo, hi, some m) w = if hi < mx lo w.now then none else some ⟨mx lo w.now, some (mx lo w.now), w.beg⟩ := by
  unfold wStep
  simp only [h, if_true]
structure Lo (ns : List Note) (i : Nat) (w : WS) (v : FS) (y : Int) : Prop where
  now : w.now ≤ y
  nil : v.lx = none ↔ w.last = none
  last : ∀ a b, w.last = some a → v.lx = some b → a ≤ b
  away : absB ns i = true → w.now ≤ v.gone
theorem lo_step {ns : List Note} {ap : List Int} {i : Nat} {n : Note} {w : WS} {v v' : FS} {x y c : Int} (hi : ns[i]? = some n) (h0 : 0 ≤ n.1) (R : Lo ns i w v y) (h1 : n.1 ≤ x) (h2 : x ≤ n.2.1) (h3 : y ≤ x)
    (hc : c = 0 → n.2.2 ≠ none → joinsB ns i ap = true) (e : stStep s p t i n x c v = some v') : ∃ w', wStep s p t ns ap i n w = some w' ∧ w'.now ≤ x ∧ Lo ns (i + 1) w' v' x := by
  obtain ⟨R1, R2, R3, R4⟩ := R
  have ab := absB_next hi
  obtain ⟨lo, hi_, m⟩ := n
  simp only at h0 h1 h2 ab
  cases m with
  | none =>
    simp only [stStep] at e
    have ev : v' = { v with gone := x } ∧ ∀ b, v.lx = some b → b < x := by
      cases hl : v.lx with
      | none => rw [hl] at e; simp only at e; exact ⟨(Option.some.inj e).symm, fun b z => by cases z⟩
      | some b =>
        rw [hl] at e; simp only at e
        split at e
        · cases e
        · exact ⟨(Option.some.inj e).symm, fun b' z => by cases z; omega⟩
    obtain ⟨ev, lt⟩ := ev
    subst ev
    have le : goneX lo w.now w.last ≤ x := by
      unfold goneX
      rw [mx_eq, mx_eq]
      cases hl : w.last with
      | none => simp only; omega
      | some a =>
        cases hv : v.lx with
        | none => rw [R2.mp hv] at hl; cases hl
        | some b =>
          have := R3 a b hl hv
          have := lt b hv
          simp only; omega
    exact ⟨⟨goneX lo w.now w.last, w.last, w.beg⟩, by rw [wStep_none, if_neg (by omega)], le, ⟨le, R2, R3, fun _ => le⟩⟩
  | some m =>
    simp only [stStep] at e
    have l1 : mx lo w.now ≤ x := by rw [mx_eq]; omega
    have fin : ∀ (z : Int) (b : Option Int) (g : FS), z ≤ x → g.lx = some x → Lo ns (i + 1) ⟨z, some z, b⟩ g x := fun z b g h hg =>
      ⟨h, ⟨fun q => (by rw [hg] at q; cases q), fun q => (by cases q)⟩, fun a b ha hb => (by rw [hg] at hb; cases ha; cases hb; exact h), fun q => (by rw [ab] at q; cases q)⟩
    have vx : v'.lx = some x := by
      split at e
      · cases e; rfl
      · split at e
        · cases e
        · cases e; rfl
    cases hj : joinsB ns i ap with
    | true =>
      exact ⟨⟨mx lo w.now, some (mx lo w.now), w.beg⟩, by rw [wStep_join hj, if_neg (by omega)], l1, fin _ _ _ l1 vx⟩
    | false =>
      have c0 : ¬ c = 0 := fun z => by rw [hc z (by simp)] at hj; cases hj
      rw [if_neg c0] at e
      have ok : stLeast s p t m v ≤ m - low t s ∧ stLeast s p t m v ≤ x := by
        split at e
        · cases e
        · rename_i q
          have : mn (m - low t s) x ≤ m - low t s ∧ mn (m - low t s) x ≤ x := by unfold mn; split <;> omega
          omega
      have bl : begX s p t ns i m w ≤ stLeast s p t m v := by
        unfold begX stLeast leastArr
        rw [mx_eq, mx_eq, mx_eq, mx_eq]
        cases hl : w.last with
        | none =>
          have hv := R2.mpr hl
          rw [hv]
          cases ha : absB ns i with
          | true =>
            have := R4 ha
            simp only [if_true]
            rw [mx_eq]; omega
          | false => simp; omega
        | some a =>
          cases hv : v.lx with
          | none => rw [R2.mp hv] at hl; cases hl
          | some b =>
            have := R3 a b hl hv
            cases ha : absB ns i with
            | true =>
              have := R4 ha
              simp only [if_true]
              rw [mx_eq]; omega
            | false => simp; omega
      have l2 : mx (mx lo w.now) (begX s p t ns i m w) ≤ x := by
        rw [mx_eq (mx lo w.now)]; omega
      exact ⟨⟨mx (mx lo w.now) (begX s p t ns i m w), some (mx (mx lo w.now) (begX s p t ns i m w)), some (begX s p t ns i m w)⟩, by rw [wStep_new hj, if_neg (by omega), if_neg (by omega)], l2, fin _ _ _ l2 vx⟩
theorem lo_go {ns : List Note} {ap : List Int} (h0 : ∀ n ∈ ns, 0 ≤ n.1) : ∀ (rest : List Note) (i : Nat) (w : WS) (v v' : FS) (y : Int) (xs cs : List Int), ns.drop i = rest → Lo ns i w v y → Mins rest (some y) xs → stGo s p t rest xs cs i v = some v' →
    (∀ (j : Nat), cs[j]? = some 0 → joinsB ns (i + j) ap = true) →
    ∃ out, wGo s p t ns ap rest i w = some out ∧ out.length = rest.length ∧ ∀ (j : Nat) (q : Int × Option Int) (x : Int), out[j]? = some q → xs[j]? = some x → q.1 ≤ x := by
  intro rest
  induction rest with
  | nil => intro i w v v' y xs cs _ _ _ _ _; exact ⟨[], rfl, rfl, fun j q x h => by simp at h⟩
  | cons n r ih =>
    intro i w v v' y xs cs hd R M e hc
    obtain ⟨x, xs', rfl, m1, m2, m3, M'⟩ := M
    have hi : ns[i]? = some n := by
      have : (ns.drop i)[0]? = some n := by rw [hd]; rfl
      simpa using this
    cases cs with
    | nil => simp [stGo] at e
    | cons c cs =>
      simp only [stGo] at e
      cases e1 : stStep s p t i n x c v with
      | none => rw [e1] at e; cases e
      | some v1 =>
        rw [e1] at e
        obtain ⟨w1, a1, a2, a3⟩ := lo_step (ap := ap) hi (h0 n (List.mem_of_getElem? hi)) R m1 m2 (m3 y rfl) (fun z _ => by simpa using hc 0 (by rw [z]; rfl)) e1
        obtain ⟨out, b1, b2, b3⟩ := ih (i + 1) w1 v1 v' x xs' cs (by rw [← List.drop_drop, hd]; rfl) a3 M' e (fun j z => by have := hc (j + 1) (by simpa using z); rwa [show i + 1 + j = i + (j + 1) by omega])
        rw [wGo_some a1, b1]
        refine ⟨_, rfl, by rw [List.length_cons, List.length_cons, b2], fun j q x' hq hx => ?_⟩
        cases j with
        | zero =>
          simp only [List.getElem?_cons_zero] at hq hx
          cases hq; cases hx
          exact a2
        | succ j => exact b3 j q x' (by simpa using hq) (by simpa using hx)
theorem Mins.from0 {xs : List Int} : ∀ {ns : List Note}, (∀ n ∈ ns, 0 ≤ n.1) → Mins ns none xs → Mins ns (some 0) xs
  | [], _, h => h
  | n :: r, h0, ⟨x, xs', e, a, b, _, h⟩ => ⟨x, xs', e, a, b, fun y hy => by cases hy; have := h0 n List.mem_cons_self; omega, h⟩
theorem ways_least {ns : List Note} {ap xs cs : List Int} {f : List Stay} (h0 : ∀ n ∈ ns, 0 ≤ n.1) (M : Mins ns none xs) (e : staysL s p t ns xs cs = some f) (hc : ∀ (j : Nat), cs[j]? = some 0 → joinsB ns j ap = true) :
    ∃ out, ways s p t ns ap = some out ∧ out.length = ns.length ∧ ∀ (j : Nat) (q : Int × Option Int) (x : Int), out[j]? = some q → xs[j]? = some x → q.1 ≤ x := by
  unfold staysL at e
  cases e1 : stGo s p t ns xs cs 0 fs0 with
  | none => rw [e1] at e; cases e
  | some v' => exact lo_go h0 ns 0 w0 fs0 v' 0 xs cs rfl ⟨Int.le_refl _, Iff.rfl.trans (by simp), fun a b z => (by cases z), fun z => by simp [absB] at z⟩ (M.from0 h0) e1 fun j z => by rw [Nat.zero_add]; exact hc j z
structure Eqs (ns : List Note) (p : Int) (i : Nat) (w : WS) (v : FS) : Prop where
  last : v.lx = w.last
  away : absB ns i = true → v.gone = w.now
  mid : absB ns i = false → v.gone + 1 ≤ (match w.last with
    | none => 0
    | some a => a + p)
  there : 0 < i → mkAt ns (i - 1) ≠ none → w.last = some w.now
def cutOf (ns : List Note) (ap : List Int) (i : Nat) : Int := if joinsB ns i ap = true then 0 else 1
theorem eq_step {ns : List Note} {ap : List Int} {i : Nat} {n : Note} {w w' : WS} {v : FS} (hp : 1 ≤ p) (hi : ns[i]? = some n) (R : Eqs ns p i w v) (e : wStep s p t ns ap i n w = some w') :
    ∃ v', stStep s p t i n w'.now (cutOf ns ap i) v = some v' ∧ Eqs ns p (i + 1) w' v' ∧ n.1 ≤ w'.now ∧ w'.now ≤ n.2.1 ∧ w.now ≤ w'.now := by
  obtain ⟨R1, R2, R3, R4⟩ := R
  have ab := absB_next hi
  have mk := mkAt_get hi
  obtain ⟨lo, hi_, m⟩ := n
  simp only at ab mk
  cases m with
  | none =>
    rw [wStep_none] at e
    by_cases q : hi_ < goneX lo w.now w.last
    · rw [if_pos q] at e; cases e
    · rw [if_neg q] at e
      cases e
      have g : ∀ a, w.last = some a → a < goneX lo w.now w.last := fun a ha => by unfold goneX; rw [ha, mx_eq]; simp only; omega
      have g2 : lo ≤ goneX lo w.now w.last ∧ w.now ≤ goneX lo w.now w.last := by unfold goneX; rw [mx_eq, mx_eq]; omega
      refine ⟨{ v with gone := goneX lo w.now w.last }, ?_, ⟨R1, fun _ => rfl, fun z => (by rw [ab] at z; cases z), fun _ z => (by rw [Nat.add_sub_cancel, mk] at z; exact absurd rfl z)⟩, g2.1, (by simp only; omega), g2.2⟩
      simp only [stStep, R1]
      cases hl : w.last with
      | none => rfl
      | some a =>
        have := g a hl
        rw [hl] at this
        simp only
        rw [if_neg (by omega)]
  | some m =>
    unfold cutOf
    cases hj : joinsB ns i ap with
    | true =>
      rw [wStep_join hj] at e
      by_cases q : hi_ < mx lo w.now
      · rw [if_pos q] at e; cases e
      · rw [if_neg q] at e
        cases e
        obtain ⟨j1, j2, j3⟩ := joins_same hj
        have ja := joins_here hj
        have m3 := R3 ja
        have lw : w.last = some w.now := R4 j1 (by rw [j3, mk]; simp)
        rw [lw] at m3
        have : w.now ≤ mx lo w.now ∧ lo ≤ mx lo w.now := by rw [mx_eq]; omega
        refine ⟨_, by simp only [stStep, if_true]; rfl, ⟨rfl, fun z => (by rw [ab] at z; cases z), fun _ => ?_, fun _ _ => rfl⟩, this.2, by simp only; omega, this.1⟩
        simp only at m3 ⊢
        omega
    | false =>
      rw [wStep_new hj] at e
      by_cases q1 : m - low t s < begX s p t ns i m w
      · rw [if_pos q1] at e; cases e
      · rw [if_neg q1] at e
        by_cases q2 : hi_ < mx (mx lo w.now) (begX s p t ns i m w)
        · rw [if_pos q2] at e; cases e
        · rw [if_neg q2] at e
          cases e
          have bl : stLeast s p t m v = begX s p t ns i m w := by
            unfold stLeast begX leastArr
            rw [R1]
            cases ha : absB ns i with
            | true =>
              have r2 := R2 ha
              cases hl : w.last with
              | none =>
                simp only [if_true, mx_eq]
                omega
              | some a =>
                simp only [if_true, mx_eq]
                omega
            | false =>
              have r3 := R3 ha
              cases hl : w.last with
              | none =>
                rw [hl] at r3
                simp only [Bool.false_eq_true, if_false, mx_eq] at r3 ⊢
                omega
              | some a =>
                rw [hl] at r3
                simp only [Bool.false_eq_true, if_false, mx_eq] at r3 ⊢
                omega
          have g1 : begX s p t ns i m w ≤ mx (mx lo w.now) (begX s p t ns i m w) := by rw [mx_eq (mx lo w.now)]; omega
          have g2 : lo ≤ mx (mx lo w.now) (begX s p t ns i m w) ∧ w.now ≤ mx (mx lo w.now) (begX s p t ns i m w) := by rw [mx_eq (mx lo w.now), mx_eq lo]; omega
          have g3 : v.gone + 1 ≤ stLeast s p t m v := by unfold stLeast; rw [mx_eq]; omega
          refine ⟨⟨v.found ++ [((i : Int), (i : Int), begX s p t ns i m w, mn (m - low t s) (mx (mx lo w.now) (begX s p t ns i m w)))], v.gone, some (mx (mx lo w.now) (begX s p t ns i m w))⟩, ?_, ⟨rfl, fun z => (by rw [ab] at z; cases z), fun _ => ?_, fun _ _ => rfl⟩, g2.1, (by simp only; omega), g2.2⟩
          rotate_left
          · simp only
            omega
          · simp only [stStep]
            rw [if_neg (show ¬ (if false = true then (0 : Int) else 1) = 0 by decide), bl, if_neg (by unfold mn; split <;> omega)]
theorem eq_go {ns : List Note} {ap : List Int} (hp : 1 ≤ p) : ∀ (rest : List Note) (i : Nat) (w : WS) (v : FS) (out : List (Int × Option Int)), ns.drop i = rest → Eqs ns p i w v → wGo s p t ns ap rest i w = some out →
    (∃ v', stGo s p t rest (out.map (·.1)) ((List.range' i rest.length).map (cutOf ns ap)) i v = some v') ∧ Mins rest (some w.now) (out.map (·.1)) := by
  intro rest
  induction rest with
  | nil => intro i w v out _ _ e; simp [wGo] at e; subst e; exact ⟨⟨v, rfl⟩, rfl⟩
  | cons n r ih =>
    intro i w v out hd R e
    have hi : ns[i]? = some n := by
      have : (ns.drop i)[0]? = some n := by rw [hd]; rfl
      simpa using this
    cases e1 : wStep s p t ns ap i n w with
    | none => rw [wGo_none e1] at e; cases e
    | some w1 =>
      rw [wGo_some e1] at e
      obtain ⟨v1, a1, a2, a3, a4, a5⟩ := eq_step hp hi R e1
      cases e2 : wGo s p t ns ap r (i + 1) w1 with
      | none => rw [e2] at e; cases e
      | some o2 =>
        rw [e2] at e
        cases e
        obtain ⟨⟨v', b1⟩, b2⟩ := ih (i + 1) w1 v1 o2 (by rw [← List.drop_drop, hd]; rfl) a2 e2
        refine ⟨⟨v', ?_⟩, w1.now, o2.map (·.1), rfl, a3, a4, fun y hy => by cases hy; exact a5, b2⟩
        rw [List.length_cons, List.range'_succ, List.map_cons, List.map_cons]
        simp only [stGo]
        rw [a1]
        exact b1
theorem Mins.weak {xs : List Int} {q : Option Int} : ∀ {ns : List Note}, Mins ns q xs → Mins ns none xs
  | [], h => h
  | n :: r, ⟨x, xs', e, a, b, _, h⟩ => ⟨x, xs', e, a, b, fun y hy => (by cases hy), h⟩
def cutsOf (ns : List Note) (ap : List Int) : List Int := (List.range ns.length).map (cutOf ns ap)
theorem cutsOf_mem {ns : List Note} {ap : List Int} : cutsOf ns ap ∈ cutsL ns := by
  refine mem_cuts.mpr ⟨by simp [cutsOf], fun j v h => ?_⟩
  unfold cutsOf at h
  rw [List.getElem?_map] at h
  by_cases hj : j < ns.length
  · rw [List.getElem?_range hj] at h
    have h : cutOf ns ap j = v := by simpa using h
    unfold cutOf at h
    split at h
    · rename_i q
      right
      refine ⟨h.symm, ?_⟩
      unfold joinsB at q ⊢
      simp only [Bool.and_eq_true, decide_eq_true_eq] at q
      simp only [Bool.and_eq_true, decide_eq_true_eq]
      exact ⟨⟨⟨q.1.1.1, by simp⟩, q.1.2⟩, q.2⟩
    · exact .inl h.symm
  · rw [List.getElem?_eq_none (by simpa using hj)] at h
    cases h
theorem ways_fit {ns : List Note} {ap : List Int} {out : List (Int × Option Int)} (hp : 1 ≤ p) (e : ways s p t ns ap = some out) :
    ∃ f, staysL s p t ns (out.map (·.1)) (cutsOf ns ap) = some f ∧ Mins ns none (out.map (·.1)) := by
  obtain ⟨⟨v', b1⟩, b2⟩ := eq_go (s := s) (t := t) hp ns 0 w0 fs0 out rfl ⟨rfl, fun z => by simp [absB] at z, fun _ => by show (-1 : Int) + 1 ≤ 0; decide, fun z => by omega⟩ e
  refine ⟨v'.found, ?_, b2.weak⟩
  unfold staysL cutsOf
  rw [List.range_eq_range', b1]
  rfl
theorem ways_len {ns : List Note} {ap : List Int} {out : List (Int × Option Int)} (hp : 1 ≤ p) (e : ways s p t ns ap = some out) : out.length = ns.length := by
  obtain ⟨f, _, h⟩ := ways_fit hp e
  simpa using h.len
theorem all_ne {ns : List Note} (hp : 1 ≤ p) (h0 : ∀ n ∈ ns, 0 ≤ n.1) : (ways s p t ns []).isSome = true ↔ allL s p t ns ≠ [] := by
  constructor
  · intro h z
    obtain ⟨out, e⟩ := Option.isSome_iff_exists.mp h
    obtain ⟨f, h1, h2⟩ := ways_fit hp e
    have : (out.map (·.1), f) ∈ allL s p t ns := mem_all.mpr ⟨_, h2, cutsOf_mem, h1⟩
    rw [z] at this
    cases this
  · intro h
    obtain ⟨q, hq⟩ := List.exists_mem_of_ne_nil _ h
    obtain ⟨cs, h1, h2, h3⟩ := mem_all.mp hq
    obtain ⟨out, e, _⟩ := ways_least (ap := []) h0 h1 h3 fun j z => by
      rcases (mem_cuts.mp h2).2 j 0 z with c | c
      · cases c
      · exact c.2
    rw [e]; rfl
end
end Pu.Q
set_option Elab.async false
set_option linter.all false
set_option maxRecDepth 100000
set_option maxHeartbeats 8000000
namespace Pu.Q
open PySem PySem.Spec PyProof.Rows L2 Pu
section
variable {s l p : Int} {t : Str} {Q : RV → Ev → Prop}
structure RowN (g w : Int) (n : Note) : Prop where
  lo : 0 ≤ n.1 ∧ n.1 ≤ 10000
  hi : n.1 ≤ n.2.1 ∧ n.2.1 < n.1 + w
  mar : ∀ m, n.2.2 = some m → 0 ≤ m ∧ m ≤ 20000 ∧ m % g = 0
theorem lmark_rng {g a : Int} (hg : 0 < g) (ha : 0 ≤ a) : 0 ≤ lmark t g a ∧ lmark t g a ≤ a + g := by
  have h1 := Int.emod_nonneg a (show g ≠ 0 by omega)
  have h2 := Int.emod_lt_of_pos a hg
  have h3 : a % g ≤ a := by
    have := Int.mul_ediv_add_emod a g
    have : 0 ≤ g * (a / g) := Int.mul_nonneg (by omega) (Int.ediv_nonneg ha (by omega))
    omega
  unfold lmark
  split
  · omega
  · split <;> omega
theorem ns_last {ns : List Note} : ns = [] ∨ ∃ i n, ns = i ++ [n] := by
  rcases List.eq_nil_or_concat ns with h | ⟨i, n, h⟩
  · exact .inl h
  · exact .inr ⟨i, n, by rw [h, List.concat_eq_append]⟩
theorem r_rows {a b c g f many w : Int} (ht : inMenu t) (g1 : 1 ≤ g) (g2 : g ≤ 100) (f1 : g ≤ f) (f2 : f ≤ 200) (m1 : 1 ≤ many) (m2 : many ≤ 19) (w1 : 1 ≤ w) (w2 : w ≤ 100) :
    Ok den__law_rows [.own (.lst [.int a, .int b, .int c]), .dat (pV g f p t), .dat (.int many), .dat (.int w)] fun r e' => ∃ ns a' b' c', r = .dat (notesV ns) ∧ e' = [.own (.lst [.int a', .int b', .int c']), .un, .un, .un] ∧ ns ≠ [] ∧ (ns.length : Int) ≤ many ∧ ∀ n ∈ ns, RowN g w n := by
  unfold pV
  simp_arith [↓den__law_rows, ↓b__law_rows]
  refine Ok.mono (r_sip (by omega) (by omega)) ?_
  rintro _ _ ⟨d, a1, b1, c1, rfl, rfl, d1, d2⟩
  simp_arith
  refine Ok.mono (r_sip (by omega) (by omega)) ?_
  rintro _ _ ⟨d', a2, b2, c2, rfl, rfl, d3, d4⟩
  simp_arith
  refine ⟨⟨by omega, by omega⟩, ?_⟩
  have rl : (rangeV 0 (1 + d')).length = (1 + d').toNat := by simp [rangeV]
  refine Ok.mono (Ok.loop (fun j e => ∃ a b c ns x s4 s8 s9 s10 s11, e = [.own (.lst [.int a, .int b, .int c]), .dat (.lst [.int g, .str t, .int f, .int p]), .dat (.int many), .dat (.int w), s4, .own (.lst (ns.map nV)), .dat (.int x), .dat (.int g), s8, s9, s10, s11] ∧ ns.length = j ∧ 0 ≤ x ∧ x ≤ 4 + 200 * (j : Int) ∧ ∀ n ∈ ns, RowN g w n) (i := 0) ⟨_, _, _, [], d, _, _, _, _, _, rfl, rfl, d1, by omega, fun n h => by cases h⟩ ?_) ?_
  · rintro j v e hj ⟨a, b, c, ns, x, s4, s8, s9, s10, s11, rfl, len, x0, x1, hn⟩
    have hj2 : j < (1 + d').toNat := by rw [← rl]; exact (List.getElem?_eq_some_iff.mp hj).1
    simp_arith
    refine Ok.mono (r_pick (by simp) (by simp)) ?_
    rintro _ _ ⟨v, a3, b3, c3, hv, rfl, rfl⟩
    have hi : ∃ k : Int, v = .int k ∧ 0 ≤ k ∧ k ≤ 200 := by
      simp only [List.mem_cons, List.not_mem_nil, or_false] at hv
      rcases hv with rfl | rfl | rfl | rfl | rfl | rfl <;> exact ⟨_, rfl, by omega, by omega⟩
    obtain ⟨k, rfl, k1, k2⟩ := hi
    simp_arith
    refine Ok.mono (r_sip (by omega) (by omega)) ?_
    rintro _ _ ⟨d5, a4, b4, c4, rfl, rfl, d6, d7⟩
    simp_arith
    have lo : 0 ≤ (if 0 < x + k - d5 then x + k - d5 else 0) ∧ (if 0 < x + k - d5 then x + k - d5 else 0) ≤ x + k := by split <;> omega
    generalize (if 0 < x + k - d5 then x + k - d5 else 0) = low at lo ⊢
    refine Ok.mono (r_pick (by simp) (by simp)) ?_
    rintro _ _ ⟨v, a5, b5, c5, hv, rfl, rfl⟩
    have hi : ∃ k : Int, v = .int k ∧ 0 ≤ k := by
      simp only [List.mem_cons, List.not_mem_nil, or_false] at hv
      rcases hv with rfl | rfl | rfl | rfl | rfl <;> exact ⟨_, rfl, by omega⟩
    obtain ⟨k', rfl, k3⟩ := hi
    simp_arith
    have ar : 0 ≤ (if 0 < x + k - k' then x + k - k' else 0) ∧ (if 0 < x + k - k' then x + k - k' else 0) ≤ x + k := by split <;> omega
    generalize (if 0 < x + k - k' then x + k - k' else 0) = arr at ar ⊢
    simp_arith [↓r_mark (show 0 < g by omega)]
    have mr := lmark_rng (t := t) (show 0 < g by omega) ar.1
    have mm := lmark_mul (t := t) (a := arr) (show 0 < g by omega)
    generalize lmark t g arr = mk at mr mm ⊢
    -- the rest, whatever list of discs stands in slot 10
    have rest : ∀ (same : List Val) (s4 s11 : Slot), same.length ≤ 1 → (∀ v ∈ same, ∃ m : Int, v = .int m ∧ 0 ≤ m ∧ m ≤ 20000 ∧ m % g = 0) →
        Ok ((mSeq (mSet 9 (mIfE (mTru (mBin oGt (mCall [true, false] den__law_sip (mCons (mVar 0) (mCons (mV (.int 5)) mNil)) []) (mV (.int 0)))) (mCall [true, false] den__law_pick (mCons (mVar 0) (mCons (mBin oAdd (mVar 10) (mLst (mCons (mVar 9) mNil))) mNil)) []) (mV .non))) (mEx (mApp (mVar 5) (mTup (mCons (mVar 8) (mCons (mBin oAdd (mVar 8) (mCall [true, false] den__law_sip (mCons (mVar 0) (mCons (mVar 3) mNil)) [])) (mCons (mVar 9) mNil)))))))) [.own (.lst [.int a5, .int b5, .int c5]), .dat (.lst [.int g, .str t, .int f, .int p]), .dat (.int many), .dat (.int w), s4, .own (.lst (ns.map nV)), .dat (.int (x + k)), .dat (.int g), .dat (.int low), .dat (.int mk), .own (.lst same), s11] fun o e2 => (o = .nx ∨ o = .ct) ∧ ∃ a b c, ∃ ns : List Note, ∃ x s4 s8 s9 s10 s11, e2 = [.own (.lst [.int a, .int b, .int c]), .dat (.lst [.int g, .str t, .int f, .int p]), .dat (.int many), .dat (.int w), s4, .own (.lst (ns.map nV)), .dat (.int x), .dat (.int g), s8, s9, s10, s11] ∧ List.length (α := Note) ns = 0 + j + 1 ∧ 0 ≤ x ∧ x ≤ 4 + 200 * ((0 + j + 1 : Nat) : Int) ∧ ∀ n ∈ (ns : List Note), RowN g w n := by
      intro same s4' s11' l1 hs
      have fin : ∀ (a b c : Int) (m : Option Int), (∀ q, m = some q → 0 ≤ q ∧ q ≤ 20000 ∧ q % g = 0) → ∀ (s10 s11 : Slot), Ok ((mEx (mApp (mVar 5) (mTup (mCons (mVar 8) (mCons (mBin oAdd (mVar 8) (mCall [true, false] den__law_sip (mCons (mVar 0) (mCons (mVar 3) mNil)) [])) (mCons (mVar 9) mNil))))))) [.own (.lst [.int a, .int b, .int c]), .dat (.lst [.int g, .str t, .int f, .int p]), .dat (.int many), .dat (.int w), s4', .own (.lst (ns.map nV)), .dat (.int (x + k)), .dat (.int g), .dat (.int low), .dat (optV m), s10, s11] fun o e2 => (o = .nx ∨ o = .ct) ∧ ∃ a b c, ∃ ns : List Note, ∃ x s4 s8 s9 s10 s11, e2 = [.own (.lst [.int a, .int b, .int c]), .dat (.lst [.int g, .str t, .int f, .int p]), .dat (.int many), .dat (.int w), s4, .own (.lst (ns.map nV)), .dat (.int x), .dat (.int g), s8, s9, s10, s11] ∧ List.length (α := Note) ns = 0 + j + 1 ∧ 0 ≤ x ∧ x ≤ 4 + 200 * ((0 + j + 1 : Nat) : Int) ∧ ∀ n ∈ (ns : List Note), RowN g w n := by
        intro a b c m hm s10 s11
        simp_arith [↓ok_app]
        refine Ok.mono (r_sip (by omega) (by omega)) ?_
        rintro _ _ ⟨d8, a7, b7, c7, rfl, rfl, d9, d10⟩
        simp_arith
        refine ⟨?_, a7, b7, c7, ns ++ [(low, low + d8, m)], x + k, s4', .dat (.int low), .dat (optV m), s10, s11, ?_, by rw [List.length_append, len]; simp, by omega, by omega, fun n hn' => ?_⟩
        · rw [List.length_map, sizeLine_eq]; omega
        · rw [List.map_append]; rfl
        · rcases List.mem_append.mp hn' with h | h
          · exact hn n h
          · rw [List.mem_singleton] at h
            subst h
            exact ⟨⟨by omega, by omega⟩, ⟨by simp only; omega, by simp only; omega⟩, hm⟩
      generalize ((mEx (mApp (mVar 5) (mTup (mCons (mVar 8) (mCons (mBin oAdd (mVar 8) (mCall [true, false] den__law_sip (mCons (mVar 0) (mCons (mVar 3) mNil)) [])) (mCons (mVar 9) mNil))))))) = T at fin ⊢
      simp_arith
      refine Ok.mono (r_sip (by omega) (by omega)) ?_
      rintro _ _ ⟨d8, a7, b7, c7, rfl, rfl, d9, d10⟩
      simp_arith
      refine ⟨fun _ => ?_, fun _ => fin _ _ _ none (fun q z => by cases z) _ _⟩
      refine Ok.mono (r_pick (by simp) (by simp; omega)) ?_
      rintro _ _ ⟨v, a9, b9, c9, hv, rfl, rfl⟩
      have hi : ∃ m : Int, v = .int m ∧ 0 ≤ m ∧ m ≤ 20000 ∧ m % g = 0 := by
        rcases List.mem_append.mp hv with h | h
        · exact hs v h
        · rw [List.mem_singleton] at h
          exact ⟨mk, h, by omega, by omega, mm⟩
      obtain ⟨m, rfl, m3⟩ := hi
      simp_arith
      exact fin _ _ _ (some m) (fun q z => by cases z; exact m3) _ _
    generalize ((mSeq (mSet 9 (mIfE (mTru (mBin oGt (mCall [true, false] den__law_sip (mCons (mVar 0) (mCons (mV (.int 5)) mNil)) []) (mV (.int 0)))) (mCall [true, false] den__law_pick (mCons (mVar 0) (mCons (mBin oAdd (mVar 10) (mLst (mCons (mVar 9) mNil))) mNil)) []) (mV .non))) (mEx (mApp (mVar 5) (mTup (mCons (mVar 8) (mCons (mBin oAdd (mVar 8) (mCall [true, false] den__law_sip (mCons (mVar 0) (mCons (mVar 3) mNil)) [])) (mCons (mVar 9) mNil)))))))) = T at rest ⊢
    have c0 : cutA ([] : List Val) (some (-1)) none = [] := rfl
    rcases ns_last (ns := ns) with rfl | ⟨i, n, rfl⟩
    · simp_arith [↓List.map_nil, ↓c0]
      exact rest [] _ _ (by simp) (fun v h => by cases h)
    · rw [List.map_append] at rest ⊢
      have e1 : List.map nV [n] = [nV n] := rfl
      rw [e1] at rest ⊢
      have e2 : nV n = .tup [.int n.1, .int n.2.1, optV n.2.2] := rfl
      rw [e2] at rest ⊢
      simp_arith [↓cut_last]
      cases hm : n.2.2 with
      | none =>
        rw [hm, optV_none] at rest
        simp_arith [↓optV_none]
        exact rest [] _ _ (by simp) (fun v h => by cases h)
      | some m =>
        rw [hm, optV_some] at rest
        simp_arith [↓optV_some]
        exact rest [.int m] _ _ (by simp) (fun v h => by
          rw [List.mem_singleton] at h
          exact ⟨m, h, (hn n (List.mem_append_right _ (List.mem_singleton.mpr rfl))).mar m hm⟩)
  · rintro o e ⟨rfl, a, b, c, ns, x, s4, s8, s9, s10, s11, rfl, len, x0, x1, hn⟩
    simp_arith [↓ok_tupL]
    rw [rl] at len
    exact ⟨ns, _, _, _, rfl, rfl, fun z => by rw [z] at len; simp at len; omega, by omega, hn⟩
end
end Pu.Q
set_option Elab.async false
set_option linter.all false
set_option maxRecDepth 100000
set_option maxHeartbeats 8000000
namespace Pu.Q
open PySem PySem.Spec PyProof.Rows L2 Pu
section
variable {s l p : Int} {t : Str} {Q : RV → Ev → Prop}
abbrev Fine := Int × Int
def Asc : Int → Int → List Fine → Prop
  | _, _, [] => True
  | lo, low, q :: r => lo ≤ q.1 ∧ low ≤ q.2 ∧ Asc (q.1 + 1) q.2 r
theorem Asc.weak : ∀ {fs : List Fine} {lo lo' low low' : Int}, Asc lo low fs → lo' ≤ lo → low' ≤ low → Asc lo' low' fs
  | [], _, _, _, _, _, _, _ => trivial
  | q :: r, _, _, _, _, ⟨a, b, c⟩, h1, h2 => ⟨by omega, by omega, c⟩
def blV (b : Int × Int) : Val := .tup [.int b.1, .int b.2]
def setB (acc : List (Int × Int)) (k : Int) : List (Int × Int) := match acc.getLast? with
  | none => acc
  | some a => acc.dropLast ++ [(a.1, k)]
def blGo (ns : List Note) (ap : List Int) : List Note → Nat → List (Int × Int) → List (Int × Int)
  | [], _, acc => acc
  | n :: r, i, acc => blGo ns ap r (i + 1) (match n.2.2 with
    | none => acc
    | some _ => if joinsB ns i ap then setB acc i else acc ++ [((i : Int), (i : Int))])
def blocks (ns : List Note) (ap : List Int) : List (Int × Int) := blGo ns ap ns 0 []
theorem setB_some {acc : List (Int × Int)} {a : Int × Int} {k : Int} : setB (acc ++ [a]) k = acc ++ [(a.1, k)] := by
  unfold setB
  simp
theorem blk_loop {ns : List Note} {ap : List Int} {P : Out → Ev → Prop} : ∀ (rest : List Note) (i : Nat) (acc : List (Int × Int)) (s3 s4 s5 s6 : Slot), ns.drop i = rest → acc.length + rest.length ≤ 1000 → (0 < i → mkAt ns (i - 1) ≠ none → acc ≠ []) →
    (∀ s3 s4 s5 s6, P .nx [.dat (notesV ns), .dat (.tup (ap.map .int)), .own (.lst ((blGo ns ap rest i acc).map blV)), s3, s4, s5, s6]) →
    Ok ((loopS (gT 2 (gsC (gN 3) (gsC (gT 3 (gsC (gN 4) (gsC (gN 5) (gsC (gN 6) gsN)))) gsN))) (mIf (mTru (mBin oIsN (mVar 6) (mV .non))) (mIf (mTru (mCall [false, false, false] den_joins (mCons (mVar 0) (mCons (mVar 3) (mCons (mVar 1) mNil))) [])) (mAsg (gSb (mVar 2) (mNeg (mV (.int 1)))) (mTup (mCons (mBin oIx (mBin oIx (mVar 2) (mNeg (mV (.int 1)))) (mV (.int 0))) (mCons (mVar 3) mNil)))) (mEx (mApp (mVar 2) (mTup (mCons (mVar 3) (mCons (mVar 3) mNil)))))) mSkip)) (enumV (i : Int) (rest.map nV))) [.dat (notesV ns), .dat (.tup (ap.map .int)), .own (.lst (acc.map blV)), s3, s4, s5, s6] P
  | [], i, acc, s3, s4, s5, s6, _, _, _, h => h _ _ _ _
  | n :: r, i, acc, s3, s4, s5, s6, hd, hl, hp, h => by
    have hi : i < ns.length := by
      have := congrArg List.length hd
      rw [List.length_drop, List.length_cons] at this
      omega
    have hn : ns[i]? = some n := by
      have : (ns.drop i)[0]? = some n := by rw [hd]; rfl
      simpa using this
    have hr : ns.drop (i + 1) = r := by
      have := congrArg List.tail hd
      simpa using this
    have mk := mkAt_get hn
    rw [List.length_cons] at hl
    have ih := fun acc s3 s4 s5 s6 h1 h2 => blk_loop (P := P) (ap := ap) r (i + 1) acc s3 s4 s5 s6 hr h1 h2
    have e1 : ((i : Int) + 1) = ((i + 1 : Nat) : Int) := by omega
    obtain ⟨lo, hi', m⟩ := n
    have e2 : nV (lo, hi', m) = .tup [.int lo, .int hi', optV m] := rfl
    simp only at mk
    rw [List.map_cons, show enumV (i : Int) (nV (lo, hi', m) :: r.map nV) = .tup [.int i, nV (lo, hi', m)] :: enumV ((i : Int) + 1) (r.map nV) from rfl, ok_loopC, e2, e1]
    generalize hR : (loopS (gT 2 (gsC (gN 3) (gsC (gT 3 (gsC (gN 4) (gsC (gN 5) (gsC (gN 6) gsN)))) gsN))) (mIf (mTru (mBin oIsN (mVar 6) (mV .non))) (mIf (mTru (mCall [false, false, false] den_joins (mCons (mVar 0) (mCons (mVar 3) (mCons (mVar 1) mNil))) [])) (mAsg (gSb (mVar 2) (mNeg (mV (.int 1)))) (mTup (mCons (mBin oIx (mBin oIx (mVar 2) (mNeg (mV (.int 1)))) (mV (.int 0))) (mCons (mVar 3) mNil)))) (mEx (mApp (mVar 2) (mTup (mCons (mVar 3) (mCons (mVar 3) mNil)))))) mSkip)) = R at ih ⊢
    cases m with
    | none =>
      simp_arith [↓optV_none]
      refine ih acc _ _ _ _ (by omega) (fun _ z => absurd (by rw [Nat.add_sub_cancel]; exact mk) z) ?_
      simpa only [blGo] using h
    | some m =>
      cases hj : joinsB ns i ap with
      | true =>
        obtain ⟨j1, j2, j3⟩ := joins_same hj
        have ne := hp j1 (by rw [j3, mk]; simp)
        obtain ⟨g, b, hb⟩ : ∃ g b, acc = g ++ [b] := by
          rcases List.eq_nil_or_concat acc with z | ⟨g, b, z⟩
          · exact absurd z ne
          · exact ⟨g, b, by rw [z, List.concat_eq_append]⟩
        subst hb
        have x1 : atI (List.map blV (g ++ [b])) (-1) = some (blV b) := last_at (by simp)
        have x2 : ixN (List.map blV (g ++ [b])).length (-1) = some g.length := by
          rw [List.length_map, List.length_append, List.length_singleton]
          unfold ixN
          rw [if_neg (by omega), if_pos (by omega)]
          congr 1
          omega
        have x3 : (List.map blV (g ++ [b])).set g.length (blV (b.1, (i : Int))) = (g ++ [(b.1, (i : Int))]).map blV := by
          rw [List.map_append, List.map_append, List.set_append_right _ _ (by simp)]
          simp
        have x4 : blV b = .tup [.int b.1, .int b.2] := rfl
        have x5 : Val.tup [.int b.1, .int (i : Int)] = blV (b.1, (i : Int)) := rfl
        simp_arith [↓optV_some, ↓r_joins hi, ↓hj, ↓ixL_of x1, ↓x4, ↓x2]
        rw [x5, x3]
        refine ih _ _ _ _ _ (by rw [List.length_append] at hl ⊢; simpa using (by simp at hl; omega)) (fun _ _ => by simp) ?_
        simp only [blGo, hj, if_true, setB_some] at h
        exact h
      | false =>
        simp_arith [↓optV_some, ↓r_joins hi, ↓hj, ↓ok_app]
        refine ⟨by rw [List.length_map, sizeLine_eq]; omega, ?_⟩
        have x5 : List.map blV acc ++ [Val.tup [.int (i : Int), .int (i : Int)]] = (acc ++ [((i : Int), (i : Int))]).map blV := by rw [List.map_append]; rfl
        rw [x5]
        refine ih _ _ _ _ _ (by rw [List.length_append]; simp; omega) (fun _ _ => by simp) ?_
        simp only [blGo, hj] at h
        exact h
theorem r_blocks_of {ns : List Note} {ap : List Int} (hl : ns.length ≤ 1000) : Ok den_blocks_of [.dat (notesV ns), .dat (.tup (ap.map .int))] Q ↔ Q (.tmp (.lst ((blocks ns ap).map blV))) [.un, .un] := by
  refine ok_det ?_
  have lp := fun (P : Out → Ev → Prop) => blk_loop (ns := ns) (ap := ap) (P := P) ns 0 []
  have e0 : ([] : List (Int × Int)).map blV = [] := rfl
  rw [e0] at lp
  have e1 : ((0 : Nat) : Int) = 0 := rfl
  rw [e1] at lp
  simp_arith [↓den_blocks_of, ↓b_blocks_of, ↓ok_enum, ↓seqV_N]
  refine lp _ _ _ _ _ rfl (by simpa using hl) (fun z => by omega) fun s3 s4 s5 s6 => ?_
  simp_arith
  rfl
end
end Pu.Q
set_option Elab.async false
set_option linter.all false
set_option maxRecDepth 100000
set_option maxHeartbeats 8000000
namespace Pu.Q
open PySem PySem.Spec PyProof.Rows L2 Pu
section
variable {s l p : Int} {t : Str} {Q : RV → Ev → Prop}
def lastGo : List Note → List Int → Nat → List Int → List Int
  | [], _, _, acc => acc
  | n :: r, c :: cs, k, acc => lastGo r cs (k + 1) (match n.2.2 with
    | none => acc
    | some _ => if c = 0 then acc.dropLast ++ [(k : Int)] else acc ++ [(k : Int)])
  | _ :: _, [], _, acc => acc
theorem last_none {n : Note} {r : List Note} {c : Int} {cs : List Int} {k : Nat} {acc : List Int} (h : n.2.2 = none) : lastGo (n :: r) (c :: cs) k acc = lastGo r cs (k + 1) acc := by simp only [lastGo, h]
theorem last_zero {n : Note} {r : List Note} {cs : List Int} {k : Nat} {acc : List Int} {m : Int} (h : n.2.2 = some m) : lastGo (n :: r) (0 :: cs) k acc = lastGo r cs (k + 1) (acc.dropLast ++ [(k : Int)]) := by simp only [lastGo, h, if_true]
theorem last_one {n : Note} {r : List Note} {c : Int} {cs : List Int} {k : Nat} {acc : List Int} {m : Int} (h : n.2.2 = some m) (hc : c ≠ 0) : lastGo (n :: r) (c :: cs) k acc = lastGo r cs (k + 1) (acc ++ [(k : Int)]) := by simp only [lastGo, h, if_neg hc]
theorem setLast_map {f : List Stay} {k : Int} (h : f ≠ []) : (setLast f k).map (·.2.1) = (f.map (·.2.1)).dropLast ++ [k] := by
  obtain ⟨a, ha⟩ : ∃ a, f.getLast? = some a := ⟨f.getLast h, List.getLast?_eq_some_getLast h⟩
  rw [setLast_some ha, List.map_append, List.map_dropLast]
  rfl
theorem drop_head {ns r : List Note} {n : Note} {i : Nat} (hd : ns.drop i = n :: r) : ns[i]? = some n ∧ ns.drop (i + 1) = r := by
  constructor
  · have : (ns.drop i)[0]? = some n := by rw [hd]; rfl
    simpa using this
  · rw [← List.drop_drop, hd]; rfl
theorem st_lasts {ns : List Note} : ∀ (rest : List Note) (i : Nat) (xs cs : List Int) (w w' : FS), ns.drop i = rest → (0 < i → mkAt ns (i - 1) ≠ none → w.found ≠ []) → (∀ j, cs[j]? = some 0 → joinsB ns (i + j) [] = true) →
    stGo s p t rest xs cs i w = some w' → w'.found.map (·.2.1) = lastGo rest cs i (w.found.map (·.2.1))
  | [], i, xs, cs, w, w', _, _, _, e => by simp only [stGo] at e; cases e; rfl
  | n :: r, i, [], cs, w, w', _, _, _, e => by simp [stGo] at e
  | n :: r, i, x :: xs, [], w, w', _, _, _, e => by simp [stGo] at e
  | n :: r, i, x :: xs, c :: cs, w, w', hd, hp, hz, e => by
    obtain ⟨hi, hr⟩ := drop_head hd
    have mk := mkAt_get hi
    simp only [stGo] at e
    cases e1 : stStep s p t i n x c w with
    | none => rw [e1] at e; cases e
    | some w1 =>
      rw [e1] at e
      have ih := st_lasts r (i + 1) xs cs w1 w' hr
      have hz' : ∀ j, cs[j]? = some 0 → joinsB ns (i + 1 + j) [] = true := fun j z => by have := hz (j + 1) (by simpa using z); rwa [show i + 1 + j = i + (j + 1) by omega]
      obtain ⟨lo, hi_, m⟩ := n
      cases m with
      | none =>
        rw [last_none rfl]
        have ef : w1.found = w.found := by
          simp only [stStep] at e1
          split at e1
          · cases e1; rfl
          · split at e1
            · cases e1
            · cases e1; rfl
        rw [← ef]
        exact ih (fun _ z => absurd (by rw [Nat.add_sub_cancel]; exact mk) z) hz' e
      | some m =>
        simp only [stStep] at e1
        by_cases c0 : c = 0
        · rw [if_pos c0] at e1
          cases e1
          subst c0
          obtain ⟨j1, j2, j3⟩ := joins_same (hz 0 rfl)
          have ne := hp j1 (by rw [show i + 0 = i from rfl] at j3; rw [j3, mk]; simp)
          rw [last_zero rfl, ← setLast_map ne]
          refine ih (fun _ _ z => ?_) hz' e
          have := congrArg (List.map (·.2.1)) z
          simp only at this
          rw [setLast_map ne] at this
          simp at this
        · rw [if_neg c0] at e1
          split at e1
          · cases e1
          · cases e1
            rw [last_one rfl c0]
            have := ih (fun _ _ z => by simp at z) hz' e
            rw [this, List.map_append]
            rfl
theorem last_ok {ns : List Note} : ∀ (rest : List Note) (i : Nat) (cs L : List Int), ns.drop i = rest → (∀ a ∈ L, 0 ≤ a ∧ ∃ m, mkAt ns a.toNat = some m) → ∀ a ∈ lastGo rest cs i L, 0 ≤ a ∧ ∃ m, mkAt ns a.toNat = some m
  | [], i, cs, L, _, h => by simpa only [lastGo] using h
  | n :: r, i, [], L, _, h => by simpa only [lastGo] using h
  | n :: r, i, c :: cs, L, hd, h => by
    obtain ⟨hi, hr⟩ := drop_head hd
    have mk := mkAt_get hi
    have ih := fun L => last_ok r (i + 1) cs L hr
    cases hm : n.2.2 with
    | none => rw [last_none hm]; exact ih L h
    | some m =>
      have hk : 0 ≤ (i : Int) ∧ ∃ m, mkAt ns (i : Int).toNat = some m := ⟨by omega, m, by rw [Int.toNat_natCast, mk, hm]⟩
      by_cases c0 : c = 0
      · rw [c0, last_zero hm]
        refine ih _ fun a ha => ?_
        rcases List.mem_append.mp ha with q | q
        · exact h a ((List.dropLast_sublist L).subset q)
        · rw [List.mem_singleton.mp q]; exact hk
      · rw [last_one hm c0]
        refine ih _ fun a ha => ?_
        rcases List.mem_append.mp ha with q | q
        · exact h a q
        · rw [List.mem_singleton.mp q]; exact hk
theorem fit_lasts {ns : List Note} {xs cs : List Int} {f : List Stay} (hc : cs ∈ cutsL ns) (e : staysL s p t ns xs cs = some f) : f.map (·.2.1) = lastGo ns cs 0 [] := by
  unfold staysL at e
  cases e1 : stGo s p t ns xs cs 0 fs0 with
  | none => rw [e1] at e; cases e
  | some w' =>
    rw [e1] at e
    cases e
    exact st_lasts ns 0 xs cs fs0 w' rfl (fun z => by omega) (fun j z => by
      rcases (mem_cuts.mp hc).2 j 0 z with q | q
      · cases q
      · simpa using q.2) e1
end
end Pu.Q
set_option Elab.async false
set_option linter.all false
set_option maxRecDepth 100000
set_option maxHeartbeats 8000000
namespace Pu.Q
open PySem PySem.Spec PyProof.Rows L2 Pu
section
variable {s l p : Int} {t : Str} {Q : RV → Ev → Prop}
theorem noteB_of' {n : Note} (h1 : 0 ≤ n.1) (h2 : n.1 ≤ n.2.1) (h3 : n.2.1 ≤ Mx) (hm : ∀ m, n.2.2 = some m → (0 ≤ m ∧ m ≤ Mx) ∧ m % s = 0) : noteB s n = true := by
  unfold noteB
  obtain ⟨lo, hi, m⟩ := n
  simp only at h1 h2 h3 hm ⊢
  have e1 : decide (0 ≤ lo ∧ lo ≤ Mx) = true := decide_eq_true ⟨h1, Int.le_trans h2 h3⟩
  have e2 : decide (0 ≤ hi ∧ hi ≤ Mx) = true := decide_eq_true ⟨Int.le_trans h1 h2, h3⟩
  rw [e1, e2, decide_eq_true h2]
  cases m with
  | none => rfl
  | some m =>
    have := hm m rfl
    simp only [markB, Bool.true_and]
    simp [this.1.1, this.1.2, this.2]
theorem RowN.small {g : Int} {n : Note} (h : RowN g 3 n) : SmallN 3 n := by
  have h1 := h.lo
  have h2 := h.hi
  exact ⟨⟨by omega, by omega⟩, ⟨by omega, by omega⟩, by show n.2.1 + 1 - n.1 ≤ 3; omega⟩
theorem RowN.noteB {g : Int} {n : Note} {w : Int} (h : RowN g w n) (hg : 0 < g) (hw : w ≤ 1000) : noteB g n = true := by
  have h1 := h.lo
  have h2 := h.hi
  refine noteB_of' (by omega) (by omega) ?_ fun m hm => ?_
  · have : n.2.1 ≤ 20000 := by omega
    exact Int.le_trans this (by decide)
  · have := h.mar m hm
    exact ⟨⟨by omega, Int.le_trans this.2.1 (by decide)⟩, this.2.2⟩
end
end Pu.Q
set_option Elab.async false
set_option linter.all false
set_option maxRecDepth 100000
set_option maxHeartbeats 8000000
namespace Pu.Q
open PySem PySem.Spec PyProof.Rows L2 Pu
section
variable {Q : RV → Ev → Prop}
theorem all_right2 {ws : List Nat} {n : Int} {mt : Val → M Unit} {me : M RV} {e : Ev} (h1 : 0 ≤ n) (h2 : n ≤ 100)
    (st : ∀ i : Int, 0 ≤ i → i < n → Ok (mt (.int i)) e fun _ e1 => Ok me e1 fun x e3 => Ok (M.dt x) e3 fun w e4 => w = .bl true ∧ wipeE e4 ws = e) :
    Ok (compS ws mt mYes me (rangeV 0 n) []) e fun r e1 => e1 = e ∧ ∀ x ∈ r, x = Val.bl true := by
  refine Ok.mono (Ok.compS (fun e' => e' = e) (fun _ w => w = .bl true) rfl ?_ ?_) ?_
  · have : (rangeV 0 n).length = n.toNat := by simp [rangeV]
    rw [this, sizeLine_eq, List.length_nil]
    omega
  · rintro v e' hv rfl
    obtain ⟨i, hi, rfl⟩ := List.mem_map.mp hv
    have := List.mem_range.mp hi
    exact st _ (by omega) (by omega)
  · rintro r e' ⟨rfl, rs, hrs, hl, hp⟩
    rw [List.nil_append] at hrs
    subst hrs
    refine ⟨rfl, fun x hr => ?_⟩
    obtain ⟨j, hj, e1⟩ := List.mem_iff_getElem.mp hr
    have h1 : r[j]? = some x := by rw [List.getElem?_eq_getElem hj, e1]
    exact hp j _ _ (List.getElem?_eq_getElem (by omega)) h1
theorem gen_ok {d : M RV} {e : Ev} (h : Ok d e fun r _ => r = .dat (.bl true)) : ∃ e', d e = .ok (.dat (.bl true)) e' := by
  obtain ⟨r, e', h, h2⟩ := ok_ex.mp h
  exact ⟨e', by rw [h, h2]⟩
end
end Pu.Q
set_option Elab.async false
set_option linter.all false
set_option maxRecDepth 100000
set_option maxHeartbeats 8000000
namespace Pu.Q
open PySem PySem.Spec PyProof.Rows L2 Pu
def Rs {α : Type} (m : M α) (e : Ev) (P : Val → Ev → Prop) : Prop := match m e with
  | .rs x e' => P x e'
  | _ => False
section
variable {α β : Type} {m : M α} {e : Ev} {P : Val → Ev → Prop} {a b : S}
theorem rs_ex_iff : Rs m e P ↔ ∃ x e', m e = .rs x e' ∧ P x e' := by
  unfold Rs
  cases h : m e with
  | rs x e' => exact ⟨fun z => ⟨x, e', rfl, z⟩, fun ⟨b, f, z, y⟩ => by cases z; exact y⟩
  | _ => exact ⟨fun z => z.elim, fun ⟨b, f, z, y⟩ => nomatch z⟩
theorem Rs.mono {P' : Val → Ev → Prop} (h : Rs m e P) (k : ∀ x e', P x e' → P' x e') : Rs m e P' := by
  obtain ⟨x, e', h1, h2⟩ := rs_ex_iff.mp h
  exact rs_ex_iff.mpr ⟨x, e', h1, k _ _ h2⟩
end
end Pu.Q
set_option Elab.async false
set_option linter.all false
set_option maxRecDepth 100000
set_option maxHeartbeats 8000000
set_option Elab.async false
set_option linter.all false
set_option maxRecDepth 100000
set_option maxHeartbeats 8000000
set_option Elab.async false
set_option linter.all false
set_option maxRecDepth 100000
set_option maxHeartbeats 8000000
namespace Pu.Q
open PySem PySem.Spec PyProof.Rows L2 Pu
section
variable {s l p : Int} {t : Str} {Q : RV → Ev → Prop}
theorem isDs_of : ∀ {vs : List Val}, (∀ v ∈ vs, isD v = true) → isDs vs = true
  | [], _ => rfl
  | v :: vs, h => by rw [isDs, h v List.mem_cons_self, isDs_of fun u hu => h u (List.mem_cons_of_mem _ hu)]; rfl
theorem deps_of {k : Nat} : ∀ {vs : List Val}, (∀ v ∈ vs, dep v ≤ k) → deps vs ≤ k
  | [], _ => Nat.zero_le _
  | v :: vs, h => by
    rw [deps]
    have h1 := h v List.mem_cons_self
    have h2 := deps_of fun u hu => h u (List.mem_cons_of_mem _ hu)
    omega
theorem nbs_of : ∀ {vs : List Val}, (∀ v ∈ vs, nb v = true) → nbs vs = true
  | [], _ => rfl
  | v :: vs, h => by rw [nbs, h v List.mem_cons_self, nbs_of fun u hu => h u (List.mem_cons_of_mem _ hu)]; rfl
structure Pl (k : Nat) (v : Val) : Prop where
  d : isD v = true
  h : dep v ≤ k
  b : nb v = true
theorem Pl.int {i : Int} : Pl 0 (.int i) := ⟨rfl, Nat.le_refl _, rfl⟩
theorem Pl.lst {k : Nat} {vs : List Val} (h : ∀ v ∈ vs, Pl k v) : Pl (k + 1) (.lst vs) := by
  have := deps_of fun v hv => (h v hv).h
  exact ⟨by rw [isD]; exact isDs_of fun v hv => (h v hv).d, by rw [dep]; omega, by rw [nb]; exact nbs_of fun v hv => (h v hv).b⟩
theorem Pl.tup {k : Nat} {vs : List Val} (h : ∀ v ∈ vs, Pl k v) : Pl (k + 1) (.tup vs) := by
  have := deps_of fun v hv => (h v hv).h
  exact ⟨by rw [isD]; exact isDs_of fun v hv => (h v hv).d, by rw [dep]; omega, by rw [nb]; exact nbs_of fun v hv => (h v hv).b⟩
theorem Pl.up {j k : Nat} {v : Val} (h : Pl j v) (e : j ≤ k) : Pl k v := ⟨h.d, Nat.le_trans h.h e, h.b⟩
theorem Pl.ints {xs : List Int} : ∀ v ∈ xs.map Val.int, Pl 0 v := fun v hv => by
  obtain ⟨i, _, rfl⟩ := List.mem_map.mp hv
  exact .int
theorem pl_sV {a : Stay} : Pl 1 (sV a) := Pl.lst fun v hv => by
  simp only [List.mem_cons, List.not_mem_nil, or_false] at hv
  rcases hv with rfl | rfl | rfl | rfl <;> exact .int
theorem pl_fit {q : List Int × List Stay} : Pl 3 (fitV1 q) := Pl.tup fun v hv => by
  simp only [List.mem_cons, List.not_mem_nil, or_false] at hv
  rcases hv with rfl | rfl
  · exact (Pl.tup Pl.ints).up (by decide)
  · exact Pl.lst fun v hv => by
      obtain ⟨a, _, rfl⟩ := List.mem_map.mp hv
      exact pl_sV
theorem pl_dOk {k : Nat} {v : Val} (h : Pl k v) (hk : k ≤ 50) : dOk v = true := by
  have := h.h
  simp [dOk, h.d]
  omega
theorem r_fitsF {ns : List Note} (hs : 0 < s) (h0 : ns ≠ []) (hl : ns.length ≤ 40) (h : ∀ n ∈ ns, noteB s n = true) : Ok den_fits [.dat (rV s l p t), .dat (notesV ns), .dat (.bl false)] Q ↔ Q (.dat (.bl (ways s p t ns []).isSome)) [.un, .un, .un] := by
  refine ok_det ?_
  have rc := fun Q => r_check_notes (s := s) (l := l) (p := p) (t := t) (Q := Q) hs h0 hl h
  simp_arith [↓den_fits, ↓b_fits, ↓rc, ↓i_bl]
  refine Ok.mono (r_ways_of (l := l) (ap := []) (by omega)) ?_
  intro r e' hh
  obtain ⟨h1, h2⟩ := hh
  subst h2
  cases hw : ways s p t ns [] with
  | none => rw [hw] at h1; subst h1; simp_arith; rfl
  | some out => rw [hw] at h1; subst h1; simp_arith; rfl
theorem r_farW {a b c m : Int} (h1 : 1 ≤ m) (h2 : m ≤ 12) : Ok den__law_far [.own (.lst [.int a, .int b, .int c]), .dat (.int m)] fun r e' => ∃ d a' b' c', r = .dat (.int d) ∧ e' = [.own (.lst [.int a', .int b', .int c']), .un] ∧ 1 ≤ d ∧ d ≤ m := r_far (by omega) (by omega)
theorem r_planW {a b c m : Int} (h1 : 1 ≤ m) (h2 : m ≤ 12) :
    Ok den__law_plan [.own (.lst [.int a, .int b, .int c]), .dat (.int m)] fun r e' => ∃ g t f p a' b' c', r = .tmp (pV g f p t) ∧ e' = [.own (.lst [.int a', .int b', .int c']), .un] ∧ (1 ≤ g ∧ g ≤ 12) ∧ inMenu t ∧ (g ≤ f ∧ f ≤ 60) ∧ 1 ≤ p ∧ p ≤ 8 := by
  simp_arith [↓den__law_plan, ↓b__law_plan]
  refine Ok.mono (r_farW h1 h2) ?_
  rintro _ _ ⟨d, a1, b1, c1, rfl, rfl, h4, h5⟩
  simp_arith
  refine Ok.mono (r_pick (by simp) (by simp)) ?_
  rintro _ _ ⟨v, a2, b2, c2, hv, rfl, rfl⟩
  have hi : ∃ k : Int, v = .int k ∧ 1 ≤ k ∧ k ≤ 12 := by
    simp only [List.mem_cons, List.not_mem_nil, or_false] at hv
    rcases hv with rfl | rfl | rfl | rfl | rfl <;> exact ⟨_, rfl, by omega, by omega⟩
  obtain ⟨g, rfl, g1, g2⟩ := hi
  simp_arith
  have hm : (if (1000000 : Int) < g then (1000000 : Int) else g) = g := by rw [if_neg (by omega)]
  rw [hm]
  refine Ok.mono (r_sip (by omega) (by omega)) ?_
  rintro _ _ ⟨d2, a3, b3, c3, rfl, rfl, h6, h7⟩
  simp_arith
  refine Ok.mono (r_pick (by simp) (by simp)) ?_
  rintro _ _ ⟨v, a4, b4, c4, hv, rfl, rfl⟩
  have hi : ∃ k : Int, v = .int k ∧ 0 ≤ k ∧ k ≤ 36 := by
    simp only [List.mem_cons, List.not_mem_nil, or_false] at hv
    rcases hv with rfl | rfl | rfl | rfl | rfl <;> exact ⟨_, rfl, by omega, by omega⟩
  obtain ⟨f, rfl, f1, f2⟩ := hi
  simp_arith
  refine Ok.mono (r_pick (by simp) (by simp)) ?_
  rintro _ _ ⟨v, a5, b5, c5, hv, rfl, rfl⟩
  have hi : ∃ k : Str, v = .str k ∧ inMenu k := by
    simp only [List.mem_cons, List.not_mem_nil, or_false] at hv
    rcases hv with rfl | rfl | rfl
    · exact ⟨_, rfl, .inl rfl⟩
    · exact ⟨_, rfl, .inr (.inl rfl)⟩
    · exact ⟨_, rfl, .inr (.inr rfl)⟩
  obtain ⟨t, rfl, t1⟩ := hi
  simp_arith
  refine Ok.mono (r_pick (by simp) (by simp)) ?_
  rintro _ _ ⟨v, a6, b6, c6, hv, rfl, rfl⟩
  have hi : ∃ k : Int, v = .int k ∧ 1 ≤ k ∧ k ≤ 8 := by
    simp only [List.mem_cons, List.not_mem_nil, or_false] at hv
    rcases hv with rfl | rfl | rfl | rfl | rfl <;> exact ⟨_, rfl, by omega, by omega⟩
  obtain ⟨p, rfl, p1, p2⟩ := hi
  simp_arith
  exact ⟨_, _, _, _, _, _, _, rfl, rfl, ⟨g1, g2⟩, t1, ⟨by omega, by omega⟩, p1, p2⟩
end
end Pu.Q
set_option Elab.async false
set_option linter.all false
set_option maxRecDepth 100000
set_option maxHeartbeats 8000000
set_option Elab.async false
set_option linter.all false
set_option maxRecDepth 100000
set_option maxHeartbeats 8000000
namespace Pu.Q
open PySem PySem.Spec PyProof.Rows L2 Pu
section
variable {s l p : Int} {t : Str} {Q : RV → Ev → Prop}
def pr (a : Stay) : Int × Int := (a.1, a.2.1)
def bkGo : List Note → List Int → Nat → List (Int × Int) → List (Int × Int)
  | n :: r, c :: cs, k, acc => match n.2.2 with
    | none => bkGo r cs (k + 1) acc
    | some _ => if c = 0 then bkGo r cs (k + 1) (setB acc (k : Int)) else bkGo r cs (k + 1) (acc ++ [((k : Int), (k : Int))])
  | _, _, _, acc => acc
theorem setLast_pr {f : List Stay} {k : Int} : (setLast f k).map pr = setB (f.map pr) k := by
  rcases List.eq_nil_or_concat f with z | ⟨g, a, z⟩
  · subst z; rfl
  · rw [List.concat_eq_append] at z
    subst z
    rw [setLast_some (a := a) (by simp), List.dropLast_concat, List.map_append, List.map_append]
    exact (setB_some (acc := g.map pr) (a := pr a) (k := k)).symm
theorem st_pairs : ∀ (rest : List Note) (i : Nat) (xs cs : List Int) (w w' : FS), stGo s p t rest xs cs i w = some w' → w'.found.map pr = bkGo rest cs i (w.found.map pr)
  | [], i, xs, cs, w, w', e => by simp only [stGo] at e; cases e; rfl
  | n :: r, i, [], cs, w, w', e => by simp [stGo] at e
  | n :: r, i, x :: xs, [], w, w', e => by simp [stGo] at e
  | n :: r, i, x :: xs, c :: cs, w, w', e => by
    simp only [stGo] at e
    cases e1 : stStep s p t i n x c w with
    | none => rw [e1] at e; cases e
    | some w1 =>
      rw [e1] at e
      have ih := st_pairs r (i + 1) xs cs w1 w' e
      obtain ⟨lo, hi_, m⟩ := n
      cases m with
      | none =>
        have ef : w1.found = w.found := by
          simp only [stStep] at e1
          split at e1
          · cases e1; rfl
          · split at e1
            · cases e1
            · cases e1; rfl
        rw [ef] at ih
        exact ih
      | some m =>
        simp only [stStep] at e1
        simp only [bkGo]
        by_cases c0 : c = 0
        · rw [if_pos c0] at e1 ⊢
          cases e1
          rw [ih]
          simp only
          rw [setLast_pr]
        · rw [if_neg c0] at e1 ⊢
          split at e1
          · cases e1
          · cases e1
            rw [ih, List.map_append]
            rfl
def cutAt (ns : List Note) (cs : List Int) (i : Nat) : Bool := (mkAt ns i).isSome && decide (cs.getD i 1 ≠ 0)
def cntTo (ns : List Note) (cs : List Int) : Nat → Nat
  | 0 => 0
  | n + 1 => cntTo ns cs n + (if cutAt ns cs n = true then 1 else 0)
theorem cutN_mono {ns : List Note} {cs : List Int} {i : Nat} : ∀ {j : Nat}, i ≤ j → cntTo ns cs i ≤ cntTo ns cs j := fun {j} => by
  induction j with
  | zero => intro h; rw [Nat.le_zero.mp h]; exact Nat.le_refl _
  | succ j ih =>
    intro h
    by_cases e : i = j + 1
    · rw [e]; exact Nat.le_refl _
    · have := ih (by omega)
      simp only [cntTo]
      omega
theorem cutN_eq {ns : List Note} {cs : List Int} {i : Nat} : ∀ {j : Nat}, i ≤ j → (cntTo ns cs i = cntTo ns cs j ↔ ∀ a, i ≤ a → a < j → cutAt ns cs a = false) := fun {j} => by
  induction j with
  | zero => intro h; rw [Nat.le_zero.mp h]; exact ⟨fun _ a _ h2 => by omega, fun _ => rfl⟩
  | succ j ih =>
    intro h
    by_cases e : i = j + 1
    · rw [e]; exact ⟨fun _ a h1 h2 => by omega, fun _ => rfl⟩
    · have ih := ih (by omega)
      have m := cutN_mono (ns := ns) (cs := cs) (show i ≤ j by omega)
      simp only [cntTo]
      constructor
      · intro z a h1 h2
        by_cases ea : a = j
        · subst ea
          cases c : cutAt ns cs a with
          | false => rfl
          | true => rw [c] at z; simp at z; omega
        · exact ih.mp (by omega) a h1 (by omega)
      · intro z
        rw [z j (by omega) (by omega), ih.mpr fun a h1 h2 => z a h1 (by omega)]
        simp
structure BK (ns : List Note) (cs : List Int) (n : Nat) (ps : List (Int × Int)) : Prop where
  len : ps.length = cntTo ns cs n
  at_ : ∀ (i : Nat) (a b : Int), ps[i]? = some (a, b) → 0 ≤ a ∧ a ≤ b ∧ b < n ∧ ∀ k : Nat, k < n → (mkAt ns k).isSome = true → ((a ≤ k ∧ (k : Int) ≤ b) ↔ i + 1 = cntTo ns cs (k + 1))
  last : 0 < n → (mkAt ns (n - 1)).isSome = true → ∃ g a, ps = g ++ [(a, (n : Int) - 1)]
theorem bk_none {ns : List Note} {cs : List Int} {n : Nat} {ps : List (Int × Int)} (B : BK ns cs n ps) (h : mkAt ns n = none) : BK ns cs (n + 1) ps := by
  have c : cutAt ns cs n = false := by unfold cutAt; rw [h]; rfl
  refine ⟨by rw [B.len]; simp [cntTo, c], fun i a b e => ?_, fun _ z => ?_⟩
  · obtain ⟨h1, h2, h3, h4⟩ := B.at_ i a b e
    refine ⟨h1, h2, by omega, fun k hk mk => h4 k ?_ mk⟩
    refine Nat.lt_of_le_of_ne (by omega) fun z => ?_
    rw [z, h] at mk; cases mk
  · rw [Nat.add_sub_cancel, h] at z; cases z
theorem bk_cut {ns : List Note} {cs : List Int} {n : Nat} {ps : List (Int × Int)} (B : BK ns cs n ps) (h : (mkAt ns n).isSome = true) (hc : cs.getD n 1 ≠ 0) : BK ns cs (n + 1) (ps ++ [((n : Int), (n : Int))]) := by
  have c : cutAt ns cs n = true := by unfold cutAt; rw [h, decide_eq_true hc]; rfl
  have cn : cntTo ns cs (n + 1) = cntTo ns cs n + 1 := by simp [cntTo, c]
  refine ⟨by rw [List.length_append, B.len, cn]; rfl, fun i a b e => ?_, fun _ _ => ⟨ps, n, by simp⟩⟩
  by_cases hi : i < ps.length
  · rw [List.getElem?_append_left hi] at e
    obtain ⟨h1, h2, h3, h4⟩ := B.at_ i a b e
    refine ⟨h1, h2, by omega, fun k hk mk => ?_⟩
    by_cases kn : k = n
    · subst kn
      rw [cn, ← B.len]
      exact ⟨fun z => by omega, fun z => by omega⟩
    · exact h4 k (by omega) mk
  · have hi2 : i = ps.length := by
      have := (List.getElem?_eq_some_iff.mp e).1
      rw [List.length_append, List.length_singleton] at this
      omega
    subst hi2
    rw [List.getElem?_append_right (Nat.le_refl _), Nat.sub_self] at e
    cases e
    refine ⟨by omega, by omega, by omega, fun k hk mk => ?_⟩
    by_cases kn : k = n
    · subst kn
      rw [cn, ← B.len]
      exact ⟨fun _ => rfl, fun _ => ⟨by omega, by omega⟩⟩
    · have := cutN_mono (ns := ns) (cs := cs) (show k + 1 ≤ n by omega)
      rw [B.len]
      exact ⟨fun z => by omega, fun z => by omega⟩
theorem bk_join {ns : List Note} {cs : List Int} {n : Nat} {ps : List (Int × Int)} (B : BK ns cs n ps) (h : (mkAt ns n).isSome = true) (hc : cs.getD n 1 = 0) (h0 : 0 < n) (hp : (mkAt ns (n - 1)).isSome = true) : BK ns cs (n + 1) (setB ps (n : Int)) := by
  have c : cutAt ns cs n = false := by unfold cutAt; rw [decide_eq_false (fun z => z hc), Bool.and_false]
  have cn : cntTo ns cs (n + 1) = cntTo ns cs n := by simp [cntTo, c]
  obtain ⟨g, a0, rfl⟩ := B.last h0 hp
  rw [setB_some]
  simp only
  have L := B.len
  rw [List.length_append, List.length_singleton] at L
  refine ⟨by rw [List.length_append, List.length_singleton, cn, L], fun i a b e => ?_, fun _ _ => ⟨g, a0, by simp⟩⟩
  by_cases hi : i < g.length
  · rw [List.getElem?_append_left hi] at e
    obtain ⟨h1, h2, h3, h4⟩ := B.at_ i a b (by rw [List.getElem?_append_left hi]; exact e)
    refine ⟨h1, h2, by omega, fun k hk mk => ?_⟩
    by_cases kn : k = n
    · subst kn
      rw [cn, ← L]
      exact ⟨fun z => by omega, fun z => by omega⟩
    · exact h4 k (by omega) mk
  · have hi2 : i = g.length := by
      have := (List.getElem?_eq_some_iff.mp e).1
      rw [List.length_append, List.length_singleton] at this
      omega
    subst hi2
    rw [List.getElem?_append_right (Nat.le_refl _), Nat.sub_self] at e
    cases e
    obtain ⟨h1, h2, h3, h4⟩ := B.at_ g.length a0 ((n : Int) - 1) (by rw [List.getElem?_append_right (Nat.le_refl _), Nat.sub_self]; rfl)
    refine ⟨h1, by omega, by omega, fun k hk mk => ?_⟩
    by_cases kn : k = n
    · subst kn
      rw [cn, ← L]
      exact ⟨fun _ => rfl, fun _ => ⟨by omega, by omega⟩⟩
    · rw [← h4 k (by omega) mk]
      exact ⟨fun z => ⟨z.1, by omega⟩, fun z => ⟨z.1, by omega⟩⟩
theorem bk_go {ns : List Note} {cs : List Int} (hl : cs.length = ns.length) (hz : ∀ j, cs[j]? = some 0 → joinsB ns j [] = true) : ∀ (rest : List Note) (k : Nat) (ps : List (Int × Int)), ns.drop k = rest → k ≤ ns.length → BK ns cs k ps → BK ns cs ns.length (bkGo rest (cs.drop k) k ps)
  | [], k, ps, hd, hk, B => by
    have : ns.length ≤ k := List.drop_eq_nil_iff.mp hd
    have e : k = ns.length := by omega
    subst e
    cases h : cs.drop ns.length <;> exact B
  | n :: r, k, ps, hd, hk, B => by
    obtain ⟨hi, hr⟩ := drop_head hd
    have mk := mkAt_get hi
    have lt : k < ns.length := (List.getElem?_eq_some_iff.mp hi).1
    have kc : k < cs.length := by omega
    rw [List.drop_eq_getElem_cons kc]
    have gd : cs.getD k 1 = cs[k] := by rw [List.getD_eq_getElem?_getD, List.getElem?_eq_getElem kc]; rfl
    have ih := fun ps => bk_go hl hz r (k + 1) ps hr (by omega)
    simp only [bkGo]
    cases hm : n.2.2 with
    | none => exact ih _ (bk_none B (by rw [mk, hm]))
    | some m =>
      simp only
      by_cases c0 : cs[k] = 0
      · rw [if_pos c0]
        obtain ⟨j1, j2, j3⟩ := joins_same (hz k (by rw [List.getElem?_eq_getElem kc, c0]))
        exact ih _ (bk_join B (by rw [mk, hm]; rfl) (by rw [gd, c0]) j1 (by rw [j3, mk, hm]; rfl))
      · rw [if_neg c0]
        exact ih _ (bk_cut B (by rw [mk, hm]; rfl) (by rw [gd]; exact c0))
theorem fit_bk {ns : List Note} {xs cs : List Int} {f : List Stay} (hc : cs ∈ cutsL ns) (e : staysL s p t ns xs cs = some f) : BK ns cs ns.length (f.map pr) := by
  obtain ⟨h1, h2⟩ := mem_cuts.mp hc
  unfold staysL at e
  cases hw : stGo s p t ns xs cs 0 fs0 with
  | none => rw [hw] at e; cases e
  | some w =>
    rw [hw] at e
    cases e
    rw [st_pairs ns 0 xs cs fs0 w hw]
    have := bk_go (ns := ns) (cs := cs) h1 (fun j z => by
      rcases h2 j 0 z with q | q
      · exact absurd q (by decide)
      · exact q.2) ns 0 [] rfl (Nat.zero_le _) ⟨rfl, fun i a b z => by simp at z, fun z => by omega⟩
    rwa [List.drop_zero] at this
theorem cutN_le {ns : List Note} {cs : List Int} {k : Nat} {ps : List (Int × Int)} (B : BK ns cs ns.length ps) (hk : k < ns.length) : cntTo ns cs (k + 1) ≤ ps.length := by
  rw [B.len]
  exact cutN_mono (by omega)
theorem range_one {c : Nat} : ∀ {n : Nat}, c < n → (List.range n).filter (fun j => decide (j = c)) = [c]
  | 0, h => by omega
  | n + 1, h => by
    rw [List.range_succ, List.filter_append]
    by_cases e : c = n
    · subst e
      have : (List.range c).filter (fun j => decide (j = c)) = [] := by
        rw [List.filter_eq_nil_iff]
        intro a ha
        have := List.mem_range.mp ha
        simp; omega
      rw [this]
      simp
    · rw [range_one (n := n) (by omega)]
      have : ¬ n = c := fun z => e z.symm
      simp [this]
end
end Pu.Q
set_option Elab.async false
set_option linter.all false
set_option maxRecDepth 100000
set_option maxHeartbeats 8000000
namespace Pu.Q
open PySem PySem.Spec PyProof.Rows L2 Pu
section
variable {s l p : Int} {t : Str} {Q : RV → Ev → Prop}
theorem cut_here {ns : List Note} {cs : List Int} {a : Nat} (hc : cs ∈ cutsL ns) (ha : a < ns.length) (mk : (mkAt ns a).isSome = true) (h : cutAt ns cs a = false) : cs[a]? = some 0 ∧ joinsB ns a [] = true := by
  obtain ⟨h1, h2⟩ := mem_cuts.mp hc
  have lt : a < cs.length := by omega
  unfold cutAt at h
  rw [mk, Bool.true_and, List.getD_eq_getElem?_getD, List.getElem?_eq_getElem lt, Option.getD_some] at h
  have e : cs[a] = 0 := by simpa using h
  have e2 : cs[a]? = some 0 := by rw [List.getElem?_eq_getElem lt, e]
  refine ⟨e2, ?_⟩
  rcases h2 a 0 e2 with q | q
  · exact absurd q (by decide)
  · exact q.2
theorem cutN_one {ns : List Note} {cs : List Int} (hc : cs ∈ cutsL ns) : ∀ {k : Nat}, k < ns.length → (mkAt ns k).isSome = true → 1 ≤ cntTo ns cs (k + 1)
  | k, hk, mk => by
    cases c : cutAt ns cs k with
    | true => simp only [cntTo, c, if_true]; omega
    | false =>
      obtain ⟨_, j⟩ := cut_here hc hk mk c
      obtain ⟨j1, j2, j3⟩ := joins_same j
      have ih := cutN_one hc (k := k - 1) (by omega) (by rw [j3]; exact mk)
      have := cutN_mono (ns := ns) (cs := cs) (show k - 1 + 1 ≤ k + 1 by omega)
      omega
  termination_by k => k
  decreasing_by omega
def jAll (ns : List Note) (k j : Nat) : Bool := (List.range' (k + 1) (j - k)).all fun i => joinsB ns i []
def wAll (s p : Int) (t : Str) (ns : List Note) (k j : Nat) : Bool := (List.range' (k + 1) (j - k)).all fun i => (ways s p t ns [(i : Int)]).isNone
theorem mem_btw {k j a : Nat} (h : k < j) : a ∈ List.range' (k + 1) (j - k) ↔ k < a ∧ a ≤ j := by
  rw [List.mem_range'_1]; omega
theorem same_iff {ns : List Note} {cs : List Int} {k j : Nat} (h : k < j) : cntTo ns cs (k + 1) = cntTo ns cs (j + 1) ↔ ∀ a, k < a → a ≤ j → cutAt ns cs a = false := by
  rw [cutN_eq (show k + 1 ≤ j + 1 by omega)]
  exact ⟨fun z a h1 h2 => z a (by omega) (by omega), fun z a h1 h2 => z a (by omega) (by omega)⟩
theorem same_joins {ns : List Note} {cs : List Int} {k j : Nat} (hc : cs ∈ cutsL ns) (h : k < j) (hj : j < ns.length) (mj : (mkAt ns j).isSome = true) (e : cntTo ns cs (k + 1) = cntTo ns cs (j + 1)) : jAll ns k j = true := by
  have ct := (same_iff h).mp e
  have go : ∀ d, k < j - d → (mkAt ns (j - d)).isSome = true ∧ joinsB ns (j - d) [] = true := by
    intro d
    induction d with
    | zero => intro _; exact ⟨mj, (cut_here hc hj mj (ct j h (Nat.le_refl _))).2⟩
    | succ d ih =>
      intro hd
      obtain ⟨m1, m2⟩ := ih (by omega)
      obtain ⟨j1, j2, j3⟩ := joins_same m2
      have m3 : (mkAt ns (j - (d + 1))).isSome = true := by rw [show j - (d + 1) = j - d - 1 by omega, j3]; exact m1
      exact ⟨m3, (cut_here hc (by omega) m3 (ct _ hd (by omega))).2⟩
  unfold jAll
  rw [List.all_eq_true]
  intro a ha
  obtain ⟨h1, h2⟩ := (mem_btw h).mp ha
  have := (go (j - a) (by omega)).2
  rwa [show j - (j - a) = a by omega] at this
theorem joins_other {ns : List Note} {a b : Nat} (h : a ≠ b) : joinsB ns a [(b : Int)] = joinsB ns a [] := by
  unfold joinsB
  have : ¬ ((a : Int) = (b : Int)) := by omega
  simp [this]
theorem parts {ns : List Note} {xs cs : List Int} {f : List Stay} {k j : Nat} (h0 : ∀ n ∈ ns, 0 ≤ n.1) (M : Mins ns none xs) (hc : cs ∈ cutsL ns) (e : staysL s p t ns xs cs = some f) (h : k < j) (hj : j < ns.length) (ne : cntTo ns cs (k + 1) ≠ cntTo ns cs (j + 1)) : wAll s p t ns k j = false := by
  have ⟨a, h1, h2, h3⟩ : ∃ a, k < a ∧ a ≤ j ∧ cutAt ns cs a = true := by
    refine Classical.byContradiction fun z => ne ((same_iff h).mpr fun a h1 h2 => ?_)
    cases c : cutAt ns cs a with
    | false => rfl
    | true => exact absurd ⟨a, h1, h2, c⟩ z
  obtain ⟨l1, l2⟩ := mem_cuts.mp hc
  obtain ⟨out, e1, _⟩ := ways_least (ap := [(a : Int)]) h0 M e fun b hb => by
    rcases l2 b 0 hb with q | q
    · exact absurd q (by decide)
    · have : b ≠ a := fun z => by
        subst z
        unfold cutAt at h3
        rw [List.getD_eq_getElem?_getD, hb] at h3
        simp at h3
      rw [joins_other this]
      exact q.2
  cases w : wAll s p t ns k j with
  | false => rfl
  | true =>
    unfold wAll at w
    rw [List.all_eq_true] at w
    have := w a ((mem_btw h).mpr ⟨h1, h2⟩)
    rw [e1] at this
    cases this
def inSt (f : List Stay) (k : Int) (i : Nat) : Bool := match f[i]? with
  | some a => decide (a.1 ≤ k) && decide (k ≤ a.2.1)
  | none => false
def lawOf (f : List Stay) (k : Int) : Nat := ((List.range f.length).filter (inSt f k)).headD 0
theorem lawOf_l {ns : List Note} {cs : List Int} {f : List Stay} {k : Nat} (B : BK ns cs ns.length (f.map pr)) (hc : cs ∈ cutsL ns) (hk : k < ns.length) (mk : (mkAt ns k).isSome = true) : (List.range f.length).filter (inSt f k) = [cntTo ns cs (k + 1) - 1] := by
  have c1 := cutN_one hc hk mk
  have c2 := cutN_le B hk
  rw [List.length_map] at c2
  rw [← range_one (show cntTo ns cs (k + 1) - 1 < f.length by omega)]
  refine List.filter_congr fun i hi => ?_
  have lt := List.mem_range.mp hi
  unfold inSt
  rw [List.getElem?_eq_getElem lt]
  obtain ⟨h1, h2, h3, h4⟩ := B.at_ i f[i].1 f[i].2.1 (by rw [List.getElem?_map, List.getElem?_eq_getElem lt]; rfl)
  have := h4 k hk mk
  simp only
  by_cases z : f[i].1 ≤ (k : Int) ∧ (k : Int) ≤ f[i].2.1
  · rw [decide_eq_true z.1, decide_eq_true z.2, decide_eq_true (show i = cntTo ns cs (k + 1) - 1 by have := this.mp z; omega)]; rfl
  · rw [decide_eq_false (show ¬ i = cntTo ns cs (k + 1) - 1 from fun q => z (this.mpr (by omega)))]
    cases h5 : decide (f[i].1 ≤ (k : Int)) with
    | false => rfl
    | true => rw [decide_eq_false (fun q => z ⟨of_decide_eq_true h5, q⟩)]; rfl
theorem lawOf_is {ns : List Note} {cs : List Int} {f : List Stay} {k : Nat} (B : BK ns cs ns.length (f.map pr)) (hc : cs ∈ cutsL ns) (hk : k < ns.length) (mk : (mkAt ns k).isSome = true) : lawOf f k = cntTo ns cs (k + 1) - 1 := by
  unfold lawOf
  rw [lawOf_l B hc hk mk]
  rfl
end
end Pu.Q
set_option Elab.async false
set_option linter.all false
set_option maxRecDepth 100000
set_option maxHeartbeats 8000000
set_option Elab.async false
set_option linter.all false
set_option maxRecDepth 100000
set_option maxHeartbeats 8000000
namespace Pu.Q
open PySem PySem.Spec PyProof.Rows L2 Pu
section
variable {s l p : Int} {t : Str} {Q : RV → Ev → Prop}
theorem ok_EqG {k : Nat} {vs : List Val} {e : Ev} (h : ∀ v ∈ vs, Pl k v) (hk : k ≤ 49) : Ok (oEq (.lst vs) (.lst [])) e Q ↔ Q (.dat (.bl (decide (vs = [])))) e := by
  have P := Pl.lst h
  have e1 : veq (.lst vs) (.lst []) = decide (vs = []) := by
    cases vs with
    | nil => rfl
    | cons a r => rw [veq_no P.b rfl (by simp)]; simp
  rw [ok_oEqL, e1, pl_dOk P (by omega), dOk_nilL]
  simp
end
end Pu.Q
set_option Elab.async false
set_option linter.all false
set_option maxRecDepth 100000
set_option maxHeartbeats 8000000
namespace Pu.Q
open PySem PySem.Spec PyProof.Rows L2 Pu
section
variable {s l p : Int} {t : Str} {Q : RV → Ev → Prop}
theorem mn_le' {i j : Int} : mn i j ≤ i ∧ mn i j ≤ j := by unfold mn; split <;> omega
end
end Pu.Q
set_option Elab.async false
set_option linter.all false
set_option maxRecDepth 100000
set_option maxHeartbeats 8000000
set_option Elab.async false
set_option linter.all false
set_option maxRecDepth 100000
set_option maxHeartbeats 8000000
set_option Elab.async false
set_option linter.all false
set_option maxRecDepth 100000
set_option maxHeartbeats 8000000
set_option Elab.async false
set_option linter.all false
set_option maxRecDepth 100000
set_option maxHeartbeats 8000000
set_option Elab.async false
set_option linter.all false
set_option maxRecDepth 100000
set_option maxHeartbeats 8000000
namespace Pu.Q
open PySem PySem.Spec PyProof.Rows L2 Pu
section
variable {s l p : Int} {t : Str} {Q : RV → Ev → Prop}
theorem Mins.low : ∀ {ns : List Note} {y : Int} {xs : List Int}, Mins ns (some y) xs → ∀ {j : Nat} {b : Int}, xs[j]? = some b → y ≤ b
  | [], _, _, M, j, b, h => by rw [show _ = [] from M] at h; simp at h
  | n :: r, y, _, M, j, b, h => by
    obtain ⟨x, xs', rfl, _, _, c, M'⟩ := M
    have := c y rfl
    cases j with
    | zero => simp only [List.getElem?_cons_zero] at h; cases h; exact this
    | succ j => have := M'.low (j := j) (by simpa using h); omega
theorem Mins.mono : ∀ {ns : List Note} {q : Option Int} {xs : List Int}, Mins ns q xs → ∀ {i j : Nat} {a b : Int}, i ≤ j → xs[i]? = some a → xs[j]? = some b → a ≤ b
  | [], _, _, M, i, j, a, b, _, h, _ => by rw [show _ = [] from M] at h; simp at h
  | n :: r, q, xs, M, i, j, a, b, hij, ha, hb => by
    obtain ⟨x, xs', rfl, _, _, _, M'⟩ := M
    cases i with
    | zero =>
      simp only [List.getElem?_cons_zero] at ha
      cases ha
      cases j with
      | zero => simp only [List.getElem?_cons_zero] at hb; cases hb; exact Int.le_refl _
      | succ j => exact M'.low (by simpa using hb)
    | succ i =>
      cases j with
      | zero => omega
      | succ j => exact M'.mono (i := i) (j := j) (by omega) (by simpa using ha) (by simpa using hb)
theorem getD_of {xs : List Int} {j : Nat} {x : Int} (h : xs[j]? = some x) : xs.getD j 0 = x := by rw [List.getD_eq_getElem?_getD, h]; rfl
theorem get_lt {α : Type} {xs : List α} {j : Nat} (h : j < xs.length) : ∃ x, xs[j]? = some x := ⟨_, List.getElem?_eq_getElem h⟩
def SameM (ns ns' : List Note) : Prop := ns'.map (·.2.2) = ns.map (·.2.2)
theorem SameM.len {ns ns' : List Note} (h : SameM ns ns') : ns'.length = ns.length := by
  have := congrArg List.length h
  simpa using this
theorem SameM.mk {ns ns' : List Note} (h : SameM ns ns') (i : Nat) : mkAt ns' i = mkAt ns i := by
  have := congrArg (fun z => z[i]?) h
  simp only [List.getElem?_map] at this
  unfold mkAt
  cases h1 : ns'[i]? with
  | none =>
    rw [h1] at this
    cases h2 : ns[i]? with
    | none => rfl
    | some b => rw [h2] at this; cases this
  | some a =>
    rw [h1] at this
    cases h2 : ns[i]? with
    | none => rw [h2] at this; cases this
    | some b => rw [h2] at this; exact Option.some.inj this
theorem SameM.joins {ns ns' : List Note} (h : SameM ns ns') (i : Nat) (ap : List Int) : joinsB ns' i ap = joinsB ns i ap := by
  unfold joinsB
  rw [h.mk, h.mk]
theorem SameM.cutsOf {ns ns' : List Note} (h : SameM ns ns') (ap : List Int) : cutsOf ns' ap = cutsOf ns ap := by
  unfold Pu.Q.cutsOf
  rw [h.len]
  refine List.map_congr_left fun i _ => ?_
  unfold cutOf
  rw [h.joins]
theorem setB_fst {f : List (Int × Int)} {k : Int} {P : Int × Int → Prop} (h : ∀ q ∈ f, P q) (hP : ∀ q, P q → P (q.1, k)) : ∀ q ∈ setB f k, P q := by
  rcases List.eq_nil_or_concat f with z | ⟨g, b, z⟩
  · subst z
    intro q hq
    cases hq
  · rw [List.concat_eq_append] at z
    subst z
    rw [setB_some]
    intro q hq
    rcases List.mem_append.mp hq with q1 | q1
    · exact h q (List.mem_append_left _ q1)
    · rw [List.mem_singleton] at q1
      rw [q1]
      exact hP b (h b (List.mem_append_right _ (List.mem_singleton.mpr rfl)))
theorem first_ok {ns : List Note} : ∀ (rest : List Note) (i : Nat) (cs : List Int) (L : List (Int × Int)), ns.drop i = rest → (∀ q ∈ L, ∃ m, mkAt ns q.1.toNat = some m) → ∀ q ∈ bkGo rest cs i L, ∃ m, mkAt ns q.1.toNat = some m
  | [], i, cs, L, _, h => by simpa only [bkGo] using h
  | n :: r, i, [], L, _, h => by simpa only [bkGo] using h
  | n :: r, i, c :: cs, L, hd, h => by
    obtain ⟨hi, hr⟩ := drop_head hd
    have mk := mkAt_get hi
    have ih := fun L => first_ok r (i + 1) cs L hr
    simp only [bkGo]
    cases hm : n.2.2 with
    | none => exact ih L h
    | some m =>
      simp only
      by_cases c0 : c = 0
      · rw [if_pos c0]
        exact ih _ (setB_fst h fun q hq => hq)
      · rw [if_neg c0]
        refine ih _ fun a ha => ?_
        rcases List.mem_append.mp ha with q | q
        · exact h a q
        · rw [List.mem_singleton.mp q]; exact ⟨m, by rw [Int.toNat_natCast, mk, hm]⟩
theorem fit_firsts {ns : List Note} {xs cs : List Int} {f : List Stay} (e : staysL s p t ns xs cs = some f) : ∀ a ∈ f, ∃ m, mkAt ns a.1.toNat = some m := by
  intro a ha
  unfold staysL at e
  cases hw : stGo s p t ns xs cs 0 fs0 with
  | none => rw [hw] at e; cases e
  | some w =>
    rw [hw] at e
    cases e
    have := st_pairs ns 0 xs cs fs0 w hw
    have g := first_ok ns 0 cs [] rfl (fun q hq => by cases hq) (pr a) (by
      have : pr a ∈ w.found.map pr := List.mem_map.mpr ⟨a, ha, rfl⟩
      rw [st_pairs ns 0 xs cs fs0 w hw] at this
      exact this)
    exact g
structure StayOf (ns : List Note) (cs : List Int) (f : List Stay) (k : Nat) (a : Stay) : Prop where
  at_ : f[lawOf f k]? = some a
  lo : 0 ≤ a.1
  hi : 0 ≤ a.2.1
  l1 : a.1.toNat ≤ k
  l2 : k ≤ a.2.1.toNat
  l3 : a.2.1.toNat < ns.length
  zer : ∀ j, a.1.toNat < j → j ≤ a.2.1.toNat → cs[j]? = some 0
  out : cs[a.2.1.toNat + 1]? ≠ some 0
  beg : cs[a.1.toNat]? ≠ some 0
  mb : ∃ m, mkAt ns a.2.1.toNat = some m
  ma : ∃ m, mkAt ns a.1.toNat = some m
theorem stay_end {ns : List Note} {xs cs : List Int} {f : List Stay} {k : Nat} (hc : cs ∈ cutsL ns) (e : staysL s p t ns xs cs = some f) (hk : k < ns.length) (mk : (mkAt ns k).isSome = true) : ∃ a, StayOf ns cs f k a := by
  have B := fit_bk hc e
  obtain ⟨l1, l2⟩ := mem_cuts.mp hc
  have c1 := cutN_one hc hk mk
  have c2 := cutN_le B hk
  rw [List.length_map] at c2
  have li := lawOf_is B hc hk mk
  obtain ⟨a, ha⟩ := get_lt (xs := f) (show cntTo ns cs (k + 1) - 1 < f.length by omega)
  obtain ⟨h1, h2, h3, h4⟩ := B.at_ (cntTo ns cs (k + 1) - 1) a.1 a.2.1 (by rw [List.getElem?_map, ha]; rfl)
  have hkk := (h4 k hk mk).mpr (by omega)
  have am : a ∈ f := List.mem_of_getElem? ha
  have mb : ∃ m, mkAt ns a.2.1.toNat = some m := by
    refine (last_ok ns 0 cs [] rfl (fun a ha => by cases ha) a.2.1 ?_).2
    rw [← fit_lasts hc e]
    exact List.mem_map.mpr ⟨a, am, rfl⟩
  have ma := fit_firsts e a am
  have mbs : (mkAt ns a.2.1.toNat).isSome = true := by obtain ⟨m, hm⟩ := mb; rw [hm]; rfl
  have mas : (mkAt ns a.1.toNat).isSome = true := by obtain ⟨m, hm⟩ := ma; rw [hm]; rfl
  have eb : ((a.2.1.toNat : Nat) : Int) = a.2.1 := by omega
  have ea : ((a.1.toNat : Nat) : Int) = a.1 := by omega
  have cb := (h4 a.2.1.toNat (by omega) mbs).mp ⟨by omega, by omega⟩
  have ca := (h4 a.1.toNat (by omega) mas).mp ⟨by omega, by omega⟩
  have zero : ∀ j, cs[j]? = some 0 → joinsB ns j [] = true := fun j z => by
    rcases l2 j 0 z with q | q
    · exact absurd q (by decide)
    · exact q.2
  have nocut : ∀ j, cs[j]? = some 0 → cutAt ns cs j = false := fun j z => by
    unfold cutAt
    rw [List.getD_eq_getElem?_getD, z]
    simp
  refine ⟨a, ⟨by rw [li]; exact ha, h1, by omega, by omega, by omega, by omega, fun j j1 j2 => ?_, fun z => ?_, fun z => ?_, mb, ma⟩⟩
  · have lt : a.1.toNat < a.2.1.toNat := by omega
    have cc : cntTo ns cs (a.1.toNat + 1) = cntTo ns cs (a.2.1.toNat + 1) := by omega
    have J := same_joins hc lt (by omega) mbs cc
    have ct := (same_iff lt).mp cc j j1 j2
    unfold jAll at J
    rw [List.all_eq_true] at J
    exact (cut_here hc (by omega) (joins_same (J j ((mem_btw lt).mpr ⟨j1, j2⟩))).2.1 ct).1
  · have j := zero _ z
    obtain ⟨j1, j2, j3⟩ := joins_same j
    have lt : a.2.1.toNat + 1 < ns.length := by
      refine Classical.byContradiction fun q => ?_
      rw [List.getElem?_eq_none (by omega)] at z
      cases z
    have cn := nocut _ z
    have : cntTo ns cs (a.2.1.toNat + 1 + 1) = cntTo ns cs (a.2.1.toNat + 1) := by simp [cntTo, cn]
    have := (h4 _ lt j2).mpr (by omega)
    omega
  · have j := zero _ z
    obtain ⟨j1, j2, j3⟩ := joins_same j
    have cn := nocut _ z
    have : cntTo ns cs (a.1.toNat + 1) = cntTo ns cs a.1.toNat := by simp [cntTo, cn]
    have := (h4 (a.1.toNat - 1) (by omega) (by rw [j3]; exact j2)).mpr (by rw [show a.1.toNat - 1 + 1 = a.1.toNat by omega]; omega)
    omega
theorem mk_same {ns : List Note} {k : Nat} : ∀ {j : Nat}, k ≤ j → (∀ i, k < i → i ≤ j → joinsB ns i [] = true) → mkAt ns j = mkAt ns k := fun {j} => by
  induction j with
  | zero => intro h _; rw [Nat.le_zero.mp h]
  | succ j ih =>
    intro h z
    by_cases e : k = j + 1
    · rw [e]
    · have := (joins_same (z (j + 1) (by omega) (Nat.le_refl _))).2.2
      rw [Nat.add_sub_cancel] at this
      rw [← this]
      exact ih (by omega) fun i h1 h2 => z i h1 (by omega)
theorem StayOf.joins {ns : List Note} {cs : List Int} {f : List Stay} {k : Nat} {a : Stay} (hc : cs ∈ cutsL ns) (S : StayOf ns cs f k a) : ∀ j, a.1.toNat < j → j ≤ a.2.1.toNat → joinsB ns j [] = true := fun j h1 h2 => by
  rcases (mem_cuts.mp hc).2 j 0 (S.zer j h1 h2) with q | q
  · exact absurd q (by decide)
  · exact q.2
theorem StayOf.parts {ns : List Note} {cs : List Int} {f : List Stay} {k : Nat} {a : Stay} (hc : cs ∈ cutsL ns) (S : StayOf ns cs f k a) : ∀ j, cs[j]? = some 0 → joinsB ns j [((a.2.1.toNat + 1 : Nat) : Int)] = true := fun j z => by
  have ne : j ≠ a.2.1.toNat + 1 := fun q => S.out (by rw [← q]; exact z)
  rw [joins_other ne]
  rcases (mem_cuts.mp hc).2 j 0 z with q | q
  · exact absurd q (by decide)
  · exact q.2
def stayK (f : List Stay) (k : Nat) : Stay := (f[lawOf f k]?).getD (0, 0, 0, 0)
theorem StayOf.is {ns : List Note} {cs : List Int} {f : List Stay} {k : Nat} {a : Stay} (S : StayOf ns cs f k a) : stayK f k = a := by unfold stayK; rw [S.at_]; rfl
end
end Pu.Q
set_option Elab.async false
set_option linter.all false
set_option maxRecDepth 100000
set_option maxHeartbeats 8000000
set_option Elab.async false
set_option linter.all false
set_option maxRecDepth 100000
set_option maxHeartbeats 8000000
set_option Elab.async false
set_option linter.all false
set_option maxRecDepth 100000
set_option maxHeartbeats 8000000
namespace Pu.Q
open PySem PySem.Spec PyProof.Rows L2 Pu
section
variable {s l p : Int} {t : Str} {Q : RV → Ev → Prop}
theorem fit_few {ns : List Note} {xs cs : List Int} {f : List Stay} (hc : cs ∈ cutsL ns) (e : staysL s p t ns xs cs = some f) : f.length ≤ ns.length := by
  have L := (fit_bk hc e).len
  rw [List.length_map] at L
  have : ∀ n, cntTo ns cs n ≤ n := fun n => by
    induction n with
    | zero => exact Nat.le_refl _
    | succ n ih => simp only [cntTo]; split <;> omega
  have := this ns.length
  omega
end
end Pu.Q
set_option Elab.async false
set_option linter.all false
set_option maxRecDepth 100000
set_option maxHeartbeats 8000000
set_option Elab.async false
set_option linter.all false
set_option maxRecDepth 100000
set_option maxHeartbeats 8000000
namespace Pu.Q
open PySem PySem.Spec PyProof.Rows L2 Pu
section
variable {s l p : Int} {t : Str} {Q : RV → Ev → Prop}
def lxA (ns : List Note) (xs : List Int) : Nat → Option Int
  | 0 => none
  | k + 1 => if (mkAt ns k).isSome = true then some (xs.getD k 0) else lxA ns xs k
def gnA (ns : List Note) (xs : List Int) : Nat → Int
  | 0 => -1
  | k + 1 => if (mkAt ns k).isSome = true then gnA ns xs k else xs.getD k 0
def lstA (s p : Int) (t : Str) (ns : List Note) (xs : List Int) (k : Nat) (m : Int) : Int := mx (mx (mx 0 (m - high t s)) (match lxA ns xs k with
  | none => 0
  | some y => y + p)) (gnA ns xs k + 1)
def OkA (s p : Int) (t : Str) (ns : List Note) (xs cs : List Int) (j : Nat) : Prop := (mkAt ns j = none → ∀ z, lxA ns xs j = some z → z < xs.getD j 0) ∧ ∀ m, mkAt ns j = some m → cs[j]? ≠ some 0 → lstA s p t ns xs j m ≤ mn (m - low t s) (xs.getD j 0)
def Arr (s p : Int) (t : Str) (ns : List Note) (xs : List Int) (a : Stay) : Prop := ∃ m, mkAt ns a.1.toNat = some m ∧ a.2.2.1 = lstA s p t ns xs a.1.toNat m ∧ a.2.2.2 = mn (m - low t s) (xs.getD a.1.toNat 0)
theorem arr_last {ns : List Note} {xs : List Int} {f : List Stay} {k : Int} (h : ∀ a ∈ f, Arr s p t ns xs a) : ∀ a ∈ setLast f k, Arr s p t ns xs a := by
  rcases List.eq_nil_or_concat f with z | ⟨g, b, z⟩
  · subst z
    intro q hq
    cases hq
  · rw [List.concat_eq_append] at z
    subst z
    rw [setLast_some (a := b) (by simp), List.dropLast_concat]
    intro q hq
    rcases List.mem_append.mp hq with q1 | q1
    · exact h q (List.mem_append_left _ q1)
    · rw [List.mem_singleton] at q1
      rw [q1]
      exact h b (List.mem_append_right _ (List.mem_singleton.mpr rfl))
theorem fit_go {ns : List Note} {xs cs : List Int} (hx : xs.length = ns.length) (hc : cs.length = ns.length) : ∀ (rest : List Note) (k : Nat) (w : FS), ns.drop k = rest → w.lx = lxA ns xs k → w.gone = gnA ns xs k → (∀ a ∈ w.found, Arr s p t ns xs a) →
    ((∃ w', stGo s p t rest (xs.drop k) (cs.drop k) k w = some w') ↔ ∀ j, k ≤ j → j < ns.length → OkA s p t ns xs cs j) ∧ ∀ w', stGo s p t rest (xs.drop k) (cs.drop k) k w = some w' → ∀ a ∈ w'.found, Arr s p t ns xs a
  | [], k, w, hd, h1, h2, h3 => by
    have : ns.length ≤ k := List.drop_eq_nil_iff.mp hd
    have e : stGo s p t [] (xs.drop k) (cs.drop k) k w = some w := by simp [stGo]
    rw [e]
    exact ⟨⟨fun _ j a b => by omega, fun _ => ⟨w, rfl⟩⟩, fun w' hw => by cases hw; exact h3⟩
  | n :: r, k, w, hd, h1, h2, h3 => by
    obtain ⟨hi, hr⟩ := drop_head hd
    have mk := mkAt_get hi
    have lt : k < ns.length := (List.getElem?_eq_some_iff.mp hi).1
    have kx : k < xs.length := by omega
    have kc : k < cs.length := by omega
    have gx : xs.getD k 0 = xs[k] := by rw [List.getD_eq_getElem?_getD, List.getElem?_eq_getElem kx]; rfl
    have gc : cs[k]? = some cs[k] := List.getElem?_eq_getElem kc
    rw [List.drop_eq_getElem_cons kx, List.drop_eq_getElem_cons kc]
    have split : (∀ j, k ≤ j → j < ns.length → OkA s p t ns xs cs j) ↔ OkA s p t ns xs cs k ∧ ∀ j, k + 1 ≤ j → j < ns.length → OkA s p t ns xs cs j := ⟨fun z => ⟨z k (Nat.le_refl _) lt, fun j a b => z j (by omega) b⟩, fun z j a b => by
      by_cases e : j = k
      · rw [e]; exact z.1
      · exact z.2 j (by omega) b⟩
    rw [split]
    simp only [stGo]
    have ih := fun w g1 g2 g3 => fit_go hx hc r (k + 1) w hr g1 g2 g3
    have sl : stLeast s p t = fun m (w : FS) => mx (mx (mx 0 (m - high t s)) (match w.lx with
      | none => 0
      | some y => y + p)) (w.gone + 1) := rfl
    have no : ∀ {w1 : FS}, stStep s p t k n xs[k] cs[k] w = some w1 → w1.lx = lxA ns xs (k + 1) → w1.gone = gnA ns xs (k + 1) → (∀ a ∈ w1.found, Arr s p t ns xs a) → OkA s p t ns xs cs k →
        (((∃ w', ((stStep s p t k n xs[k] cs[k] w).bind fun w' => stGo s p t r (xs.drop (k + 1)) (cs.drop (k + 1)) (k + 1) w') = some w') ↔ OkA s p t ns xs cs k ∧ ∀ j, k + 1 ≤ j → j < ns.length → OkA s p t ns xs cs j) ∧ ∀ w', ((stStep s p t k n xs[k] cs[k] w).bind fun w' => stGo s p t r (xs.drop (k + 1)) (cs.drop (k + 1)) (k + 1) w') = some w' → ∀ a ∈ w'.found, Arr s p t ns xs a) := fun {w1} e g1 g2 g3 g4 => by
      obtain ⟨i1, i2⟩ := ih w1 g1 g2 g3
      rw [e]
      exact ⟨⟨fun z => ⟨g4, i1.mp z⟩, fun z => i1.mpr z.2⟩, i2⟩
    have bad : stStep s p t k n xs[k] cs[k] w = none → ¬ OkA s p t ns xs cs k →
        (((∃ w', ((stStep s p t k n xs[k] cs[k] w).bind fun w' => stGo s p t r (xs.drop (k + 1)) (cs.drop (k + 1)) (k + 1) w') = some w') ↔ OkA s p t ns xs cs k ∧ ∀ j, k + 1 ≤ j → j < ns.length → OkA s p t ns xs cs j) ∧ ∀ w', ((stStep s p t k n xs[k] cs[k] w).bind fun w' => stGo s p t r (xs.drop (k + 1)) (cs.drop (k + 1)) (k + 1) w') = some w' → ∀ a ∈ w'.found, Arr s p t ns xs a) := fun e g => by
      rw [e]
      exact ⟨⟨fun z => (by obtain ⟨w', z⟩ := z; cases z), fun z => absurd z.1 g⟩, fun w' z => by cases z⟩
    obtain ⟨lo, hi_, m⟩ := n
    simp only at mk
    cases m with
    | none =>
      have l1 : lxA ns xs (k + 1) = lxA ns xs k := by simp [lxA, mk]
      have l2 : gnA ns xs (k + 1) = xs[k] := by simp only [gnA, mk]; rw [← gx]; rfl
      by_cases q : ∀ z, lxA ns xs k = some z → z < xs[k]
      · refine no (w1 := { w with gone := xs[k] }) ?_ (by rw [l1]; exact h1) (by rw [l2]) h3 ⟨fun _ => by rw [gx]; exact q, fun m hm => by rw [mk] at hm; cases hm⟩
        simp only [stStep, h1]
        cases hl : lxA ns xs k with
        | none => rfl
        | some z =>
          have := q z hl
          simp only
          rw [if_neg (by omega)]
      · refine bad ?_ (fun z => q (by have := z.1 mk; rwa [gx] at this))
        simp only [stStep, h1]
        cases hl : lxA ns xs k with
        | none => exact absurd (fun z hz => by rw [hl] at hz; cases hz) q
        | some z =>
          simp only
          rw [if_pos]
          refine Classical.byContradiction fun y => q fun z' hz' => ?_
          rw [hl] at hz'
          cases hz'
          omega
    | some m =>
      have l1 : lxA ns xs (k + 1) = some xs[k] := by simp only [lxA, mk]; rw [← gx]; rfl
      have l2 : gnA ns xs (k + 1) = gnA ns xs k := by simp [gnA, mk]
      by_cases c0 : cs[k] = 0
      · refine no (w1 := ⟨setLast w.found k, w.gone, some xs[k]⟩) (by simp only [stStep]; rw [if_pos c0]) (by rw [l1]) (by rw [l2]; exact h2) (arr_last h3) ⟨fun z => (by rw [mk] at z; cases z), fun m' hm z => absurd (by rw [gc, c0]) z⟩
      · have e1 : stLeast s p t m w = lstA s p t ns xs k m := by unfold stLeast lstA; rw [h1, h2] <;> rfl
        by_cases q : lstA s p t ns xs k m ≤ mn (m - low t s) xs[k]
        · refine no (w1 := ⟨w.found ++ [((k : Int), (k : Int), stLeast s p t m w, mn (m - low t s) xs[k])], w.gone, some xs[k]⟩) ?_ (by rw [l1]) (by rw [l2]; exact h2) (fun a ha => ?_) ⟨fun z => (by rw [mk] at z; cases z), fun m' hm _ => ?_⟩
          · simp only [stStep]
            rw [if_neg c0, if_neg (by omega)]
          · rcases List.mem_append.mp ha with q1 | q1
            · exact h3 a q1
            · rw [List.mem_singleton] at q1
              rw [q1]
              refine ⟨m, ?_, ?_, ?_⟩
              · simp only [Int.toNat_natCast]; exact mk
              · simp only [Int.toNat_natCast]; exact e1
              · simp only [Int.toNat_natCast]; rw [gx]
          · rw [mk] at hm
            cases hm
            rw [gx]
            exact q
        · refine bad ?_ (fun z => q (by have := z.2 m mk (fun y => c0 (by rw [gc] at y; exact Option.some.inj y)); rwa [gx] at this))
          simp only [stStep]
          rw [if_neg c0, if_pos (by omega)]
theorem fit_iff {ns : List Note} {xs cs : List Int} (hx : xs.length = ns.length) (hc : cs.length = ns.length) : (∃ f, staysL s p t ns xs cs = some f) ↔ ∀ j, j < ns.length → OkA s p t ns xs cs j := by
  have h := (fit_go (s := s) (p := p) (t := t) hx hc ns 0 fs0 rfl rfl rfl (fun a ha => by cases ha)).1
  rw [List.drop_zero, List.drop_zero] at h
  unfold staysL
  constructor
  · rintro ⟨f, e⟩ j hj
    cases hw : stGo s p t ns xs cs 0 fs0 with
    | none => rw [hw] at e; cases e
    | some w => exact h.mp ⟨w, hw⟩ j (Nat.zero_le _) hj
  · intro z
    obtain ⟨w, hw⟩ := h.mpr fun j _ hj => z j hj
    exact ⟨w.found, by rw [hw]; rfl⟩
theorem fit_arr {ns : List Note} {xs cs : List Int} {f : List Stay} (hx : xs.length = ns.length) (hc : cs.length = ns.length) (e : staysL s p t ns xs cs = some f) : ∀ a ∈ f, Arr s p t ns xs a := by
  have h := (fit_go (s := s) (p := p) (t := t) hx hc ns 0 fs0 rfl rfl rfl (fun a ha => by cases ha)).2
  rw [List.drop_zero, List.drop_zero] at h
  unfold staysL at e
  cases hw : stGo s p t ns xs cs 0 fs0 with
  | none => rw [hw] at e; cases e
  | some w =>
    rw [hw] at e
    cases e
    exact h w hw
end
end Pu.Q
set_option Elab.async false
set_option linter.all false
set_option maxRecDepth 100000
set_option maxHeartbeats 8000000
namespace Pu.Q
open PySem PySem.Spec PyProof.Rows L2 Pu
section
variable {s l p : Int} {t : Str} {Q : RV → Ev → Prop}
theorem Mins.mono' {ns : List Note} {q : Option Int} {xs : List Int} (M : Mins ns q xs) {i j : Nat} (h : i ≤ j) (hj : j < ns.length) : xs.getD i 0 ≤ xs.getD j 0 := by
  obtain ⟨a, ha⟩ := get_lt (xs := xs) (j := i) (by rw [M.len]; omega)
  obtain ⟨b, hb⟩ := get_lt (xs := xs) (j := j) (by rw [M.len]; omega)
  rw [getD_of ha, getD_of hb]
  exact M.mono h ha hb
theorem mk_lt {ns : List Note} {j : Nat} (h : (mkAt ns j).isSome = true) : j < ns.length := by
  refine Classical.byContradiction fun z => ?_
  unfold mkAt at h
  rw [List.getElem?_eq_none (by omega)] at h
  cases h
end
end Pu.Q
set_option Elab.async false
set_option linter.all false
set_option maxRecDepth 100000
set_option maxHeartbeats 8000000
set_option Elab.async false
set_option linter.all false
set_option maxRecDepth 100000
set_option maxHeartbeats 8000000
namespace Pu.Q
open PySem PySem.Spec PyProof.Rows L2 Pu
section
variable {s l p : Int} {t : Str} {Q : RV → Ev → Prop}
theorem cut_to {xs : List Val} {L : Nat} (h : L ≤ xs.length) : cutA xs none (some (L : Int)) = xs.take L := by
  have h1 : HT.sIx xs.length xs.length (some (L : Int)) = L := by
    unfold HT.sIx
    simp only
    rw [if_neg (by omega)]
    omega
  have h0 : HT.sIx xs.length 0 none = 0 := rfl
  unfold cutA
  rw [h0, h1, List.drop_zero, Nat.sub_zero]
end
end Pu.Q
set_option Elab.async false
set_option linter.all false
set_option maxRecDepth 100000
set_option maxHeartbeats 8000000
set_option Elab.async false
set_option linter.all false
set_option maxRecDepth 100000
set_option maxHeartbeats 8000000
set_option Elab.async false
set_option linter.all false
set_option maxRecDepth 100000
set_option maxHeartbeats 8000000
namespace Pu.Q
open PySem PySem.Spec PyProof.Rows L2 Pu
section
variable {s l p : Int} {t : Str} {Q : RV → Ev → Prop}
def firstE (ns : List Note) : Nat → Nat
  | 0 => 0
  | k + 1 => if joinsB ns (k + 1) [] = true then firstE ns k else k + 1
theorem firstE_ok {ns : List Note} : ∀ k, firstE ns k ≤ k ∧ (∀ j, firstE ns k < j → j ≤ k → joinsB ns j [] = true) ∧ joinsB ns (firstE ns k) [] = false
  | 0 => ⟨Nat.le_refl _, fun j h1 h2 => by simp only [firstE] at h1; omega, by simp [firstE, joinsB]⟩
  | k + 1 => by
    simp only [firstE]
    cases q : joinsB ns (k + 1) [] with
    | false =>
      rw [if_neg Bool.false_ne_true]
      exact ⟨Nat.le_refl _, fun j h1 h2 => by omega, q⟩
    | true =>
      rw [if_pos rfl]
      obtain ⟨a, b, c⟩ := firstE_ok (ns := ns) k
      refine ⟨by omega, fun j h1 h2 => ?_, c⟩
      by_cases e : j = k + 1
      · rw [e]; exact q
      · exact b j h1 (by omega)
theorem beg_go {ns : List Note} {ap XS : List Int} (hp : 1 ≤ p) (ha : ap = []) : ∀ (rest : List Note) (k : Nat) (w : WS) (v : FS) (out : List (Int × Option Int)), ns.drop k = rest → Eqs ns p k w v → v.lx = lxA ns XS k → v.gone = gnA ns XS k →
    (∀ m, 0 < k → mkAt ns (k - 1) = some m → w.beg = some (lstA s p t ns XS (firstE ns (k - 1)) m)) → wGo s p t ns ap rest k w = some out → XS.drop k = out.map (·.1) →
    ∀ (j : Nat) (q : Int × Option Int) (m : Int), out[j]? = some q → mkAt ns (k + j) = some m → q.2 = some (lstA s p t ns XS (firstE ns (k + j)) m) := by
  intro rest
  induction rest with
  | nil => intro k w v out _ _ _ _ _ e _ j q m hq _; simp [wGo] at e; subst e; simp at hq
  | cons n r ih =>
    intro k w v out hd R g1 g2 hb e hX
    have hi : ns[k]? = some n := by
      have : (ns.drop k)[0]? = some n := by rw [hd]; rfl
      simpa using this
    have mk := mkAt_get hi
    cases e1 : wStep s p t ns ap k n w with
    | none => rw [wGo_none e1] at e; cases e
    | some w1 =>
      rw [wGo_some e1] at e
      obtain ⟨v1, a1, a2, a3, a4, a5⟩ := eq_step hp hi R e1
      cases e2 : wGo s p t ns ap r (k + 1) w1 with
      | none => rw [e2] at e; cases e
      | some o2 =>
        rw [e2] at e
        have e : (w1.now, n.2.2.bind fun _ => w1.beg) :: o2 = out := Option.some.inj e
        subst e
        rw [List.map_cons] at hX
        have xk : XS.getD k 0 = w1.now := by
          rw [List.getD_eq_getElem?_getD]
          have : (XS.drop k)[0]? = some w1.now := by rw [hX]; rfl
          rw [List.getElem?_drop, Nat.add_zero] at this
          rw [this]; rfl
        have hX2 : XS.drop (k + 1) = o2.map (·.1) := by rw [← List.drop_drop, hX]; rfl
        have st : v1.lx = lxA ns XS (k + 1) ∧ v1.gone = gnA ns XS (k + 1) ∧ ∀ m, n.2.2 = some m → w1.beg = some (lstA s p t ns XS (firstE ns k) m) := by
          obtain ⟨lo, hi_, m⟩ := n
          simp only at mk
          cases m with
          | none =>
            simp only [stStep] at a1
            have l1 : lxA ns XS (k + 1) = lxA ns XS k := by simp [lxA, mk]
            have l2 : gnA ns XS (k + 1) = w1.now := by simp only [gnA, mk]; rw [← xk]; rfl
            rw [l1, l2]
            refine ⟨?_, ?_, fun m hm => by cases hm⟩
            · split at a1
              · cases a1; exact g1
              · split at a1
                · cases a1
                · cases a1; exact g1
            · split at a1
              · cases a1; rfl
              · split at a1
                · cases a1
                · cases a1; rfl
          | some m =>
            have l1 : lxA ns XS (k + 1) = some w1.now := by simp only [lxA, mk]; rw [← xk]; rfl
            have l2 : gnA ns XS (k + 1) = gnA ns XS k := by simp [gnA, mk]
            rw [l1, l2]
            have lv : v1.lx = some w1.now ∧ v1.gone = v.gone := by
              simp only [stStep] at a1
              split at a1
              · cases a1; exact ⟨rfl, rfl⟩
              · split at a1
                · cases a1
                · cases a1; exact ⟨rfl, rfl⟩
            refine ⟨lv.1, by rw [lv.2]; exact g2, fun m' hm' => ?_⟩
            cases hm'
            cases hj : joinsB ns k ap with
            | true =>
              rw [wStep_join hj] at e1
              split at e1
              · cases e1
              · cases e1
                obtain ⟨j1, j2, j3⟩ := joins_same hj
                have := hb m j1 (by rw [j3, mk])
                rw [this]
                congr 1
                have ej : joinsB ns k [] = true := by rw [← ha]; exact hj
                cases k with
                | zero => omega
                | succ k => simp only [firstE]; rw [if_pos ej]; rfl
            | false =>
              rw [wStep_new hj] at e1
              have ef : firstE ns k = k := by
                rw [ha] at hj
                cases k with
                | zero => rfl
                | succ k => simp only [firstE]; rw [if_neg (by rw [hj]; exact Bool.false_ne_true)]
              have bl : begX s p t ns k m w = lstA s p t ns XS k m := by
                obtain ⟨R1, R2, R3, R4⟩ := R
                unfold begX leastArr lstA
                rw [← g1, ← g2, R1]
                cases ha : absB ns k with
                | true =>
                  have r2 := R2 ha
                  cases hl : w.last with
                  | none =>
                    simp only [if_true, mx_eq]
                    omega
                  | some a =>
                    simp only [if_true, mx_eq]
                    omega
                | false =>
                  have r3 := R3 ha
                  cases hl : w.last with
                  | none =>
                    rw [hl] at r3
                    simp only [Bool.false_eq_true, if_false, mx_eq] at r3 ⊢
                    omega
                  | some a =>
                    rw [hl] at r3
                    simp only [Bool.false_eq_true, if_false, mx_eq] at r3 ⊢
                    omega
              split at e1
              · cases e1
              · split at e1
                · cases e1
                · cases e1
                  rw [ef, ← bl]
        have ih := ih (k + 1) w1 v1 o2 (by rw [← List.drop_drop, hd]; rfl) a2 st.1 st.2.1 (fun m _ hm => by
          rw [Nat.add_sub_cancel] at hm ⊢
          rw [mk] at hm
          exact st.2.2 m hm) e2 hX2
        intro j q m hq hm
        cases j with
        | zero =>
          simp only [List.getElem?_cons_zero] at hq
          cases hq
          rw [Nat.add_zero] at hm ⊢
          rw [mk] at hm
          simp only
          rw [hm]
          exact st.2.2 m hm
        | succ j =>
          have := ih j q m (by simpa using hq) (by rw [show k + 1 + j = k + (j + 1) by omega]; exact hm)
          rw [show k + 1 + j = k + (j + 1) by omega] at this
          exact this
theorem ways_beg {ns : List Note} {out : List (Int × Option Int)} {k : Nat} {m : Int} (hp : 1 ≤ p) (e : ways s p t ns [] = some out) (hk : k < ns.length) (hm : mkAt ns k = some m) : ∃ x, out[k]? = some (x, some (lstA s p t ns (out.map (·.1)) (firstE ns k) m)) := by
  obtain ⟨q, hq⟩ := get_lt (xs := out) (j := k) (by rw [ways_len hp e]; exact hk)
  have := beg_go (s := s) (t := t) (XS := out.map (·.1)) hp rfl ns 0 w0 fs0 out rfl ⟨rfl, fun z => by simp [absB] at z, fun _ => by show (-1 : Int) + 1 ≤ 0; decide, fun z => by omega⟩ rfl rfl (fun m z => by omega) e (by rw [List.drop_zero]) k q m hq (by rw [Nat.zero_add]; exact hm)
  rw [Nat.zero_add] at this
  exact ⟨q.1, by rw [hq, ← this]⟩
end
end Pu.Q
set_option Elab.async false
set_option linter.all false
set_option maxRecDepth 100000
set_option maxHeartbeats 8000000
set_option Elab.async false
set_option linter.all false
set_option maxRecDepth 100000
set_option maxHeartbeats 8000000
set_option Elab.async false
set_option linter.all false
set_option maxRecDepth 100000
set_option maxHeartbeats 8000000
set_option Elab.async false
set_option linter.all false
set_option maxRecDepth 100000
set_option maxHeartbeats 8000000
set_option Elab.async false
set_option linter.all false
set_option maxRecDepth 100000
set_option maxHeartbeats 8000000
set_option Elab.async false
set_option linter.all false
set_option maxRecDepth 100000
set_option maxHeartbeats 8000000
set_option Elab.async false
set_option linter.all false
set_option maxRecDepth 100000
set_option maxHeartbeats 8000000
namespace Pu.Q
open PySem PySem.Spec PyProof.Rows L2 Pu
section
variable {s l p : Int} {t : Str} {Q : RV → Ev → Prop}
abbrev Pln := Int × Str × Int × Int
structure PlOk (q : Pln) : Prop where
  g : 1 ≤ q.1 ∧ q.1 ≤ 60
  t : inMenu q.2.1
  f : q.1 ≤ q.2.2.1 ∧ q.2.2.1 ≤ 1000
  p : 1 ≤ q.2.2.2 ∧ q.2.2.2 ≤ 100
end
end Pu.Q
set_option Elab.async false
set_option linter.all false
set_option maxRecDepth 100000
set_option maxHeartbeats 8000000
namespace Pu.Q
open PySem PySem.Spec PyProof.Rows L2 Pu
section
variable {s l p : Int} {t : Str} {Q : RV → Ev → Prop}
theorem cut_1 {xs : List Val} : cutA xs none (some 1) = xs.take 1 := by
  cases xs with
  | nil => rfl
  | cons x r => exact cut_to (L := 1) (by simp)
end
end Pu.Q
set_option Elab.async false
set_option linter.all false
set_option maxRecDepth 100000
set_option maxHeartbeats 8000000
namespace Pu.Q
open PySem PySem.Spec PyProof.Rows L2 Pu
section
variable {s l p : Int} {t : Str} {Q : RV → Ev → Prop}
structure PlS (q : Pln) : Prop where
  g : 1 ≤ q.1 ∧ q.1 ≤ 12
  t : inMenu q.2.1
  f : q.1 ≤ q.2.2.1 ∧ q.2.2.1 ≤ 60
  p : 1 ≤ q.2.2.2 ∧ q.2.2.2 ≤ 8
theorem PlS.ok {q : Pln} (h : PlS q) : PlOk q := ⟨by have := h.g; omega, h.t, by have := h.f; omega, by have := h.p; omega⟩
end
end Pu.Q
set_option Elab.async false
set_option linter.all false
set_option maxRecDepth 100000
set_option maxHeartbeats 8000000
namespace Pu.Q
open PySem PySem.Spec PyProof.Rows L2 Pu
section
variable {s l p : Int} {t : Str} {Q : RV → Ev → Prop}
theorem bl_pairs {ns : List Note} {ap : List Int} : ∀ (rest : List Note) (i : Nat) (acc : List (Int × Int)), ns.drop i = rest → blGo ns ap rest i acc = bkGo rest ((List.range' i rest.length).map (cutOf ns ap)) i acc
  | [], i, acc, _ => rfl
  | n :: r, i, acc, hd => by
    obtain ⟨hi, hr⟩ := drop_head hd
    have ih := fun acc => bl_pairs (ap := ap) r (i + 1) acc hr
    rw [List.length_cons, List.range'_succ, List.map_cons]
    simp only [blGo, bkGo]
    cases hm : n.2.2 with
    | none => exact ih acc
    | some m =>
      simp only
      cases hj : joinsB ns i ap with
      | true =>
        have ec : cutOf ns ap i = 0 := by unfold cutOf; rw [if_pos hj]
        rw [if_pos rfl, if_pos ec]
        exact ih _
      | false =>
        have ec : ¬ cutOf ns ap i = 0 := by unfold cutOf; rw [hj]; decide
        rw [if_neg Bool.false_ne_true, if_neg ec]
        exact ih _
theorem blocks_pr {ns : List Note} {ap xs : List Int} {f : List Stay} (e : staysL s p t ns xs (cutsOf ns ap) = some f) : f.map pr = blocks ns ap := by
  unfold staysL at e
  cases hw : stGo s p t ns xs (cutsOf ns ap) 0 fs0 with
  | none => rw [hw] at e; cases e
  | some w =>
    rw [hw] at e
    cases e
    rw [st_pairs ns 0 xs (cutsOf ns ap) fs0 w hw]
    unfold blocks cutsOf
    rw [bl_pairs ns 0 [] rfl, List.range_eq_range']
    rfl
def shw (xs : List Int) (a : Stay) : Int × Int := (a.2.2.1, xs.getD a.2.1.toNat 0)
theorem filter_one {α : Type} {P : α → Bool} {a : α} : ∀ {xs : List α} {c : Nat}, xs[c]? = some a → P a = true → (∀ i b, xs[i]? = some b → P b = true → i = c) → xs.filter P = [a]
  | [], c, h, _, _ => by simp at h
  | x :: r, 0, h, ha, hu => by
    simp only [List.getElem?_cons_zero] at h
    cases h
    rw [List.filter_cons_of_pos ha]
    congr 1
    rw [List.filter_eq_nil_iff]
    intro b hb hP
    obtain ⟨i, hi⟩ := List.mem_iff_getElem?.mp hb
    have := hu (i + 1) b (by simpa using hi) hP
    omega
  | x :: r, c + 1, h, ha, hu => by
    have hx : ¬ P x = true := fun z => by have := hu 0 x rfl z; omega
    rw [List.filter_cons_of_neg hx]
    exact filter_one (c := c) (by simpa using h) ha fun i b hi hP => by have := hu (i + 1) b (by simpa using hi) hP; omega
theorem lxA_ge {ns : List Note} {q : Option Int} {xs : List Int} (M : Mins ns q xs) {b : Nat} (mb : (mkAt ns b).isSome = true) : ∀ {k : Nat}, b < k → k ≤ ns.length → ∃ z, lxA ns xs k = some z ∧ xs.getD b 0 ≤ z
  | 0, h, _ => by omega
  | k + 1, h, hk => by
    simp only [lxA]
    by_cases c : (mkAt ns k).isSome = true
    · rw [if_pos c]
      exact ⟨_, rfl, M.mono' (by omega) (by omega)⟩
    · rw [if_neg c]
      have : b ≠ k := fun z => c (by rw [← z]; exact mb)
      exact lxA_ge M mb (by omega) (by omega)
theorem gnA_ge {ns : List Note} {q : Option Int} {xs : List Int} (M : Mins ns q xs) {b : Nat} (mb : mkAt ns b = none) : ∀ {k : Nat}, b < k → k ≤ ns.length → xs.getD b 0 ≤ gnA ns xs k
  | 0, h, _ => by omega
  | k + 1, h, hk => by
    simp only [gnA]
    by_cases c : (mkAt ns k).isSome = true
    · rw [if_pos c]
      have : b ≠ k := fun z => by rw [← z, mb] at c; cases c
      exact gnA_ge M mb (by omega) (by omega)
    · rw [if_neg c]
      exact M.mono' (by omega) (by omega)
structure ShF (s p : Int) (t : Str) (ns : List Note) (xs cs : List Int) (f : List Stay) : Prop where
  M : Mins ns none xs
  hc : cs ∈ cutsL ns
  e : staysL s p t ns xs cs = some f
  h0 : ∀ n ∈ ns, 0 ≤ n.1
  hp : 1 ≤ p
variable {ns : List Note} {xs cs : List Int} {f : List Stay}
theorem ShF.at_ (F : ShF s p t ns xs cs f) {i : Nat} {a : Stay} (h : f[i]? = some a) : StayOf ns cs f a.1.toNat a ∧ lawOf f a.1.toNat = i := by
  have B := fit_bk F.hc F.e
  obtain ⟨m, hm⟩ := fit_firsts F.e a (List.mem_of_getElem? h)
  have ms : (mkAt ns a.1.toNat).isSome = true := by rw [hm]; rfl
  have lt := mk_lt ms
  obtain ⟨h1, h2, h3, h4⟩ := B.at_ i a.1 a.2.1 (by rw [List.getElem?_map, h]; rfl)
  have c := (h4 _ lt ms).mp ⟨by omega, by omega⟩
  have li := lawOf_is B F.hc lt ms
  obtain ⟨a', S⟩ := stay_end F.hc F.e lt ms
  have ei : lawOf f a.1.toNat = i := by omega
  have at' := S.at_
  rw [ei, h] at at'
  cases at'
  exact ⟨S, ei⟩
theorem ShF.in_ (F : ShF s p t ns xs cs f) {a : Stay} {i : Nat} (h : f[i]? = some a) : 0 ≤ (shw xs a).1 ∧ (shw xs a).1 ≤ xs.getD a.1.toNat 0 ∧ xs.getD a.1.toNat 0 ≤ (shw xs a).2 := by
  obtain ⟨S, _⟩ := F.at_ h
  obtain ⟨m, r1, r2, r3⟩ := fit_arr F.M.len (mem_cuts.mp F.hc).1 F.e a (List.mem_of_getElem? h)
  have ok := (fit_iff F.M.len (mem_cuts.mp F.hc).1).mp ⟨_, F.e⟩ a.1.toNat (by have := S.l1; have := S.l2; have := S.l3; omega)
  have le := ok.2 m r1 S.beg
  have b := (mn_le' (i := m - low t s) (j := xs.getD a.1.toNat 0)).2
  have z0 : 0 ≤ lstA s p t ns xs a.1.toNat m := by
    unfold lstA
    rw [mx_eq _ (gnA ns xs a.1.toNat + 1), mx_eq (mx 0 (m - high t s)), mx_eq 0]
    omega
  unfold shw
  simp only
  rw [r2]
  exact ⟨z0, by omega, F.M.mono' (by have := S.l1; have := S.l2; omega) S.l3⟩
theorem ShF.apart (F : ShF s p t ns xs cs f) {a b : Stay} {i j : Nat} (h : f[i]? = some a) (h' : f[j]? = some b) (lt : i < j) : (shw xs a).2 + p ≤ (shw xs b).1 := by
  obtain ⟨S, e1⟩ := F.at_ h
  obtain ⟨S', e2⟩ := F.at_ h'
  have B := fit_bk F.hc F.e
  obtain ⟨m, hm⟩ := S.mb
  have mb : (mkAt ns a.2.1.toNat).isSome = true := by rw [hm]; rfl
  obtain ⟨m', r1, r2, r3⟩ := fit_arr F.M.len (mem_cuts.mp F.hc).1 F.e b (List.mem_of_getElem? h')
  have mb' : (mkAt ns b.1.toNat).isSome = true := by rw [r1]; rfl
  obtain ⟨h1, h2, h3, h4⟩ := B.at_ i a.1 a.2.1 (by rw [List.getElem?_map, h]; rfl)
  obtain ⟨g1, g2, g3, g4⟩ := B.at_ j b.1 b.2.1 (by rw [List.getElem?_map, h']; rfl)
  have c1 := (h4 _ S.l3 mb).mp ⟨by omega, by omega⟩
  have c2 := (g4 _ (mk_lt mb') mb').mp ⟨by omega, by omega⟩
  have ab : a.2.1.toNat < b.1.toNat := by
    refine Classical.byContradiction fun z => ?_
    have := cutN_mono (ns := ns) (cs := cs) (show b.1.toNat + 1 ≤ a.2.1.toNat + 1 by omega)
    omega
  obtain ⟨z, z1, z2⟩ := lxA_ge F.M mb ab (by have := mk_lt mb'; omega)
  have : z + p ≤ lstA s p t ns xs b.1.toNat m' := by
    unfold lstA
    rw [z1, mx_eq _ (gnA ns xs b.1.toNat + 1), mx_eq (mx 0 (m' - high t s))]
    simp only
    omega
  unfold shw
  simp only
  rw [r2]
  omega
theorem ShF.seen (F : ShF s p t ns xs cs f) (hs : 0 < s) (ht : inMenu t) (hm : ∀ n ∈ ns, ∀ m, n.2.2 = some m → m % s = 0) {j : Nat} (hj : j < ns.length) :
    (((f.map (shw xs)).filter fun q => decide (q.1 ≤ xs.getD j 0 ∧ xs.getD j 0 ≤ q.2)).map fun q => markV t s q.1) = (match mkAt ns j with
      | none => []
      | some m => [m]) := by
  have cl := (mem_cuts.mp F.hc).1
  cases hk : mkAt ns j with
  | none =>
    simp only [List.map_eq_nil_iff, List.filter_eq_nil_iff]
    intro q hq
    obtain ⟨a, ha, rfl⟩ := List.mem_map.mp hq
    obtain ⟨i, hi⟩ := List.mem_iff_getElem?.mp ha
    obtain ⟨S, _⟩ := F.at_ hi
    obtain ⟨m, r1, r2, r3⟩ := fit_arr F.M.len cl F.e a ha
    have s1 := S.l1
    have s2 := S.l2
    have s3 := S.l3
    have out : j < a.1.toNat ∨ a.2.1.toNat < j := by
      refine Classical.byContradiction fun z => ?_
      have : mkAt ns j = mkAt ns a.1.toNat := mk_same (by omega) fun i i1 i2 => S.joins F.hc i i1 (by omega)
      rw [hk, r1] at this
      cases this
    intro z
    have z := of_decide_eq_true z
    unfold shw at z
    simp only at z
    rcases out with o | o
    · have := gnA_ge F.M hk o (by omega)
      have : gnA ns xs a.1.toNat + 1 ≤ lstA s p t ns xs a.1.toNat m := by
        unfold lstA
        rw [mx_eq _ (gnA ns xs a.1.toNat + 1)]
        omega
      rw [r2] at z
      omega
    · obtain ⟨m', hm'⟩ := S.mb
      obtain ⟨y, y1, y2⟩ := lxA_ge F.M (show (mkAt ns a.2.1.toNat).isSome = true by rw [hm']; rfl) o (by omega)
      have ok := (fit_iff F.M.len cl).mp ⟨_, F.e⟩ j hj
      have := ok.1 hk y y1
      omega
  | some m =>
    obtain ⟨a, S⟩ := stay_end F.hc F.e hj (by rw [hk]; rfl)
    have s1 := S.l1
    have s2 := S.l2
    have s3 := S.l3
    obtain ⟨i1, i2, i3⟩ := F.in_ S.at_
    have in1 : xs.getD a.1.toNat 0 ≤ xs.getD j 0 := F.M.mono' s1 hj
    have in2 : xs.getD j 0 ≤ xs.getD a.2.1.toNat 0 := F.M.mono' s2 s3
    have e2 : (shw xs a).2 = xs.getD a.2.1.toNat 0 := rfl
    have one := filter_one (P := fun q : Int × Int => decide (q.1 ≤ xs.getD j 0 ∧ xs.getD j 0 ≤ q.2)) (xs := f.map (shw xs)) (c := lawOf f j) (a := shw xs a) (by rw [List.getElem?_map, S.at_]; rfl) (decide_eq_true ⟨by omega, by omega⟩) fun i b hb hP => by
      have hP := of_decide_eq_true hP
      rw [List.getElem?_map] at hb
      cases hq : f[i]? with
      | none => rw [hq] at hb; cases hb
      | some a' =>
        rw [hq] at hb
        cases hb
        refine Classical.byContradiction fun ne => ?_
        by_cases lt : i < lawOf f j
        · have := F.apart hq S.at_ lt
          have := F.hp
          omega
        · have := F.apart S.at_ hq (by omega)
          have := F.hp
          omega
    rw [one]
    simp only [List.map_cons, List.map_nil]
    congr 1
    obtain ⟨m', r1, r2, r3⟩ := fit_arr F.M.len cl F.e a (List.mem_of_getElem? S.at_)
    have : mkAt ns j = mkAt ns a.1.toNat := mk_same s1 fun i i1 i2 => S.joins F.hc i i1 (by omega)
    rw [hk, r1] at this
    cases this
    have ok := (fit_iff F.M.len cl).mp ⟨_, F.e⟩ a.1.toNat (by omega)
    have le := ok.2 m r1 S.beg
    have mm : m % s = 0 := by
      have := mkAt_of hj
      rw [hk] at this
      exact hm _ (List.getElem_mem hj) m this.symm
    have lo : m - high t s ≤ lstA s p t ns xs a.1.toNat m := by
      unfold lstA
      rw [mx_eq _ (gnA ns xs a.1.toNat + 1), mx_eq (mx 0 (m - high t s)), mx_eq 0]
      omega
    have hi := (mn_le' (i := m - low t s) (j := xs.getD a.1.toNat 0)).1
    show markV t s a.2.2.1 = m
    rw [mark_iff hs ht mm, r2]
    exact ⟨lo, by omega⟩
end
end Pu.Q
set_option Elab.async false
set_option linter.all false
set_option maxRecDepth 100000
set_option maxHeartbeats 8000000
namespace Pu.Q
open PySem PySem.Spec PyProof.Rows L2 Pu
section
variable {s l p : Int} {t : Str} {Q : RV → Ev → Prop}
theorem Ok.compM {α : Type} {ws : List Nat} {mt : Val → M Unit} {mc : M Bool} {me : M RV} {e : Ev} (g : α → Val) (q : α → Bool) (f : α → Val) : ∀ {xs : List α} {acc : List Val}, acc.length + xs.length ≤ sizeLine →
    (∀ x ∈ xs, Ok (mt (g x)) e fun _ e1 => Ok mc e1 fun b e2 => b = q x ∧ (q x = true → Ok me e2 fun y e3 => Ok (M.dt y) e3 fun w e4 => w = f x ∧ wipeE e4 ws = e) ∧ (q x = false → wipeE e2 ws = e)) →
    Ok (compS ws mt mc me (xs.map g) acc) e fun r e' => r = acc ++ (xs.filter q).map f ∧ e' = e
  | [], acc, _, _ => by
    rw [List.map_nil, ok_compS0]
    simp
  | v :: vs, acc, hl, st => by
    rw [List.length_cons] at hl
    rw [List.map_cons, ok_compSC]
    refine Ok.mono (st v List.mem_cons_self) fun _ e1 h1 => Ok.mono h1 ?_
    rintro b e2 ⟨rfl, h2, h3⟩
    refine ⟨fun hb => Ok.mono (h2 hb) fun x e3 h4 => Ok.mono h4 ?_, fun hb => ?_⟩
    · rintro w e4 ⟨rfl, h5⟩
      refine ⟨by omega, ?_⟩
      rw [h5]
      refine Ok.mono (Ok.compM g q f (by simp; omega) fun u hu => st u (List.mem_cons_of_mem _ hu)) ?_
      rintro r e' ⟨rfl, rfl⟩
      refine ⟨?_, rfl⟩
      rw [List.filter_cons, if_pos hb, List.map_cons, List.append_assoc]
      rfl
    · have hb' : q v = false := by simpa using hb
      rw [h3 hb']
      refine Ok.mono (Ok.compM g q f (by omega) fun u hu => st u (List.mem_cons_of_mem _ hu)) ?_
      rintro r e' ⟨rfl, rfl⟩
      refine ⟨?_, rfl⟩
      rw [List.filter_cons, if_neg hb]
theorem Ok.compN {α : Type} {ws : List Nat} {mt : Val → M Unit} {me : M RV} {e : Ev} (g : α → Val) (f : α → Val) {xs : List α} (hl : xs.length ≤ sizeLine)
    (st : ∀ x ∈ xs, Ok (mt (g x)) e fun _ e1 => Ok me e1 fun y e3 => Ok (M.dt y) e3 fun w e4 => w = f x ∧ wipeE e4 ws = e) :
    Ok (compS ws mt mYes me (xs.map g) []) e fun r e' => r = xs.map f ∧ e' = e := by
  refine Ok.mono (Ok.compM g (fun _ => true) f (acc := []) (by simpa using hl) fun x hx => Ok.mono (st x hx) fun _ e1 h => ?_) ?_
  · exact ⟨rfl, fun _ => h, fun z => by cases z⟩
  · rintro r e' ⟨rfl, rfl⟩
    rw [List.filter_eq_self.mpr fun _ _ => rfl]
    exact ⟨rfl, rfl⟩
theorem zipM {α β : Type} {f : α → Val} {g : β → Val} : ∀ {xs : List α} {ys : List β}, zipV (xs.map f) (ys.map g) = (xs.zip ys).map fun q => .tup [f q.1, g q.2]
  | [], _ => by simp [zipV]
  | _ :: _, [] => by simp [zipV]
  | x :: xs, y :: ys => by rw [List.map_cons, List.map_cons, zipV, zipM, List.zip_cons_cons, List.map_cons]
def inB (q : Int × Note) : Bool := decide (q.2.1 ≤ q.1 ∧ q.1 ≤ q.2.2.1)
def leB (q : Int × Int) : Bool := decide (q.1 ≤ q.2)
def amB (ns : List Note) (is : List Int) : Bool := decide (is.length = ns.length) && (is.zip ns).all inB && (is.zip (is.drop 1)).all leB
theorem Ok.compB {α : Type} {ws : List Nat} {mt : Val → M Unit} {me : M RV} {e : Ev} (g : α → Val) (q : α → Bool) {xs : List α} {P : List Val → Ev → Prop} (hl : xs.length ≤ sizeLine)
    (st : ∀ x ∈ xs, Ok (mt (g x)) e fun _ e1 => Ok me e1 fun y e3 => Ok (M.dt y) e3 fun w e4 => w = .bl (q x) ∧ wipeE e4 ws = e) (hP : P ((xs.map q).map .bl) e) :
    Ok (compS ws mt mYes me (xs.map g) []) e P := by
  refine Ok.mono (Ok.compN g (fun x => .bl (q x)) hl st) ?_
  rintro r e' ⟨rfl, rfl⟩
  rw [List.map_map] at hP
  exact hP
theorem allB {α : Type} {q : α → Bool} {xs : List α} {e : Ev} : Ok (fAll [.lst ((xs.map q).map .bl)]) e Q ↔ Q (.dat (.bl (xs.all q))) e := by
  rw [ok_all, List.all_map]
  rfl
theorem cut_I1 {is : List Int} : cutA (is.map Val.int) (some 1) none = (is.drop 1).map .int := by
  cases is with
  | nil => rfl
  | cons x r =>
    have e1 : HT.sIx ((x :: r).map Val.int).length 0 (some 1) = 1 := by
      unfold HT.sIx
      rw [List.length_map, List.length_cons]
      simp
    have e2 : HT.sIx ((x :: r).map Val.int).length ((x :: r).map Val.int).length none = ((x :: r).map Val.int).length := rfl
    unfold cutA
    rw [e1, e2, ← List.map_drop, List.take_of_length_le]
    rw [List.length_map, List.length_drop, List.length_map]
    exact Nat.le_refl _
theorem r_are_minutes {ns : List Note} {is : List Int} (hl : ns.length ≤ 1000) (hi : is.length ≤ 1000) : Ok den_are_minutes [.dat (notesV ns), .dat (.tup (is.map .int))] Q ↔ Q (.dat (.bl (amB ns is))) [.un, .un] := by
  refine ok_det ?_
  have sl := sizeLine_eq
  by_cases h : is.length = ns.length
  · have h1 : decide ((is.length : Int) = (ns.length : Int)) = true := decide_eq_true (by omega)
    have e0 : amB ns is = ((is.zip ns).all inB && (is.zip (is.drop 1)).all leB) := by
      unfold amB
      rw [decide_eq_true h, Bool.true_and]
    rw [e0]
    have z1 : zipV (is.map .int) (ns.map nV) = (is.zip ns).map fun q => .tup [.int q.1, nV q.2] := zipM
    have z2 : zipV (is.map .int) (cutA (is.map .int) (some 1) none) = (is.zip (is.drop 1)).map fun q => .tup [.int q.1, .int q.2] := by
      rw [cut_I1]
      exact zipM
    have f0 := fun (e : Ev) (Q : RV → Ev → Prop) => allB (Q := Q) (e := e) (q := fun _ : Int => true) (xs := is)
    have f1 := fun (e : Ev) (Q : RV → Ev → Prop) => allB (Q := Q) (e := e) (q := inB) (xs := is.zip ns)
    have f2 := fun (e : Ev) (Q : RV → Ev → Prop) => allB (Q := Q) (e := e) (q := leB) (xs := is.zip (is.drop 1))
    have t0 : is.all (fun _ => true) = true := List.all_eq_true.mpr fun _ _ => rfl
    rw [t0] at f0
    generalize hA : (is.zip ns).all inB = A at f1 ⊢
    generalize hB : (is.zip (is.drop 1)).all leB = B at f2 ⊢
    simp_arith [↓den_are_minutes, ↓b_are_minutes, ↓ok_lenN, ↓List.length_map, ↓i_tup, ↓h1, ↓Bool.not_true]
    refine Ok.compB .int (fun _ => true) (by omega) (fun x hx => ?_) ?_
    · simp_arith [↓r_is_integer]
      done
    simp_arith [↓f0, ↓ok_zip, ↓seqV_T, ↓seqV_N, ↓z1]
    refine Ok.compB (fun q : Int × Note => .tup [.int q.1, nV q.2]) inB (by rw [List.length_zip]; omega) (fun x hx => ?_) ?_
    · unfold nV inB
      simp_arith
      by_cases c1 : x.2.1 ≤ x.1
      · refine ⟨fun _ => ?_, fun z => absurd c1 z⟩
        simp [c1]
      · refine ⟨fun z => absurd z c1, fun _ => ?_⟩
        simp [c1]
    simp_arith [↓f1]
    refine ⟨fun z => ?_, fun z => ?_⟩
    · rw [show A = false by simpa using z, Bool.false_and]
    have z' : A = true := by simpa using z
    simp_arith [↓ok_zip, ↓seqV_T, ↓ok_sl, ↓ok_slT, ↓z2]
    refine Ok.compB (fun q : Int × Int => .tup [.int q.1, .int q.2]) leB (by rw [List.length_zip]; omega) (fun x hx => ?_) ?_
    · unfold leB
      simp_arith
      done
    rw [z']
    simp_arith [↓f2]
    done
  · have h1 : decide ((is.length : Int) = (ns.length : Int)) = false := decide_eq_false (by omega)
    have e0 : amB ns is = false := by
      unfold amB
      rw [decide_eq_false h, Bool.false_and, Bool.false_and]
    simp_arith [↓den_are_minutes, ↓b_are_minutes, ↓ok_lenN, ↓List.length_map, ↓i_tup, ↓h1, ↓e0]
    done
def asGo (p : Int) : Int → List (Int × Int) → Bool
  | _, [] => true
  | least, q :: r => decide (least ≤ q.1 ∧ q.1 ≤ q.2) && asGo p (q.2 + p) r
theorem as_loop {P : Out → Ev → Prop} {x1 : Slot} : ∀ (qs : List (Int × Int)) (least : Int) (x3 : Slot),
    (asGo p least qs = true → ∀ least x3, P .nx [.dat (rV s l p t), x1, .dat (.int least), x3]) →
    (asGo p least qs = false → ∀ x2 x3, P (.rt (.dat (.bl false))) [.dat (rV s l p t), x1, x2, x3]) →
    Ok ((loopS (gN 3) (mSeq (mIf (mOr (mNot (mTru (mCB (fIsi isT) (mCons (mVar 3) (mCons (mV (.ty "tuple")) mNil))))) (mOr (mTru (mBin oNe (mCB fLen (mCons (mVar 3) mNil)) (mV (.int 2)))) (mOr (mNot (mTru (mCall [false] den_is_integer (mCons (mBin oIx (mVar 3) (mV (.int 0))) mNil) []))) (mNot (mTru (mCall [false] den_is_integer (mCons (mBin oIx (mVar 3) (mV (.int 1))) mNil) [])))))) (mRet (mV (.bl false))) mSkip) (mSeq (mIf (mNot (mTru (mChain oLe oLe (mVar 2) (mBin oIx (mVar 3) (mV (.int 0))) (mBin oIx (mVar 3) (mV (.int 1)))))) (mRet (mV (.bl false))) mSkip) (mSet 2 (mBin oAdd (mBin oIx (mVar 3) (mV (.int 1))) (mProp "Rule" den_Rule__pause (mVar 0))))))) (qs.map blV)) [.dat (rV s l p t), x1, .dat (.int least), x3] P
  | [], least, x3, h1, h2 => h1 rfl least x3
  | q :: r, least, x3, h1, h2 => by
    have ih := fun h1 h2 x3 => as_loop (P := P) (x1 := x1) r (q.2 + p) x3 h1 h2
    have rp := fun Q => r_Rule__pause (s := s) (l := l) (p := p) (t := t) (Q := Q)
    have e2 : blV q = .tup [.int q.1, .int q.2] := rfl
    simp only [asGo] at h1 h2
    rw [List.map_cons, e2, ok_loopC]
    generalize hR : (loopS (gN 3) (mSeq (mIf (mOr (mNot (mTru (mCB (fIsi isT) (mCons (mVar 3) (mCons (mV (.ty "tuple")) mNil))))) (mOr (mTru (mBin oNe (mCB fLen (mCons (mVar 3) mNil)) (mV (.int 2)))) (mOr (mNot (mTru (mCall [false] den_is_integer (mCons (mBin oIx (mVar 3) (mV (.int 0))) mNil) []))) (mNot (mTru (mCall [false] den_is_integer (mCons (mBin oIx (mVar 3) (mV (.int 1))) mNil) [])))))) (mRet (mV (.bl false))) mSkip) (mSeq (mIf (mNot (mTru (mChain oLe oLe (mVar 2) (mBin oIx (mVar 3) (mV (.int 0))) (mBin oIx (mVar 3) (mV (.int 1)))))) (mRet (mV (.bl false))) mSkip) (mSet 2 (mBin oAdd (mBin oIx (mVar 3) (mV (.int 1))) (mProp "Rule" den_Rule__pause (mVar 0))))))) = R at ih ⊢
    by_cases c : least ≤ q.1 ∧ q.1 ≤ q.2
    · rw [decide_eq_true c, Bool.true_and] at h1 h2
      simp_arith [↓i_tup, ↓r_is_integer, ↓rp, ↓c.1, ↓c.2]
      exact ih h1 h2 _
    · rw [decide_eq_false c, Bool.false_and] at h1 h2
      have h2 := h2 rfl
      simp_arith [↓i_tup, ↓r_is_integer, ↓rp]
      exact ⟨fun c1 => ⟨fun _ => h2 _ _, fun z => absurd ⟨c1, by simpa using z⟩ c⟩, fun _ => h2 _ _⟩
theorem r_are_stays {qs : List (Int × Int)} (hl : qs.length ≤ 1000) : Ok den_are_stays [.dat (rV s l p t), .dat (.tup (qs.map blV))] Q ↔ Q (.dat (.bl (asGo p 0 qs))) [.un, .un] := by
  refine ok_det ?_
  have lp := fun (P : Out → Ev → Prop) h1 h2 x3 => as_loop (s := s) (l := l) (p := p) (t := t) (P := P) (x1 := .dat (.tup (qs.map blV))) qs 0 x3 h1 h2
  generalize hR : (loopS (gN 3) (mSeq (mIf (mOr (mNot (mTru (mCB (fIsi isT) (mCons (mVar 3) (mCons (mV (.ty "tuple")) mNil))))) (mOr (mTru (mBin oNe (mCB fLen (mCons (mVar 3) mNil)) (mV (.int 2)))) (mOr (mNot (mTru (mCall [false] den_is_integer (mCons (mBin oIx (mVar 3) (mV (.int 0))) mNil) []))) (mNot (mTru (mCall [false] den_is_integer (mCons (mBin oIx (mVar 3) (mV (.int 1))) mNil) [])))))) (mRet (mV (.bl false))) mSkip) (mSeq (mIf (mNot (mTru (mChain oLe oLe (mVar 2) (mBin oIx (mVar 3) (mV (.int 0))) (mBin oIx (mVar 3) (mV (.int 1)))))) (mRet (mV (.bl false))) mSkip) (mSet 2 (mBin oAdd (mBin oIx (mVar 3) (mV (.int 1))) (mProp "Rule" den_Rule__pause (mVar 0))))))) = R at lp
  generalize hA : asGo p 0 qs = A at lp ⊢
  simp_arith [↓den_are_stays, ↓b_are_stays, ↓i_tup, ↓ok_items]
  rw [hR]
  refine lp _ ?_ ?_ _
  · rintro rfl least x3
    simp_arith
    done
  · rintro rfl x2 x3
    simp_arith
    done
def hereL (s : Int) (t : Str) (qs : List (Int × Int)) (x : Int) : List Int := (qs.filter fun q => decide (q.1 ≤ x ∧ x ≤ q.2)).map fun q => markV t s q.1
def wantL : Option Int → List Int
  | none => []
  | some m => [m]
def dfB (s : Int) (t : Str) (qs : List (Int × Int)) (z : Int × Note) : Bool := decide (hereL s t qs z.1 = wantL z.2.2.2)
theorem veqI : ∀ {xs ys : List Int}, veq (.lst (xs.map .int)) (.lst (ys.map .int)) = decide (xs = ys) := by
  intro xs ys
  have key : ∀ (xs ys : List Int), PyData.eqvAll (toPs (xs.map .int)) (toPs (ys.map .int)) = decide (xs = ys) := by
    intro xs
    induction xs with
    | nil => intro ys; cases ys <;> rfl
    | cons x r ih =>
      intro ys
      cases ys with
      | nil => rfl
      | cons y q =>
        show (x == y && PyData.eqvAll (toPs (r.map .int)) (toPs (q.map .int))) = _
        rw [ih q]
        by_cases c : x = y
        · subst c
          simp
        · simp [c]
  exact key xs ys
theorem ok_neI {xs ys : List Int} {e : Ev} : Ok (oNe (.lst (xs.map .int)) (.lst (ys.map .int))) e Q ↔ Q (.dat (.bl (!decide (xs = ys)))) e := by
  show Ok (if (dOk (.lst (xs.map .int)) && dOk (.lst (ys.map .int))) = true then _ else _) e Q ↔ _
  rw [dOk_is.mpr trivial, dOk_is.mpr trivial, if_pos (show (true && true) = true from rfl), veqI]
  exact ok_mV
theorem df_c {qs : List (Int × Int)} {x : Int} {x1 x2 x5 x6 x7 x8 : Slot} {P : List Val → Ev → Prop} (hs : 0 < s) (hl : qs.length ≤ 1000)
    (hP : P ((hereL s t qs x).map .int) [.dat (rV s l p t), x1, x2, .dat (.tup (qs.map blV)), .dat (.int x), x5, x6, x7, x8, .un, .un]) :
    Ok ((compS [9, 10] (gT 2 (gsC (gN 9) (gsC (gN 10) gsN))) (mTru (mChain oLe oLe (mVar 9) (mVar 4) (mVar 10))) (mCall [false, false] den_mark_at (mCons (mVar 0) (mCons (mVar 9) mNil)) [])) (qs.map blV) []) [.dat (rV s l p t), x1, x2, .dat (.tup (qs.map blV)), .dat (.int x), x5, x6, x7, x8, .un, .un] P := by
  have sl := sizeLine_eq
  refine Ok.mono (Ok.compM blV (fun q => decide (q.1 ≤ x ∧ x ≤ q.2)) (fun q => .int (markV t s q.1)) (acc := []) (by simp; omega) fun q hq => ?_) ?_
  · have rm := fun (a : Int) Q => r_mark_at (s := s) (l := l) (p := p) (t := t) (a := a) (Q := Q) hs
    have e2 : blV q = .tup [.int q.1, .int q.2] := rfl
    rw [e2]
    generalize Val.tup (qs.map blV) = SV
    simp_arith [↓rm]
    by_cases c1 : q.1 ≤ x
    · refine ⟨fun _ => ?_, fun z => absurd c1 z⟩
      simp [c1]
    · refine ⟨fun z => absurd z c1, fun _ => ?_⟩
      simp [c1]
  · rintro r e' ⟨rfl, rfl⟩
    unfold hereL at hP
    rw [List.map_map] at hP
    exact hP
theorem df_loop {qs : List (Int × Int)} {x1 x2 : Slot} {P : Out → Ev → Prop} (hs : 0 < s) (hl : qs.length ≤ 1000) : ∀ (zs : List (Int × Note)) (x4 x5 x6 x7 x8 : Slot),
    (zs.all (dfB s t qs) = true → ∀ x4 x5 x6 x7 x8, P .nx [.dat (rV s l p t), x1, x2, .dat (.tup (qs.map blV)), x4, x5, x6, x7, x8, .un, .un]) →
    (zs.all (dfB s t qs) = false → ∀ x4 x5 x6 x7 x8, P (.rt (.dat (.bl false))) [.dat (rV s l p t), x1, x2, .dat (.tup (qs.map blV)), x4, x5, x6, x7, x8, .un, .un]) →
    Ok ((loopS (gT 2 (gsC (gN 4) (gsC (gT 3 (gsC (gN 6) (gsC (gN 7) (gsC (gN 8) gsN)))) gsN))) (mSeq (mSet 5 (mComp [9, 10] (mItems (mVar 3)) (gT 2 (gsC (gN 9) (gsC (gN 10) gsN))) (mTru (mChain oLe oLe (mVar 9) (mVar 4) (mVar 10))) (mCall [false, false] den_mark_at (mCons (mVar 0) (mCons (mVar 9) mNil)) []))) (mIf (mTru (mBin oNe (mVar 5) (mIfE (mTru (mBin oIs (mVar 8) (mV .non))) (mLst mNil) (mLst (mCons (mVar 8) mNil))))) (mRet (mV (.bl false))) mSkip))) (zs.map fun q => .tup [.int q.1, nV q.2])) [.dat (rV s l p t), x1, x2, .dat (.tup (qs.map blV)), x4, x5, x6, x7, x8, .un, .un] P
  | [], _, _, _, _, _, h1, _ => h1 rfl _ _ _ _ _
  | z :: r, x4, x5, x6, x7, x8, h1, h2 => by
    have ih := fun h1 h2 x4 x5 x6 x7 x8 => df_loop (P := P) (x1 := x1) (x2 := x2) hs hl r x4 x5 x6 x7 x8 h1 h2
    have cc := fun (P : List Val → Ev → Prop) x5 x6 x7 x8 => df_c (l := l) (p := p) (t := t) (P := P) (x := z.1) (x1 := x1) (x2 := x2) (x5 := x5) (x6 := x6) (x7 := x7) (x8 := x8) hs hl
    have ne0 := fun (e : Ev) (Q : RV → Ev → Prop) => ok_neI (e := e) (Q := Q) (xs := hereL s t qs z.1) (ys := [])
    have ne1 := fun (m : Int) (e : Ev) (Q : RV → Ev → Prop) => ok_neI (e := e) (Q := Q) (xs := hereL s t qs z.1) (ys := [m])
    rw [show ([] : List Int).map Val.int = [] from rfl] at ne0
    simp only [List.map_cons, List.map_nil] at ne1
    simp only [List.all_cons] at h1 h2
    rw [List.map_cons, ok_loopC]
    unfold nV
    generalize hR : (loopS (gT 2 (gsC (gN 4) (gsC (gT 3 (gsC (gN 6) (gsC (gN 7) (gsC (gN 8) gsN)))) gsN))) (mSeq (mSet 5 (mComp [9, 10] (mItems (mVar 3)) (gT 2 (gsC (gN 9) (gsC (gN 10) gsN))) (mTru (mChain oLe oLe (mVar 9) (mVar 4) (mVar 10))) (mCall [false, false] den_mark_at (mCons (mVar 0) (mCons (mVar 9) mNil)) []))) (mIf (mTru (mBin oNe (mVar 5) (mIfE (mTru (mBin oIs (mVar 8) (mV .non))) (mLst mNil) (mLst (mCons (mVar 8) mNil))))) (mRet (mV (.bl false))) mSkip))) = R at ih ⊢
    generalize hC : (compS [9, 10] (gT 2 (gsC (gN 9) (gsC (gN 10) gsN))) (mTru (mChain oLe oLe (mVar 9) (mVar 4) (mVar 10))) (mCall [false, false] den_mark_at (mCons (mVar 0) (mCons (mVar 9) mNil)) [])) = C at cc
    generalize hS : Val.tup (qs.map blV) = SV at ih cc h1 h2 ⊢
    rw [← hS]
    simp_arith
    rw [hC, hS]
    refine cc _ _ _ _ _ ?_
    unfold dfB at h1 h2
    generalize hereL s t qs z.1 = L at ne0 ne1 h1 h2 ⊢
    cases hm : z.2.2.2 with
    | none =>
      rw [hm] at h1 h2
      unfold wantL at h1 h2
      unfold optV
      by_cases c : L = []
      · rw [decide_eq_true c, Bool.true_and] at h1 h2
        rw [decide_eq_true c] at ne0
        simp_arith [↓ne0, ↓Bool.not_true]
        exact ih h1 h2 _ _ _ _ _
      · rw [decide_eq_false c, Bool.false_and] at h1 h2
        have h2 := h2 rfl
        rw [decide_eq_false c] at ne0
        simp_arith [↓ne0, ↓Bool.not_false]
        exact h2 _ _ _ _ _
    | some m =>
      rw [hm] at h1 h2
      have ne1 := ne1 m
      unfold wantL at h1 h2
      unfold optV
      by_cases c : L = [m]
      · rw [decide_eq_true c, Bool.true_and] at h1 h2
        rw [decide_eq_true c] at ne1
        simp_arith [↓ne1, ↓Bool.not_true]
        exact ih h1 h2 _ _ _ _ _
      · rw [decide_eq_false c, Bool.false_and] at h1 h2
        have h2 := h2 rfl
        rw [decide_eq_false c] at ne1
        simp_arith [↓ne1, ↓Bool.not_false]
        exact h2 _ _ _ _ _
theorem r_do_fit {ns : List Note} {is : List Int} {qs : List (Int × Int)} (hs : 0 < s) (h0 : ns ≠ []) (hl : ns.length ≤ 40) (hn : ∀ n ∈ ns, noteB s n = true) (hi : is.length ≤ 1000) (hq : qs.length ≤ 1000) :
    Ok den_do_fit [.dat (rV s l p t), .dat (notesV ns), .dat (.tup (is.map .int)), .dat (.tup (qs.map blV))] Q ↔ Q (.dat (.bl (amB ns is && asGo p 0 qs && (is.zip ns).all (dfB s t qs)))) [.un, .un, .un, .un] := by
  refine ok_det ?_
  have rc := fun Q => r_check_notes (s := s) (l := l) (p := p) (t := t) (Q := Q) hs h0 hl hn
  have ra := fun Q => r_are_minutes (Q := Q) (ns := ns) (is := is) (by omega) hi
  have rb := fun Q => r_are_stays (s := s) (l := l) (p := p) (t := t) (Q := Q) hq
  have z1 : zipV (is.map .int) (ns.map nV) = (is.zip ns).map fun q => .tup [.int q.1, nV q.2] := zipM
  have lp := fun (P : Out → Ev → Prop) x1 x2 x4 x5 x6 x7 x8 h1 h2 => df_loop (s := s) (l := l) (p := p) (t := t) (P := P) (x1 := x1) (x2 := x2) hs hq (is.zip ns) x4 x5 x6 x7 x8 h1 h2
  have sv : seqV (notesV ns) = some (ns.map nV) := rfl
  generalize hR : (loopS (gT 2 (gsC (gN 4) (gsC (gT 3 (gsC (gN 6) (gsC (gN 7) (gsC (gN 8) gsN)))) gsN))) (mSeq (mSet 5 (mComp [9, 10] (mItems (mVar 3)) (gT 2 (gsC (gN 9) (gsC (gN 10) gsN))) (mTru (mChain oLe oLe (mVar 9) (mVar 4) (mVar 10))) (mCall [false, false] den_mark_at (mCons (mVar 0) (mCons (mVar 9) mNil)) []))) (mIf (mTru (mBin oNe (mVar 5) (mIfE (mTru (mBin oIs (mVar 8) (mV .non))) (mLst mNil) (mLst (mCons (mVar 8) mNil))))) (mRet (mV (.bl false))) mSkip))) = R at lp
  generalize amB ns is = A at ra ⊢
  generalize asGo p 0 qs = B at rb ⊢
  generalize (is.zip ns).all (dfB s t qs) = D at lp ⊢
  generalize (is.zip ns).map (fun q => Val.tup [.int q.1, nV q.2]) = ZV at z1 lp
  generalize notesV ns = NV at rc ra sv ⊢
  generalize Val.tup (qs.map blV) = SV at rb lp ⊢
  cases A with
  | false =>
    simp_arith [↓den_do_fit, ↓b_do_fit, ↓rc, ↓ra, ↓Bool.false_and]
    done
  | true =>
    cases B with
    | false =>
      simp_arith [↓den_do_fit, ↓b_do_fit, ↓rc, ↓ra, ↓rb, ↓Bool.false_and, ↓Bool.true_and]
      done
    | true =>
      simp_arith [↓den_do_fit, ↓b_do_fit, ↓rc, ↓ra, ↓rb, ↓Bool.true_and, ↓ok_zip, ↓seqV_T, ↓sv, ↓z1]
      rw [hR]
      refine lp _ _ _ _ _ _ _ _ ?_ ?_
      · rintro rfl _ _ _ _ _
        simp_arith
        done
      · rintro rfl _ _ _ _ _
        simp_arith
        done
end
end Pu.Q
set_option Elab.async false
set_option linter.all false
set_option maxRecDepth 100000
set_option maxHeartbeats 8000000
namespace Pu.Q
open PySem PySem.Spec PyProof.Rows L2 Pu
section
variable {s l p : Int} {t : Str} {Q : RV → Ev → Prop}
theorem first_of {ns : List Note} {k : Nat} (hk : k < ns.length) (h : (cutsOf ns [])[k]? ≠ some 0) : firstE ns k = k := by
  obtain ⟨h1, h2, h3⟩ := firstE_ok (ns := ns) k
  refine Classical.byContradiction fun z => ?_
  have j := h2 k (by omega) (Nat.le_refl _)
  refine h ?_
  unfold cutsOf
  rw [List.getElem?_map, List.getElem?_range hk]
  show some (cutOf ns [] k) = some 0
  unfold cutOf
  rw [if_pos j]
theorem ends_sh {ns : List Note} {out : List (Int × Option Int)} {f : List Stay} {a : Stay} (hp : 1 ≤ p) (h0 : ∀ n ∈ ns, 0 ≤ n.1) (e : ways s p t ns [] = some out) (ef : staysL s p t ns (out.map (·.1)) (cutsOf ns []) = some f) (ha : a ∈ f) :
    (0 ≤ a.1 ∧ ∃ x, out[a.1.toNat]? = some (x, some a.2.2.1)) ∧ 0 ≤ a.2.1 ∧ ∃ o, out[a.2.1.toNat]? = some ((out.map (·.1)).getD a.2.1.toNat 0, o) := by
  obtain ⟨f', ef', M⟩ := ways_fit hp e
  have F : ShF s p t ns (out.map (·.1)) (cutsOf ns []) f := ⟨M, cutsOf_mem, ef, h0, hp⟩
  obtain ⟨i, hi⟩ := List.mem_iff_getElem?.mp ha
  obtain ⟨S, _⟩ := F.at_ hi
  have s1 := S.l1
  have s2 := S.l2
  have s3 := S.l3
  obtain ⟨m, r1, r2, r3⟩ := fit_arr M.len (mem_cuts.mp F.hc).1 ef a ha
  have ol := ways_len hp e
  obtain ⟨x, hx⟩ := ways_beg (k := a.1.toNat) hp e (by omega) r1
  rw [first_of (by omega) S.beg, ← r2] at hx
  refine ⟨⟨S.lo, x, hx⟩, S.hi, ?_⟩
  obtain ⟨q, hq⟩ := get_lt (xs := out) (j := a.2.1.toNat) (by omega)
  refine ⟨q.2, ?_⟩
  rw [List.getD_eq_getElem?_getD, List.getElem?_map, hq]
  rfl
theorem ss_c0 {ns : List Note} {out : List (Int × Option Int)} {f : List Stay} {x0 x1 x3 x6 x7 : Slot} {P : List Val → Ev → Prop} (hp : 1 ≤ p) (h0 : ∀ n ∈ ns, 0 ≤ n.1) (e : ways s p t ns [] = some out) (ef : staysL s p t ns (out.map (·.1)) (cutsOf ns []) = some f) (hl : f.length ≤ 1000)
    (hP : P ((f.map (shw (out.map (·.1)))).map blV) [x0, x1, .own (.lst (out.map wV)), x3, .un, .un, x6, x7]) :
    Ok ((compS [4, 5] (gT 2 (gsC (gN 4) (gsC (gN 5) gsN))) mYes (mTup (mCons (mBin oIx (mBin oIx (mVar 2) (mVar 4)) (mV (.int 1))) (mCons (mBin oIx (mBin oIx (mVar 2) (mVar 5)) (mV (.int 0))) mNil)))) ((blocks ns []).map blV) []) [x0, x1, .own (.lst (out.map wV)), x3, .un, .un, x6, x7] P := by
  have sl := sizeLine_eq
  rw [← blocks_pr ef, List.map_map]
  refine Ok.mono (Ok.compN (blV ∘ pr) (fun a => blV (shw (out.map (·.1)) a)) (by omega) fun a ha => ?_) ?_
  · obtain ⟨⟨a1, x, a2⟩, b1, o, b2⟩ := ends_sh hp h0 e ef ha
    have x1 : atI (out.map wV) a.1 = some (.tup [.int x, .int a.2.2.1]) := by
      rw [show a.1 = ((a.1.toNat : Nat) : Int) by omega]
      exact atI_lit _ (by rw [List.getElem?_map, a2]; rfl)
    have x2 : atI (out.map wV) a.2.1 = some (.tup [.int ((out.map (·.1)).getD a.2.1.toNat 0), optV o]) := by
      rw [show a.2.1 = ((a.2.1.toNat : Nat) : Int) by omega]
      exact atI_lit _ (by rw [List.getElem?_map, b2]; rfl)
    have e2 : (blV ∘ pr) a = .tup [.int a.1, .int a.2.1] := rfl
    have e3 : blV (shw (out.map (·.1)) a) = .tup [.int a.2.2.1, .int ((out.map (·.1)).getD a.2.1.toNat 0)] := rfl
    rw [e2, e3]
    have i1 := fun (e : Ev) (Q : RV → Ev → Prop) => ixL_of (e := e) (Q := Q) x1
    have i2 := fun (e : Ev) (Q : RV → Ev → Prop) => ixL_of (e := e) (Q := Q) x2
    generalize out.map wV = WV at i1 i2 ⊢
    simp_arith [↓i1, ↓i2]
    done
  · rintro r e' ⟨rfl, rfl⟩
    rw [List.map_map] at hP
    exact hP
theorem ss_c1 {out : List (Int × Option Int)} {x0 x1 x2 x3 x4 x5 : Slot} {P : List Val → Ev → Prop} (hl : out.length ≤ 1000)
    (hP : P ((out.map (·.1)).map .int) [x0, x1, x2, x3, x4, x5, .un, .un]) :
    Ok ((compS [6, 7] (gT 2 (gsC (gN 6) (gsC (gN 7) gsN))) mYes (mVar 6)) (out.map wV) []) [x0, x1, x2, x3, x4, x5, .un, .un] P := by
  have sl := sizeLine_eq
  refine Ok.mono (Ok.compN wV (fun w => .int w.1) (by omega) fun a ha => ?_) ?_
  · unfold wV
    simp_arith
    done
  · rintro r e' ⟨rfl, rfl⟩
    rw [List.map_map] at hP
    exact hP
theorem r_some_stays {ns : List Note} {out : List (Int × Option Int)} {f : List Stay} (hs : 0 < s) (hp : 1 ≤ p) (h0 : ns ≠ []) (hl : ns.length ≤ 40) (hn : ∀ n ∈ ns, noteB s n = true) (hz : ∀ n ∈ ns, 0 ≤ n.1) (e : ways s p t ns [] = some out) (ef : staysL s p t ns (out.map (·.1)) (cutsOf ns []) = some f) (hf : f.length ≤ 1000) :
    Ok den_some_stays [.dat (rV s l p t), .dat (notesV ns)] Q ↔ Q (.dat (.tup [.tup ((out.map (·.1)).map .int), .tup ((f.map (shw (out.map (·.1)))).map blV)])) [.un, .un] := by
  refine ok_det ?_
  have rc := fun Q => r_check_notes (s := s) (l := l) (p := p) (t := t) (Q := Q) hs h0 hl hn
  have ol := ways_len hp e
  have rb := fun Q => r_blocks_of (ns := ns) (ap := []) (Q := Q) (by omega)
  rw [List.map_nil] at rb
  have c0 := fun P x0 x1 x3 x6 x7 => ss_c0 (P := P) (x0 := x0) (x1 := x1) (x3 := x3) (x6 := x6) (x7 := x7) hp hz e ef hf
  have c1 := fun P x0 x1 x2 x3 x4 x5 => ss_c1 (P := P) (out := out) (x0 := x0) (x1 := x1) (x2 := x2) (x3 := x3) (x4 := x4) (x5 := x5) (by omega)
  generalize hC0 : (compS [4, 5] (gT 2 (gsC (gN 4) (gsC (gN 5) gsN))) mYes (mTup (mCons (mBin oIx (mBin oIx (mVar 2) (mVar 4)) (mV (.int 1))) (mCons (mBin oIx (mBin oIx (mVar 2) (mVar 5)) (mV (.int 0))) mNil)))) = C0 at c0
  generalize hC1 : (compS [6, 7] (gT 2 (gsC (gN 6) (gsC (gN 7) gsN))) mYes (mVar 6)) = C1 at c1
  simp_arith [↓den_some_stays, ↓b_some_stays, ↓rc, ↓ok_callDs, ↓mapD_c, ↓mapD_n]
  refine Ok.mono (r_ways_of (l := l) (ap := []) (by omega)) ?_
  intro r e' hh
  have h1 := hh.1
  have h2 := hh.2
  subst h2
  rw [e] at h1
  subst h1
  simp_arith [↓ok_callDs, ↓mapD_c, ↓mapD_n, ↓rb, ↓ok_items]
  rw [hC0]
  refine c0 _ _ _ _ _ _ ?_
  simp_arith [↓ok_items]
  rw [hC1]
  refine c1 _ _ _ _ _ _ _ ?_
  simp_arith [↓ok_tupL]
  done
theorem r_some_none {ns : List Note} (hs : 0 < s) (h0 : ns ≠ []) (hl : ns.length ≤ 40) (hn : ∀ n ∈ ns, noteB s n = true) (e : ways s p t ns [] = none) :
    Ok den_some_stays [.dat (rV s l p t), .dat (notesV ns)] Q ↔ Q (.dat .non) [.un, .un] := by
  refine ok_det ?_
  have rc := fun Q => r_check_notes (s := s) (l := l) (p := p) (t := t) (Q := Q) hs h0 hl hn
  simp_arith [↓den_some_stays, ↓b_some_stays, ↓rc, ↓ok_callDs, ↓mapD_c, ↓mapD_n]
  refine Ok.mono (r_ways_of (l := l) (ap := []) (by omega)) ?_
  intro r e' hh
  have h1 := hh.1
  have h2 := hh.2
  subst h2
  rw [e] at h1
  subst h1
  simp_arith
  done
end
end Pu.Q
set_option Elab.async false
set_option linter.all false
set_option maxRecDepth 100000
set_option maxHeartbeats 8000000
namespace Pu.Q
open PySem PySem.Spec PyProof.Rows L2 Pu
section
variable {s l p : Int} {t : Str} {Q : RV → Ev → Prop}
theorem ok_sortT {m : M RV} {e : Ev} {Q : RV → Ev → Prop} : Ok (mSortT m) e Q ↔ Ok m e fun r e1 => Ok (M.rd r) e1 fun v e2 => match v with
    | .tup xs => (match ints? xs with
      | some ns => Q (.tmp (.lst ((sortI ns).map .int))) e2
      | none => False)
    | _ => False := by
  unfold mSortT
  rw [ok_bind]
  refine Ok.iffQ fun r e1 => ?_
  rw [ok_bind]
  refine Ok.iffQ fun v e2 => ?_
  cases v with
  | tup xs =>
    dsimp only
    cases ints? xs with
    | none => exact ok_bad
    | some ns => exact ok_ret
  | _ => exact ok_bad
theorem asc_of : ∀ {is : List Int}, (is.zip (is.drop 1)).all leB = true → is.Pairwise (· ≤ ·)
  | [], _ => .nil
  | [x], _ => List.pairwise_singleton _ _
  | x :: y :: r, h => by
    have e1 : ((x :: y :: r).zip ((x :: y :: r).drop 1)) = (x, y) :: ((y :: r).zip ((y :: r).drop 1)) := rfl
    rw [e1, List.all_cons, Bool.and_eq_true] at h
    have ih := asc_of h.2
    have xy : x ≤ y := of_decide_eq_true h.1
    refine List.pairwise_cons.mpr ⟨fun z hz => ?_, ih⟩
    rcases List.mem_cons.mp hz with rfl | hz
    · exact xy
    · exact Int.le_trans xy ((List.pairwise_cons.mp ih).1 z hz)
theorem am_asc {ns : List Note} {is : List Int} (h : amB ns is = true) : is.length = ns.length ∧ sortI is = is ∧ (is.zip ns).all inB = true := by
  unfold amB at h
  rw [Bool.and_eq_true, Bool.and_eq_true] at h
  exact ⟨of_decide_eq_true h.1.1, sorted_eq sortI_perm sortI_ris (asc_of h.2), h.1.2⟩
theorem asGo_at (hp : 0 ≤ p) : ∀ {qs : List (Int × Int)} {least : Int}, asGo p least qs = true → ∀ (j : Nat) (q : Int × Int), qs[j]? = some q → least ≤ q.1 ∧ q.1 ≤ q.2 ∧ ∀ i r, j = i + 1 → qs[i]? = some r → r.2 + p ≤ q.1
  | [], _, _, j, q, h => by simp at h
  | x :: xs, least, h, 0, q, hj => by
    simp only [asGo, Bool.and_eq_true, decide_eq_true_eq] at h
    simp only [List.getElem?_cons_zero, Option.some.injEq] at hj
    subst hj
    exact ⟨h.1.1, h.1.2, fun i r z => by omega⟩
  | x :: xs, least, h, j + 1, q, hj => by
    simp only [asGo, Bool.and_eq_true, decide_eq_true_eq] at h
    simp only [List.getElem?_cons_succ] at hj
    obtain ⟨h1, h2, h3⟩ := asGo_at hp h.2 j q hj
    refine ⟨by omega, h2, fun i r z hr => ?_⟩
    have : i = j := by omega
    subst this
    cases i with
    | zero =>
      simp only [List.getElem?_cons_zero, Option.some.injEq] at hr
      subst hr
      exact h1
    | succ i =>
      simp only [List.getElem?_cons_succ] at hr
      exact h3 i r rfl hr
theorem rngV_at {n j : Nat} {v : Val} (h : (rangeV 0 (n : Int))[j]? = some v) : v = .int (j : Int) ∧ j < n := by
  unfold rangeV at h
  rw [List.getElem?_map] at h
  by_cases c : j < ((n : Int) - 0).toNat
  · rw [List.getElem?_range c] at h
    cases h
    exact ⟨by show Val.int (0 + (j : Int)) = _; rw [Int.zero_add], by omega⟩
  · rw [List.getElem?_eq_none (by rw [List.length_range]; omega)] at h
    cases h
theorem fi_loop {f : Int} {qs : List (Int × Int)} {x1 x2 x4 x5 x6 x7 x8 x9 : Slot} (hp : 0 ≤ p) (hl : qs.length ≤ 1000) (h : asGo p 0 qs = true) :
    Ok ((loopS (gN 4) (mSeq (mAsg (gT 2 (gsC (gN 8) (gsC (gN 9) gsN))) (mBin oIx (mVar 3) (mVar 4))) (mIf (mOr (mTru (mBin oLt (mVar 8) (mV (.int 0)))) (mOr (mTru (mBin oLt (mVar 9) (mVar 8))) (mAnd (mTru (mBin oGt (mVar 4) (mV (.int 0)))) (mTru (mBin oLt (mVar 8) (mBin oAdd (mBin oIx (mBin oIx (mVar 3) (mBin oSub (mVar 4) (mV (.int 1)))) (mV (.int 1))) (mBin oIx (mVar 0) (mV (.int 3))))))))) (mRet (mV (.bl false))) mSkip))) (rangeV 0 (qs.length : Int))) [.dat (pV s f p t), x1, x2, .dat (.tup (qs.map blV)), x4, x5, x6, x7, x8, x9, .un] fun o e => o = .nx ∧ ∃ x4 x8 x9, e = [.dat (pV s f p t), x1, x2, .dat (.tup (qs.map blV)), x4, x5, x6, x7, x8, x9, .un] := by
  refine Ok.mono (Ok.loop (fun _ e => ∃ x4 x8 x9, e = [.dat (pV s f p t), x1, x2, .dat (.tup (qs.map blV)), x4, x5, x6, x7, x8, x9, .un]) (i := 0) ⟨_, _, _, rfl⟩ ?_) ?_
  · intro j v e hv hh
    obtain ⟨x4, x8, x9, he⟩ := hh
    subst he
    obtain ⟨ev, hj⟩ := rngV_at hv
    rw [ev]
    obtain ⟨q, hq⟩ := get_lt (xs := qs) (j := j) hj
    obtain ⟨q1, q2, q3⟩ := asGo_at hp h j q hq
    have x0 : atI (qs.map blV) (j : Int) = some (.tup [.int q.1, .int q.2]) := atI_lit _ (by rw [List.getElem?_map, hq]; rfl)
    have i0 := fun (e : Ev) (Q : RV → Ev → Prop) => ixT_of (e := e) (Q := Q) x0
    have n1 : ¬ q.1 < 0 := by omega
    have n2 : ¬ q.2 < q.1 := by omega
    clear hv
    unfold pV
    cases j with
    | zero =>
      have n3 : ¬ ((0 : Int) > 0) := by decide
      have i0' := fun (e : Ev) (Q : RV → Ev → Prop) => ixT_of (e := e) (Q := Q) (i := 0) x0
      generalize qs.map blV = SV at i0' ⊢
      simp_arith [↓i0', ↓n1, ↓n2, ↓n3]
      exact ⟨_, _, _, rfl⟩
    | succ i =>
      obtain ⟨r, hr⟩ := get_lt (xs := qs) (j := i) (by omega)
      have q4 := q3 i r rfl hr
      have x1 : atI (qs.map blV) (i : Int) = some (.tup [.int r.1, .int r.2]) := atI_lit _ (by rw [List.getElem?_map, hr]; rfl)
      have i1 := fun (e : Ev) (Q : RV → Ev → Prop) => ixT_of (e := e) (Q := Q) x1
      have e1 : (((i + 1 : Nat) : Int) - 1) = (i : Int) := by omega
      have n3 : ((i + 1 : Nat) : Int) > 0 := by omega
      have n4 : ¬ q.1 < r.2 + p := by omega
      generalize qs.map blV = SV at i0 i1 ⊢
      simp_arith [↓i0, ↓i1, ↓n1, ↓n2, ↓n3, ↓e1, ↓n4]
      exact ⟨_, _, _, rfl⟩
  · intro o e hh
    exact hh
theorem lf_c {f : Int} {qs : List (Int × Int)} {x : Int} {x1 x2 x4 x6 x7 x8 x9 : Slot} {P : List Val → Ev → Prop} (hs : 0 < s) (ht : inMenu t) (hl : qs.length ≤ 1000)
    (hP : P ((hereL s t qs x).map .int) [.dat (pV s f p t), x1, x2, .dat (.tup (qs.map blV)), x4, .dat (.int x), x6, x7, x8, x9, .un]) :
    Ok ((compS [10] (gN 10) (mTru (mChain oLe oLe (mBin oIx (mVar 10) (mV (.int 0))) (mVar 5) (mBin oIx (mVar 10) (mV (.int 1))))) (mCall [false, false] den__law_mark (mCons (mVar 0) (mCons (mBin oIx (mVar 10) (mV (.int 0))) mNil)) [])) (qs.map blV) []) [.dat (pV s f p t), x1, x2, .dat (.tup (qs.map blV)), x4, .dat (.int x), x6, x7, x8, x9, .un] P := by
  have sl := sizeLine_eq
  refine Ok.mono (Ok.compM blV (fun q => decide (q.1 ≤ x ∧ x ≤ q.2)) (fun q => .int (markV t s q.1)) (acc := []) (by simp; omega) fun q hq => ?_) ?_
  · have rm := fun (a : Int) Q => r_mark' (f := f) (p := p) (a := a) (Q := Q) hs ht
    have e2 : blV q = .tup [.int q.1, .int q.2] := rfl
    rw [e2]
    unfold pV
    generalize Val.tup (qs.map blV) = SV
    simp_arith [↓rm]
    by_cases c1 : q.1 ≤ x
    · refine ⟨fun _ => ?_, fun z => absurd c1 z⟩
      simp [c1]
    · refine ⟨fun z => absurd z c1, fun _ => ?_⟩
      simp [c1]
  · rintro r e' ⟨rfl, rfl⟩
    unfold hereL at hP
    rw [List.map_map] at hP
    exact hP
theorem lf_loop {f : Int} {qs : List (Int × Int)} {x1 x2 x4 x8 x9 : Slot} {P : Out → Ev → Prop} (hs : 0 < s) (ht : inMenu t) (hl : qs.length ≤ 1000) : ∀ (zs : List (Int × Note)) (x5 x6 x7 : Slot), zs.all (dfB s t qs) = true → zs.all inB = true →
    (∀ x5 x6 x7, P .nx [.dat (pV s f p t), x1, x2, .dat (.tup (qs.map blV)), x4, x5, x6, x7, x8, x9, .un]) →
    Ok ((loopS (gT 2 (gsC (gN 5) (gsC (gN 6) gsN))) (mSeq (mSet 7 (mComp [10] (mItems (mVar 3)) (gN 10) (mTru (mChain oLe oLe (mBin oIx (mVar 10) (mV (.int 0))) (mVar 5) (mBin oIx (mVar 10) (mV (.int 1))))) (mCall [false, false] den__law_mark (mCons (mVar 0) (mCons (mBin oIx (mVar 10) (mV (.int 0))) mNil)) []))) (mIf (mOr (mNot (mTru (mChain oLe oLe (mBin oIx (mVar 6) (mV (.int 0))) (mVar 5) (mBin oIx (mVar 6) (mV (.int 1)))))) (mTru (mBin oNe (mVar 7) (mIfE (mTru (mBin oIs (mBin oIx (mVar 6) (mV (.int 2))) (mV .non))) (mLst mNil) (mLst (mCons (mBin oIx (mVar 6) (mV (.int 2))) mNil)))))) (mRet (mV (.bl false))) mSkip))) (zs.map fun q => .tup [.int q.1, nV q.2])) [.dat (pV s f p t), x1, x2, .dat (.tup (qs.map blV)), x4, x5, x6, x7, x8, x9, .un] P
  | [], _, _, _, _, _, h => h _ _ _
  | z :: r, x5, x6, x7, h1, h2, h => by
    rw [List.all_cons, Bool.and_eq_true] at h1 h2
    have ih := fun x5 x6 x7 => lf_loop (P := P) (x1 := x1) (x2 := x2) (x4 := x4) (x8 := x8) (x9 := x9) hs ht hl r x5 x6 x7 h1.2 h2.2 h
    have cc := fun (P : List Val → Ev → Prop) x6 x7 => lf_c (f := f) (p := p) (P := P) (x := z.1) (x1 := x1) (x2 := x2) (x4 := x4) (x6 := x6) (x7 := x7) (x8 := x8) (x9 := x9) hs ht hl
    have b : z.2.1 ≤ z.1 ∧ z.1 ≤ z.2.2.1 := of_decide_eq_true h2.1
    have d : hereL s t qs z.1 = wantL z.2.2.2 := of_decide_eq_true h1.1
    have b1 := b.1
    have b2 := b.2
    rw [d] at cc
    have e2 : nV z.2 = .tup [.int z.2.1, .int z.2.2.1, optV z.2.2.2] := rfl
    rw [List.map_cons, ok_loopC, e2]
    generalize hR : (loopS (gT 2 (gsC (gN 5) (gsC (gN 6) gsN))) (mSeq (mSet 7 (mComp [10] (mItems (mVar 3)) (gN 10) (mTru (mChain oLe oLe (mBin oIx (mVar 10) (mV (.int 0))) (mVar 5) (mBin oIx (mVar 10) (mV (.int 1))))) (mCall [false, false] den__law_mark (mCons (mVar 0) (mCons (mBin oIx (mVar 10) (mV (.int 0))) mNil)) []))) (mIf (mOr (mNot (mTru (mChain oLe oLe (mBin oIx (mVar 6) (mV (.int 0))) (mVar 5) (mBin oIx (mVar 6) (mV (.int 1)))))) (mTru (mBin oNe (mVar 7) (mIfE (mTru (mBin oIs (mBin oIx (mVar 6) (mV (.int 2))) (mV .non))) (mLst mNil) (mLst (mCons (mBin oIx (mVar 6) (mV (.int 2))) mNil)))))) (mRet (mV (.bl false))) mSkip))) = R at ih ⊢
    generalize (r.map fun q => Val.tup [.int q.1, nV q.2]) = RZ at ih ⊢
    generalize hC : (compS [10] (gN 10) (mTru (mChain oLe oLe (mBin oIx (mVar 10) (mV (.int 0))) (mVar 5) (mBin oIx (mVar 10) (mV (.int 1))))) (mCall [false, false] den__law_mark (mCons (mVar 0) (mCons (mBin oIx (mVar 10) (mV (.int 0))) mNil)) [])) = C at cc
    generalize hS : Val.tup (qs.map blV) = SV at ih cc h ⊢
    rw [← hS]
    simp_arith
    rw [hC, hS]
    refine cc _ _ _ ?_
    cases hm : z.2.2.2 with
    | none =>
      have ne0 := fun (e : Ev) (Q : RV → Ev → Prop) => ok_neI (e := e) (Q := Q) (xs := []) (ys := [])
      rw [decide_eq_true (rfl : ([] : List Int) = [])] at ne0
      simp only [List.map_nil] at ne0
      simp only [wantL, optV, List.map_nil, List.map_cons]
      simp_arith [↓ne0, ↓Bool.not_true, ↓b1, ↓b2]
      exact ih _ _ _
    | some m =>
      have ne0 := fun (e : Ev) (Q : RV → Ev → Prop) => ok_neI (e := e) (Q := Q) (xs := [m]) (ys := [m])
      rw [decide_eq_true (rfl : [m] = [m])] at ne0
      simp only [List.map_nil, List.map_cons] at ne0
      simp only [wantL, optV, List.map_nil, List.map_cons]
      simp_arith [↓ne0, ↓Bool.not_true, ↓b1, ↓b2]
      exact ih _ _ _
theorem r_fittingT {f : Int} {ns : List Note} {is : List Int} {qs : List (Int × Int)} (hs : 0 < s) (ht : inMenu t) (hp : 0 ≤ p) (hn : ns.length ≤ 40) (hq : qs.length ≤ 1000) (ha : amB ns is = true) (hb : asGo p 0 qs = true) (hd : (is.zip ns).all (dfB s t qs) = true) :
    Ok den__law_fitting [.dat (pV s f p t), .dat (notesV ns), .dat (.tup (is.map .int)), .dat (.tup (qs.map blV))] Q ↔ Q (.dat (.bl true)) [.un, .un, .un, .un] := by
  refine ok_det ?_
  obtain ⟨a1, a2, a3⟩ := am_asc ha
  have h1 : decide ((is.length : Int) = (ns.length : Int)) = true := decide_eq_true (by omega)
  have st := ints_is (is := is)
  have ne0 := fun (e : Ev) (Q : RV → Ev → Prop) => ok_neI (e := e) (Q := Q) (xs := is) (ys := is)
  rw [decide_eq_true (rfl : is = is)] at ne0
  have z1 : zipV (is.map .int) (ns.map nV) = (is.zip ns).map fun q => .tup [.int q.1, nV q.2] := zipM
  have sv : seqV (notesV ns) = some (ns.map nV) := rfl
  have l0 := fun x1 x2 x4 x5 x6 x7 x8 x9 => fi_loop (s := s) (t := t) (f := f) (x1 := x1) (x2 := x2) (x4 := x4) (x5 := x5) (x6 := x6) (x7 := x7) (x8 := x8) (x9 := x9) hp hq hb
  have l1 := fun (P : Out → Ev → Prop) x1 x2 x4 x8 x9 x5 x6 x7 h => lf_loop (f := f) (p := p) (P := P) (x1 := x1) (x2 := x2) (x4 := x4) (x8 := x8) (x9 := x9) hs ht hq (is.zip ns) x5 x6 x7 hd a3 h
  have lN := fun (e : Ev) (Q : RV → Ev → Prop) => ok_lenN (ns := ns) (e := e) (Q := Q)
  generalize hR0 : (loopS (gN 4) (mSeq (mAsg (gT 2 (gsC (gN 8) (gsC (gN 9) gsN))) (mBin oIx (mVar 3) (mVar 4))) (mIf (mOr (mTru (mBin oLt (mVar 8) (mV (.int 0)))) (mOr (mTru (mBin oLt (mVar 9) (mVar 8))) (mAnd (mTru (mBin oGt (mVar 4) (mV (.int 0)))) (mTru (mBin oLt (mVar 8) (mBin oAdd (mBin oIx (mBin oIx (mVar 3) (mBin oSub (mVar 4) (mV (.int 1)))) (mV (.int 1))) (mBin oIx (mVar 0) (mV (.int 3))))))))) (mRet (mV (.bl false))) mSkip))) = R0 at l0
  generalize hR1 : (loopS (gT 2 (gsC (gN 5) (gsC (gN 6) gsN))) (mSeq (mSet 7 (mComp [10] (mItems (mVar 3)) (gN 10) (mTru (mChain oLe oLe (mBin oIx (mVar 10) (mV (.int 0))) (mVar 5) (mBin oIx (mVar 10) (mV (.int 1))))) (mCall [false, false] den__law_mark (mCons (mVar 0) (mCons (mBin oIx (mVar 10) (mV (.int 0))) mNil)) []))) (mIf (mOr (mNot (mTru (mChain oLe oLe (mBin oIx (mVar 6) (mV (.int 0))) (mVar 5) (mBin oIx (mVar 6) (mV (.int 1)))))) (mTru (mBin oNe (mVar 7) (mIfE (mTru (mBin oIs (mBin oIx (mVar 6) (mV (.int 2))) (mV .non))) (mLst mNil) (mLst (mCons (mBin oIx (mVar 6) (mV (.int 2))) mNil)))))) (mRet (mV (.bl false))) mSkip))) = R1 at l1
  generalize (is.zip ns).map (fun q => Val.tup [.int q.1, nV q.2]) = ZV at z1 l1
  generalize notesV ns = NV at lN sv ⊢
  have c1 : (qs.length : Int) ≤ 16777216 := by omega
  simp_arith [↓den__law_fitting, ↓b__law_fitting, ↓lN, ↓List.length_map, ↓h1, ↓Bool.not_true, ↓ok_sortT, ↓st, ↓a2, ↓dOk_is, ↓veq_is, ↓ok_lstT]
  rw [hR0]
  refine ⟨⟨by omega, by omega⟩, Ok.mono (l0 _ _ _ _ _ _ _ _) fun o e hh => ?_⟩
  obtain ⟨ho, x4, x8, x9, he⟩ := hh
  subst ho
  subst he
  simp_arith [↓ok_zip, ↓seqV_T, ↓sv, ↓z1]
  rw [hR1]
  refine l1 _ _ _ _ _ _ _ _ _ fun _ _ _ => ?_
  simp_arith
  done
end
end Pu.Q
set_option Elab.async false
set_option linter.all false
set_option maxRecDepth 100000
set_option maxHeartbeats 8000000
namespace Pu.Q
open PySem PySem.Spec PyProof.Rows L2 Pu
section
variable {s l p : Int} {t : Str} {Q : RV → Ev → Prop}
theorem mins_all : ∀ {ns : List Note} {q : Option Int} {xs : List Int}, Mins ns q xs → (xs.zip ns).all inB = true ∧ (∀ y, q = some y → ((y :: xs).zip xs).all leB = true) ∧ (xs.zip (xs.drop 1)).all leB = true
  | [], q, xs, M => by
    rw [show xs = [] from M]
    exact ⟨rfl, fun _ _ => rfl, rfl⟩
  | n :: r, q, xs, M => by
    obtain ⟨x, xs', rfl, a, b, c, M'⟩ := M
    obtain ⟨h1, h2, h3⟩ := mins_all M'
    have h2 := h2 x rfl
    refine ⟨?_, fun y hy => ?_, ?_⟩
    · rw [List.zip_cons_cons, List.all_cons, h1, Bool.and_true]
      exact decide_eq_true ⟨a, b⟩
    · rw [List.zip_cons_cons, List.all_cons, h2, Bool.and_true]
      exact decide_eq_true (c y hy)
    · exact h2
theorem am_ok {ns : List Note} {xs : List Int} (M : Mins ns none xs) : amB ns xs = true := by
  obtain ⟨h1, _, h3⟩ := mins_all M
  unfold amB
  rw [h1, h3, decide_eq_true M.len]
  rfl
theorem asGo_of : ∀ {qs : List (Int × Int)} {least : Int}, (∀ (j : Nat) q, qs[j]? = some q → least ≤ q.1 ∧ q.1 ≤ q.2) → (∀ (i j : Nat) a b, i < j → qs[i]? = some a → qs[j]? = some b → a.2 + p ≤ b.1) → asGo p least qs = true
  | [], _, _, _ => rfl
  | q :: r, least, h1, h2 => by
    simp only [asGo, Bool.and_eq_true]
    refine ⟨decide_eq_true (h1 0 q rfl), asGo_of (fun j x hx => ?_) fun i j a b lt ha hb => h2 (i + 1) (j + 1) a b (by omega) (by simpa using ha) (by simpa using hb)⟩
    exact ⟨h2 0 (j + 1) q x (by omega) rfl (by simpa using hx), (h1 (j + 1) x (by simpa using hx)).2⟩
theorem as_ok {ns : List Note} {xs cs : List Int} {f : List Stay} (F : ShF s p t ns xs cs f) : asGo p 0 (f.map (shw xs)) = true := by
  have un : ∀ {j : Nat} {q : Int × Int}, (f.map (shw xs))[j]? = some q → ∃ a, f[j]? = some a ∧ q = shw xs a := fun {j q} h => by
    rw [List.getElem?_map] at h
    cases z : f[j]? with
    | none => rw [z] at h; cases h
    | some a => rw [z] at h; cases h; exact ⟨a, rfl, rfl⟩
  refine asGo_of (fun j q hj => ?_) fun i j a b lt ha hb => ?_
  · obtain ⟨a, ha, rfl⟩ := un hj
    have := F.in_ ha
    omega
  · obtain ⟨a', ha', ea⟩ := un ha
    obtain ⟨b', hb', eb⟩ := un hb
    rw [ea, eb]
    exact F.apart ha' hb' lt
theorem df_ok {ns : List Note} {xs cs : List Int} {f : List Stay} (F : ShF s p t ns xs cs f) (hs : 0 < s) (ht : inMenu t) (hm : ∀ n ∈ ns, ∀ m, n.2.2 = some m → m % s = 0) : (xs.zip ns).all (dfB s t (f.map (shw xs))) = true := by
  rw [List.all_eq_true]
  intro z hz
  obtain ⟨j, hj⟩ := List.mem_iff_getElem?.mp hz
  rw [List.getElem?_zip_eq_some] at hj
  obtain ⟨h1, h2⟩ := hj
  have lt : j < ns.length := by
    refine Classical.byContradiction fun c => ?_
    rw [List.getElem?_eq_none (by omega)] at h2
    cases h2
  have sn := F.seen hs ht hm lt
  have ex : xs.getD j 0 = z.1 := by rw [List.getD_eq_getElem?_getD, h1]; rfl
  have em : mkAt ns j = z.2.2.2 := by
    unfold mkAt
    rw [h2]
    rfl
  rw [ex, em] at sn
  refine decide_eq_true ?_
  unfold hereL
  rw [sn]
  cases z.2.2.2 <;> rfl
end
end Pu.Q
set_option Elab.async false
set_option linter.all false
set_option maxRecDepth 100000
set_option maxHeartbeats 1000000
namespace Pu.Q
open PySem PySem.Spec PyProof.Rows L2 Pu
section
variable {s l p : Int} {t : Str} {Q : RV → Ev → Prop}
def shN (on : Int) (n : Note) : Note := (n.1 + on, n.2.1 + on, n.2.2.map (· + on))
theorem c16_0 {ns : List Note} {on : Int} {x0 x1 x2 x4 x5 x6 x7 : Slot} {P : List Val → Ev → Prop} (hl : ns.length ≤ 1000)
    (hP : P ((ns.map (shN on)).map nV) [x0, x1, x2, .dat (.int on), x4, x5, x6, x7, .un, .un, .un]) :
    Ok ((compS [8, 9, 10] (gT 3 (gsC (gN 8) (gsC (gN 9) (gsC (gN 10) gsN)))) mYes (mTup (mCons (mBin oAdd (mVar 8) (mVar 3)) (mCons (mBin oAdd (mVar 9) (mVar 3)) (mCons (mIfE (mTru (mBin oIsN (mVar 10) (mV .non))) (mBin oAdd (mVar 10) (mVar 3)) (mV .non)) mNil))))) (ns.map nV) []) [x0, x1, x2, .dat (.int on), x4, x5, x6, x7, .un, .un, .un] P := by
  have sl := sizeLine_eq
  refine Ok.mono (Ok.compN nV (fun n => nV (shN on n)) (by omega) fun n hn => ?_) ?_
  · obtain ⟨lo, hi, m⟩ := n
    cases m with
    | none =>
      have e1 : nV (lo, hi, none) = .tup [.int lo, .int hi, .non] := rfl
      have e2 : nV (shN on (lo, hi, none)) = .tup [.int (lo + on), .int (hi + on), .non] := rfl
      rw [e1, e2]
      simp_arith
      done
    | some m =>
      have e1 : nV (lo, hi, some m) = .tup [.int lo, .int hi, .int m] := rfl
      have e2 : nV (shN on (lo, hi, some m)) = .tup [.int (lo + on), .int (hi + on), .int (m + on)] := rfl
      rw [e1, e2]
      simp_arith
      done
  · rintro r e' ⟨rfl, rfl⟩
    rw [List.map_map] at hP
    exact hP
structure ShOk (g on : Int) (ns ms : List Note) : Prop where
  ne : ms ≠ []
  len : ms.length = ns.length
  ok : ∀ n ∈ ms, noteB g n = true
  low : ∀ n ∈ ms, 0 ≤ n.1
  mar : ∀ n ∈ ms, ∀ m, n.2.2 = some m → m % g = 0
  same : on = 0 → ms = ns
theorem sh_ok {g k : Int} {ns : List Note} (g1 : 1 ≤ g) (g2 : g ≤ 12) (k1 : 0 ≤ k) (k2 : k ≤ 1000000000000000000000000000) (n0 : ns ≠ []) (hn : ∀ n ∈ ns, RowN g 3 n) : ShOk g (g * k) ns (ns.map (shN (g * k))) := by
  have o1 : 0 ≤ g * k := Int.mul_nonneg (by omega) k1
  have o2 : g * k ≤ 12 * 1000000000000000000000000000 := Int.mul_le_mul g2 k2 k1 (by decide)
  have M : Mx = 1000000000000000000000000000000 := rfl
  have mk : ∀ {n : Note}, n ∈ ns.map (shN (g * k)) → ∃ u ∈ ns, n = shN (g * k) u := fun {n} h => by
    obtain ⟨u, hu, e⟩ := List.mem_map.mp h
    exact ⟨u, hu, e.symm⟩
  have mm : ∀ u ∈ ns, ∀ m, (shN (g * k) u).2.2 = some m → 0 ≤ m ∧ m ≤ 20000 + g * k ∧ m % g = 0 := fun u hu m e => by
    cases h : u.2.2 with
    | none =>
      unfold shN at e
      rw [h] at e
      cases e
    | some z =>
      unfold shN at e
      rw [h] at e
      cases e
      obtain ⟨z1, z2, z3⟩ := (hn u hu).mar z h
      refine ⟨(show 0 ≤ z + g * k by omega), (show z + g * k ≤ 20000 + g * k by omega), ?_⟩
      show (z + g * k) % g = 0
      rw [Int.add_mul_emod_self_left, z3]
  refine ⟨fun z => n0 (List.map_eq_nil_iff.mp z), List.length_map _, fun n h => ?_, fun n h => ?_, fun n h m e => ?_, fun z => ?_⟩
  · obtain ⟨u, hu, rfl⟩ := mk h
    have h1 := (hn u hu).lo
    have h2 := (hn u hu).hi
    refine noteB_of' (show 0 ≤ u.1 + g * k by omega) (show u.1 + g * k ≤ u.2.1 + g * k by omega) (show u.2.1 + g * k ≤ Mx by omega) fun m e => ?_
    obtain ⟨z1, z2, z3⟩ := mm u hu m e
    exact ⟨⟨z1, by omega⟩, z3⟩
  · obtain ⟨u, hu, rfl⟩ := mk h
    have h1 := (hn u hu).lo
    show 0 ≤ u.1 + g * k
    omega
  · obtain ⟨u, hu, rfl⟩ := mk h
    exact (mm u hu m e).2.2
  · rw [z]
    have : shN 0 = id := by
      funext n
      obtain ⟨a, b, c⟩ := n
      unfold shN
      cases c <;> simp
    rw [this, List.map_id]
theorem t16 {a b c g f p on : Int} {t : Str} {ns ms : List Note} {s1 s5 : Slot} (g1 : 1 ≤ g) (g2 : g ≤ 12) (ht : inMenu t) (p1 : 1 ≤ p) (n0 : ns ≠ []) (nl : (ns.length : Int) ≤ 6) (hn : ∀ n ∈ ns, RowN g 3 n) (V : ShOk g on ns ms) :
    Ok ((mSeq (mSet 5 (mCall [false, false] den_some_stays (mCons (mVar 6) (mCons (mVar 4) mNil)) [])) (mSeq (mIf (mOr (mTru (mBin oNe (mBin oIsN (mVar 5) (mV .non)) (mCall [false, false, false] den_fits (mCons (mVar 6) (mCons (mVar 4) mNil)) [(.bl false)]))) (mAnd (mTru (mBin oIsN (mVar 5) (mV .non))) (mTru (mBin oIs (mCallK [false, false] den_some_stays mNil (mCons (mVar 4) (mCons (mVar 6) mNil)) 0 2 [1, 0]) (mV .non))))) (mRet (mV (.bl false))) mSkip) (mSeq (mIf (mTru (mBin oIs (mVar 5) (mV .non))) mCt mSkip) (mSeq (mIf (mOr (mNot (mTru (mCB (fIsi isT) (mCons (mVar 5) (mCons (mV (.ty "tuple")) mNil))))) (mOr (mTru (mBin oNe (mCB fLen (mCons (mVar 5) mNil)) (mV (.int 2)))) (mOr (mNot (mTru (mCB (fIsi isT) (mCons (mBin oIx (mVar 5) (mV (.int 0))) (mCons (mV (.ty "tuple")) mNil))))) (mNot (mTru (mCB (fIsi isT) (mCons (mBin oIx (mVar 5) (mV (.int 1))) (mCons (mV (.ty "tuple")) mNil)))))))) (mRet (mV (.bl false))) mSkip) (mSeq (mIf (mOr (mNot (mTru (mCall [false, false, false, false] den__law_fitting (mCons (mVar 2) (mCons (mVar 4) (mCons (mBin oIx (mVar 5) (mV (.int 0))) (mCons (mBin oIx (mVar 5) (mV (.int 1))) mNil)))) []))) (mNot (mTru (mCall [false, false, false, false] den_do_fit (mCons (mVar 6) (mCons (mVar 4) (mCons (mBin oIx (mVar 5) (mV (.int 0))) (mCons (mBin oIx (mVar 5) (mV (.int 1))) mNil)))) [])))) (mRet (mV (.bl false))) mSkip) (mIf (mAnd (mTru (mBin oEq (mVar 3) (mV (.int 0)))) (mTru (mBin oNe (mBin oEq (mCall [false, false] den__law_all (mCons (mVar 2) (mCons (mVar 7) mNil)) []) (mLst mNil)) (mBin oIs (mVar 5) (mV .non))))) (mRet (mV (.bl false))) mSkip))))))) [.own (.lst [.int a, .int b, .int c]), s1, .dat (pV g f p t), .dat (.int on), .dat (notesV ms), s5, .own (rV g f p t), .dat (notesV ns), .un, .un, .un] fun o e => (o = .nx ∨ o = .ct) ∧ ∃ a b c s1 s2 s3 s4 s5 s6 s7, e = [.own (.lst [.int a, .int b, .int c]), s1, s2, s3, s4, s5, s6, s7, .un, .un, .un] := by
  obtain ⟨m0, ml, mb, mz, mm, same⟩ := V
  have rf := fun Q => r_fitsF (s := g) (l := f) (p := p) (t := t) (Q := Q) (ns := ms) (by omega) m0 (by omega) mb
  have b1 : veq (.bl false) (.bl false) = true := by decide +kernel
  have b2 : veq (.bl true) (.bl true) = true := by decide +kernel
  cases e : ways g p t ms [] with
  | none =>
    rw [e] at rf
    have rs := fun Q => r_some_none (l := f) (Q := Q) (by omega) m0 (by omega) mb e
    simp only [Option.isSome_none] at rf
    generalize notesV ms = MV at rf rs ⊢
    generalize rV g f p t = RR at rf rs ⊢
    generalize pV g f p t = PV
    generalize notesV ns = NV
    simp_arith [↓rs, ↓rf, ↓ok_callDs, ↓mapD_c, ↓mapD_n, ↓Bool.not_true, ↓b1]
    exact ⟨_, _, _, _, _, _, _, _, _, _, rfl⟩
  | some out =>
    rw [e] at rf
    obtain ⟨f', ef, M⟩ := ways_fit p1 e
    have F : ShF g p t ms (out.map (·.1)) (cutsOf ms []) f' := ⟨M, cutsOf_mem, ef, mz, p1⟩
    have few := fit_few cutsOf_mem ef
    have rs := fun Q => r_some_stays (l := f) (Q := Q) (by omega) p1 m0 (by omega) mb mz e ef (by omega)
    have ol := ways_len p1 e
    have a1 := am_ok M
    have a2 := as_ok F
    have a3 := df_ok F (by omega) ht mm
    have rt := fun Q => r_fittingT (f := f) (Q := Q) (by omega) ht (by omega) (by omega) (by rw [List.length_map]; omega) a1 a2 a3
    have rd := fun Q => r_do_fit (l := f) (Q := Q) (s := g) (p := p) (t := t) (ns := ms) (is := out.map (·.1)) (qs := f'.map (shw (out.map (·.1)))) (by omega) m0 (by omega) mb (by rw [List.length_map]; omega) (by rw [List.length_map]; omega)
    rw [a1, a2, a3] at rd
    simp only [Bool.true_and, Option.isSome_some] at rd rf
    have ne : on = 0 → allL g p t ns ≠ [] := fun z => by
      rw [← same z]
      exact (all_ne (s := g) (t := t) p1 mz).mp (by rw [e]; rfl)
    have nmark : ∀ n ∈ ns, ∀ m, n.2.2 = some m → 0 ≤ m := fun n h m e => ((hn n h).mar m e).1
    have ra := fun Q => r_all (Q := Q) (s := g) (f := f) (p := p) (ns := ns) (w := 3) ht nmark n0 (fun n h => (hn n h).small) (by omega) (by omega) (by omega) (Nat.le_trans (Nat.pow_le_pow_right (by decide) (show ns.length ≤ 6 by omega)) (by decide))
    have hall : ∀ v ∈ (allL g p t ns).map fitV1, Pl 3 v := fun v hv => by
      obtain ⟨q, _, rfl⟩ := List.mem_map.mp hv
      exact pl_fit
    have eq := fun (e : Ev) (Q : RV → Ev → Prop) => ok_EqG (Q := Q) (k := 3) (e := e) hall (by decide)
    generalize (out.map (·.1)).map Val.int = XL at rs rt rd
    generalize (f'.map (shw (out.map (·.1)))).map blV = SL at rs rt rd
    clear a1 a2 a3 F M ef e mb mm
    generalize notesV ms = MV at rf rs rt rd ⊢
    generalize rV g f p t = RR at rf rs rd ⊢
    generalize pV g f p t = PV at rt ra ⊢
    generalize notesV ns = NV at ra ⊢
    by_cases hon : on = 0
    · have ne' : decide ((allL g p t ns).map fitV1 = []) = false := decide_eq_false fun z => ne hon (List.map_eq_nil_iff.mp z)
      rw [ne'] at eq
      generalize (allL g p t ns).map fitV1 = AV at ra eq
      simp_arith [↓rs, ↓rf, ↓ok_callDs, ↓mapD_c, ↓mapD_n, ↓Bool.not_true, ↓b1, ↓b2, ↓i_tup, ↓rt, ↓rd, ↓hon, ↓ra, ↓eq]
      exact ⟨_, _, _, _, _, _, _, _, _, _, rfl⟩
    · simp_arith [↓rs, ↓rf, ↓ok_callDs, ↓mapD_c, ↓mapD_n, ↓Bool.not_true, ↓b1, ↓b2, ↓i_tup, ↓rt, ↓rd, ↓hon]
      exact ⟨_, _, _, _, _, _, _, _, _, _, rfl⟩
theorem r_fin_k16 {a b c : Int} {g f p : Int} {t : Str} {ns : List Note} {s1 s3 s4 s5 : Slot} (g1 : 1 ≤ g) (g2 : g ≤ 12) (ht : inMenu t) (f1 : g ≤ f) (f2 : f ≤ 60) (p1 : 1 ≤ p) (p2 : p ≤ 8) (n0 : ns ≠ []) (nl : (ns.length : Int) ≤ 6) (hn : ∀ n ∈ ns, RowN g 3 n) :
    Ok ((mSeq (mSet 3 (mBin oMul (mBin oIx (mVar 2) (mV (.int 0))) (mCall [true, false] den__law_pick (mCons (mVar 0) (mCons (mLst (mCons (mV (.int 0)) (mCons (mV (.int 0)) (mCons (mV (.int 1)) (mCons (mCall [true, false] den__law_far (mCons (mVar 0) (mCons (mBin oPow (mV (.int 10)) (mV (.int 27))) mNil)) []) mNil))))) mNil)) []))) (mSeq (mSet 4 (mCB fTup (mCons (mComp [8, 9, 10] (mItems (mVar 7)) (gT 3 (gsC (gN 8) (gsC (gN 9) (gsC (gN 10) gsN)))) mYes (mTup (mCons (mBin oAdd (mVar 8) (mVar 3)) (mCons (mBin oAdd (mVar 9) (mVar 3)) (mCons (mIfE (mTru (mBin oIsN (mVar 10) (mV .non))) (mBin oAdd (mVar 10) (mVar 3)) (mV .non)) mNil))))) mNil))) (mSeq (mSet 5 (mCall [false, false] den_some_stays (mCons (mVar 6) (mCons (mVar 4) mNil)) [])) (mSeq (mIf (mOr (mTru (mBin oNe (mBin oIsN (mVar 5) (mV .non)) (mCall [false, false, false] den_fits (mCons (mVar 6) (mCons (mVar 4) mNil)) [(.bl false)]))) (mAnd (mTru (mBin oIsN (mVar 5) (mV .non))) (mTru (mBin oIs (mCallK [false, false] den_some_stays mNil (mCons (mVar 4) (mCons (mVar 6) mNil)) 0 2 [1, 0]) (mV .non))))) (mRet (mV (.bl false))) mSkip) (mSeq (mIf (mTru (mBin oIs (mVar 5) (mV .non))) mCt mSkip) (mSeq (mIf (mOr (mNot (mTru (mCB (fIsi isT) (mCons (mVar 5) (mCons (mV (.ty "tuple")) mNil))))) (mOr (mTru (mBin oNe (mCB fLen (mCons (mVar 5) mNil)) (mV (.int 2)))) (mOr (mNot (mTru (mCB (fIsi isT) (mCons (mBin oIx (mVar 5) (mV (.int 0))) (mCons (mV (.ty "tuple")) mNil))))) (mNot (mTru (mCB (fIsi isT) (mCons (mBin oIx (mVar 5) (mV (.int 1))) (mCons (mV (.ty "tuple")) mNil)))))))) (mRet (mV (.bl false))) mSkip) (mSeq (mIf (mOr (mNot (mTru (mCall [false, false, false, false] den__law_fitting (mCons (mVar 2) (mCons (mVar 4) (mCons (mBin oIx (mVar 5) (mV (.int 0))) (mCons (mBin oIx (mVar 5) (mV (.int 1))) mNil)))) []))) (mNot (mTru (mCall [false, false, false, false] den_do_fit (mCons (mVar 6) (mCons (mVar 4) (mCons (mBin oIx (mVar 5) (mV (.int 0))) (mCons (mBin oIx (mVar 5) (mV (.int 1))) mNil)))) [])))) (mRet (mV (.bl false))) mSkip) (mIf (mAnd (mTru (mBin oEq (mVar 3) (mV (.int 0)))) (mTru (mBin oNe (mBin oEq (mCall [false, false] den__law_all (mCons (mVar 2) (mCons (mVar 7) mNil)) []) (mLst mNil)) (mBin oIs (mVar 5) (mV .non))))) (mRet (mV (.bl false))) mSkip))))))))) [.own (.lst [.int a, .int b, .int c]), s1, .dat (pV g f p t), s3, s4, s5, .own (rV g f p t), .dat (notesV ns), .un, .un, .un] fun o e => (o = .nx ∨ o = .ct) ∧ ∃ a b c s1 s2 s3 s4 s5 s6 s7, e = [.own (.lst [.int a, .int b, .int c]), s1, s2, s3, s4, s5, s6, s7, .un, .un, .un] := by
  have fin := fun (a b c k : Int) (k1 : 0 ≤ k) (k2 : k ≤ 1000000000000000000000000000) (s5 : Slot) => t16 (a := a) (b := b) (c := c) (f := f) (s1 := s1) (s5 := s5) g1 g2 ht p1 n0 nl hn (sh_ok g1 g2 k1 k2 n0 hn)
  have c0 := fun (k : Int) P x0 x1 x2 x4 x5 x6 x7 => c16_0 (P := P) (ns := ns) (on := g * k) (x0 := x0) (x1 := x1) (x2 := x2) (x4 := x4) (x5 := x5) (x6 := x6) (x7 := x7) (by omega)
  have ml : ∀ k : Int, ((ns.map (shN (g * k))).map nV) = ((ns.map (shN (g * k))).map nV) := fun _ => rfl
  generalize hC0 : (compS [8, 9, 10] (gT 3 (gsC (gN 8) (gsC (gN 9) (gsC (gN 10) gsN)))) mYes (mTup (mCons (mBin oAdd (mVar 8) (mVar 3)) (mCons (mBin oAdd (mVar 9) (mVar 3)) (mCons (mIfE (mTru (mBin oIsN (mVar 10) (mV .non))) (mBin oAdd (mVar 10) (mVar 3)) (mV .non)) mNil))))) = C0 at c0
  generalize hR : ((mSeq (mSet 5 (mCall [false, false] den_some_stays (mCons (mVar 6) (mCons (mVar 4) mNil)) [])) (mSeq (mIf (mOr (mTru (mBin oNe (mBin oIsN (mVar 5) (mV .non)) (mCall [false, false, false] den_fits (mCons (mVar 6) (mCons (mVar 4) mNil)) [(.bl false)]))) (mAnd (mTru (mBin oIsN (mVar 5) (mV .non))) (mTru (mBin oIs (mCallK [false, false] den_some_stays mNil (mCons (mVar 4) (mCons (mVar 6) mNil)) 0 2 [1, 0]) (mV .non))))) (mRet (mV (.bl false))) mSkip) (mSeq (mIf (mTru (mBin oIs (mVar 5) (mV .non))) mCt mSkip) (mSeq (mIf (mOr (mNot (mTru (mCB (fIsi isT) (mCons (mVar 5) (mCons (mV (.ty "tuple")) mNil))))) (mOr (mTru (mBin oNe (mCB fLen (mCons (mVar 5) mNil)) (mV (.int 2)))) (mOr (mNot (mTru (mCB (fIsi isT) (mCons (mBin oIx (mVar 5) (mV (.int 0))) (mCons (mV (.ty "tuple")) mNil))))) (mNot (mTru (mCB (fIsi isT) (mCons (mBin oIx (mVar 5) (mV (.int 1))) (mCons (mV (.ty "tuple")) mNil)))))))) (mRet (mV (.bl false))) mSkip) (mSeq (mIf (mOr (mNot (mTru (mCall [false, false, false, false] den__law_fitting (mCons (mVar 2) (mCons (mVar 4) (mCons (mBin oIx (mVar 5) (mV (.int 0))) (mCons (mBin oIx (mVar 5) (mV (.int 1))) mNil)))) []))) (mNot (mTru (mCall [false, false, false, false] den_do_fit (mCons (mVar 6) (mCons (mVar 4) (mCons (mBin oIx (mVar 5) (mV (.int 0))) (mCons (mBin oIx (mVar 5) (mV (.int 1))) mNil)))) [])))) (mRet (mV (.bl false))) mSkip) (mIf (mAnd (mTru (mBin oEq (mVar 3) (mV (.int 0)))) (mTru (mBin oNe (mBin oEq (mCall [false, false] den__law_all (mCons (mVar 2) (mCons (mVar 7) mNil)) []) (mLst mNil)) (mBin oIs (mVar 5) (mV .non))))) (mRet (mV (.bl false))) mSkip))))))) = R at fin
  generalize rV g f p t = RR at fin ⊢
  unfold notesV pV at fin
  unfold notesV pV
  simp_arith
  refine Ok.mono (r_far (by decide) (by decide)) ?_
  rintro _ _ ⟨d, a1, b1, c1, rfl, rfl, h4, h5⟩
  simp_arith
  refine Ok.mono (r_pick (by simp) (by simp)) ?_
  rintro _ _ ⟨v, a2, b2, c2, hv, rfl, rfl⟩
  have hi : ∃ k : Int, v = .int k ∧ 0 ≤ k ∧ k ≤ 1000000000000000000000000000 := by
    simp only [List.mem_cons, List.not_mem_nil, or_false] at hv
    rcases hv with rfl | rfl | rfl | rfl <;> exact ⟨_, rfl, by omega, by omega⟩
  obtain ⟨k, rfl, k1, k2⟩ := hi
  simp_arith [↓ok_items]
  rw [hC0]
  refine c0 _ _ _ _ _ _ _ _ _ ?_
  simp_arith [↓ok_tupL]
  exact fin _ _ _ _ k1 k2 _
theorem k16_1 : Ok den_some_stays [.dat (rV 30 120 15 "next"), .dat (notesV [(600, 600, some 630)])] Q ↔ Q (.dat .non) [.un, .un] := r_some_none (by decide) (by decide) (by decide) (by decide +kernel) (by decide +kernel)
theorem k16_2 : Ok den_some_stays [.dat (rV 30 120 15 "next"), .dat (notesV [(0, 3, none)])] Q ↔ Q (.dat (.tup [.tup [.int 0], .tup []])) [.un, .un] := r_some_stays (out := [(0, none)]) (f := []) (by decide) (by decide) (by decide) (by decide) (by decide +kernel) (by decide) (by decide +kernel) (by decide +kernel) (by decide)
theorem r_turn_k16 {a b c : Int} {s1 s2 s3 s4 s5 s6 s7 : Slot} : Ok ((mSeq (mSet 2 (mCall [true, false] den__law_plan (mCons (mVar 0) (mCons (mV (.int 6)) mNil)) [])) (mSeq (mPar false [6, 7] (mCons (mCall [false] den__law_made (mCons (mVar 2) mNil) []) (mCons (mCall [true, false, false, false] den__law_rows (mCons (mVar 0) (mCons (mVar 2) (mCons (mV (.int 6)) (mCons (mV (.int 3)) mNil)))) []) mNil))) (mSeq (mSet 3 (mBin oMul (mBin oIx (mVar 2) (mV (.int 0))) (mCall [true, false] den__law_pick (mCons (mVar 0) (mCons (mLst (mCons (mV (.int 0)) (mCons (mV (.int 0)) (mCons (mV (.int 1)) (mCons (mCall [true, false] den__law_far (mCons (mVar 0) (mCons (mBin oPow (mV (.int 10)) (mV (.int 27))) mNil)) []) mNil))))) mNil)) []))) (mSeq (mSet 4 (mCB fTup (mCons (mComp [8, 9, 10] (mItems (mVar 7)) (gT 3 (gsC (gN 8) (gsC (gN 9) (gsC (gN 10) gsN)))) mYes (mTup (mCons (mBin oAdd (mVar 8) (mVar 3)) (mCons (mBin oAdd (mVar 9) (mVar 3)) (mCons (mIfE (mTru (mBin oIsN (mVar 10) (mV .non))) (mBin oAdd (mVar 10) (mVar 3)) (mV .non)) mNil))))) mNil))) (mSeq (mSet 5 (mCall [false, false] den_some_stays (mCons (mVar 6) (mCons (mVar 4) mNil)) [])) (mSeq (mIf (mOr (mTru (mBin oNe (mBin oIsN (mVar 5) (mV .non)) (mCall [false, false, false] den_fits (mCons (mVar 6) (mCons (mVar 4) mNil)) [(.bl false)]))) (mAnd (mTru (mBin oIsN (mVar 5) (mV .non))) (mTru (mBin oIs (mCallK [false, false] den_some_stays mNil (mCons (mVar 4) (mCons (mVar 6) mNil)) 0 2 [1, 0]) (mV .non))))) (mRet (mV (.bl false))) mSkip) (mSeq (mIf (mTru (mBin oIs (mVar 5) (mV .non))) mCt mSkip) (mSeq (mIf (mOr (mNot (mTru (mCB (fIsi isT) (mCons (mVar 5) (mCons (mV (.ty "tuple")) mNil))))) (mOr (mTru (mBin oNe (mCB fLen (mCons (mVar 5) mNil)) (mV (.int 2)))) (mOr (mNot (mTru (mCB (fIsi isT) (mCons (mBin oIx (mVar 5) (mV (.int 0))) (mCons (mV (.ty "tuple")) mNil))))) (mNot (mTru (mCB (fIsi isT) (mCons (mBin oIx (mVar 5) (mV (.int 1))) (mCons (mV (.ty "tuple")) mNil)))))))) (mRet (mV (.bl false))) mSkip) (mSeq (mIf (mOr (mNot (mTru (mCall [false, false, false, false] den__law_fitting (mCons (mVar 2) (mCons (mVar 4) (mCons (mBin oIx (mVar 5) (mV (.int 0))) (mCons (mBin oIx (mVar 5) (mV (.int 1))) mNil)))) []))) (mNot (mTru (mCall [false, false, false, false] den_do_fit (mCons (mVar 6) (mCons (mVar 4) (mCons (mBin oIx (mVar 5) (mV (.int 0))) (mCons (mBin oIx (mVar 5) (mV (.int 1))) mNil)))) [])))) (mRet (mV (.bl false))) mSkip) (mIf (mAnd (mTru (mBin oEq (mVar 3) (mV (.int 0)))) (mTru (mBin oNe (mBin oEq (mCall [false, false] den__law_all (mCons (mVar 2) (mCons (mVar 7) mNil)) []) (mLst mNil)) (mBin oIs (mVar 5) (mV .non))))) (mRet (mV (.bl false))) mSkip))))))))))) [.own (.lst [.int a, .int b, .int c]), s1, s2, s3, s4, s5, s6, s7, .un, .un, .un] fun o e => (o = .nx ∨ o = .ct) ∧ ∃ a b c s1 s2 s3 s4 s5 s6 s7, e = [.own (.lst [.int a, .int b, .int c]), s1, s2, s3, s4, s5, s6, s7, .un, .un, .un] := by
  generalize hR : ((mSeq (mSet 3 (mBin oMul (mBin oIx (mVar 2) (mV (.int 0))) (mCall [true, false] den__law_pick (mCons (mVar 0) (mCons (mLst (mCons (mV (.int 0)) (mCons (mV (.int 0)) (mCons (mV (.int 1)) (mCons (mCall [true, false] den__law_far (mCons (mVar 0) (mCons (mBin oPow (mV (.int 10)) (mV (.int 27))) mNil)) []) mNil))))) mNil)) []))) (mSeq (mSet 4 (mCB fTup (mCons (mComp [8, 9, 10] (mItems (mVar 7)) (gT 3 (gsC (gN 8) (gsC (gN 9) (gsC (gN 10) gsN)))) mYes (mTup (mCons (mBin oAdd (mVar 8) (mVar 3)) (mCons (mBin oAdd (mVar 9) (mVar 3)) (mCons (mIfE (mTru (mBin oIsN (mVar 10) (mV .non))) (mBin oAdd (mVar 10) (mVar 3)) (mV .non)) mNil))))) mNil))) (mSeq (mSet 5 (mCall [false, false] den_some_stays (mCons (mVar 6) (mCons (mVar 4) mNil)) [])) (mSeq (mIf (mOr (mTru (mBin oNe (mBin oIsN (mVar 5) (mV .non)) (mCall [false, false, false] den_fits (mCons (mVar 6) (mCons (mVar 4) mNil)) [(.bl false)]))) (mAnd (mTru (mBin oIsN (mVar 5) (mV .non))) (mTru (mBin oIs (mCallK [false, false] den_some_stays mNil (mCons (mVar 4) (mCons (mVar 6) mNil)) 0 2 [1, 0]) (mV .non))))) (mRet (mV (.bl false))) mSkip) (mSeq (mIf (mTru (mBin oIs (mVar 5) (mV .non))) mCt mSkip) (mSeq (mIf (mOr (mNot (mTru (mCB (fIsi isT) (mCons (mVar 5) (mCons (mV (.ty "tuple")) mNil))))) (mOr (mTru (mBin oNe (mCB fLen (mCons (mVar 5) mNil)) (mV (.int 2)))) (mOr (mNot (mTru (mCB (fIsi isT) (mCons (mBin oIx (mVar 5) (mV (.int 0))) (mCons (mV (.ty "tuple")) mNil))))) (mNot (mTru (mCB (fIsi isT) (mCons (mBin oIx (mVar 5) (mV (.int 1))) (mCons (mV (.ty "tuple")) mNil)))))))) (mRet (mV (.bl false))) mSkip) (mSeq (mIf (mOr (mNot (mTru (mCall [false, false, false, false] den__law_fitting (mCons (mVar 2) (mCons (mVar 4) (mCons (mBin oIx (mVar 5) (mV (.int 0))) (mCons (mBin oIx (mVar 5) (mV (.int 1))) mNil)))) []))) (mNot (mTru (mCall [false, false, false, false] den_do_fit (mCons (mVar 6) (mCons (mVar 4) (mCons (mBin oIx (mVar 5) (mV (.int 0))) (mCons (mBin oIx (mVar 5) (mV (.int 1))) mNil)))) [])))) (mRet (mV (.bl false))) mSkip) (mIf (mAnd (mTru (mBin oEq (mVar 3) (mV (.int 0)))) (mTru (mBin oNe (mBin oEq (mCall [false, false] den__law_all (mCons (mVar 2) (mCons (mVar 7) mNil)) []) (mLst mNil)) (mBin oIs (mVar 5) (mV .non))))) (mRet (mV (.bl false))) mSkip))))))))) = R
  simp_arith
  refine Ok.mono (r_planW (by omega) (by omega)) ?_
  rintro _ _ ⟨g, t, f, p, a1, b1, c1, rfl, rfl, ⟨g1, g2⟩, ht, ⟨f1, f2⟩, p1, p2⟩
  have rm := fun Q => r_made (Q := Q) (s := g) (l := f) (p := p) g1 (by omega) f1 (by omega) p1 (by omega) ht
  have rp := fun (a b c : Int) => r_rows (a := a) (b := b) (c := c) (g := g) (f := f) (p := p) (many := 6) (w := 3) ht g1 (by omega) f1 (by omega) (by omega) (by omega) (by omega) (by omega)
  unfold pV at rp
  unfold pV
  simp_arith [↓rm]
  refine Ok.mono (rp _ _ _) ?_
  rintro _ _ ⟨ns, a2, b2, c2, rfl, rfl, n0, nl, hn⟩
  simp_arith
  have fin := fun (s3 s4 s5 : Slot) => r_fin_k16 (a := a2) (b := b2) (c := c2) (f := f) (s1 := s1) (s3 := s3) (s4 := s4) (s5 := s5) g1 g2 ht f1 f2 p1 p2 n0 nl hn
  unfold pV at fin
  subst hR
  exact fin _ _ _
theorem r_right_k16 {a b c : Int} : Ok den__law_right_k16 [.own (.lst [.int a, .int b, .int c])] fun r _ => r = .dat (.bl true) := by
  unfold den__law_right_k16
  rw [ok_d1]
  unfold b__law_right_k16
  refine Ok.seq (fun _ => True) ?_ ?_
  · generalize hR : ((mSeq (mSet 2 (mCall [true, false] den__law_plan (mCons (mVar 0) (mCons (mV (.int 6)) mNil)) [])) (mSeq (mPar false [6, 7] (mCons (mCall [false] den__law_made (mCons (mVar 2) mNil) []) (mCons (mCall [true, false, false, false] den__law_rows (mCons (mVar 0) (mCons (mVar 2) (mCons (mV (.int 6)) (mCons (mV (.int 3)) mNil)))) []) mNil))) (mSeq (mSet 3 (mBin oMul (mBin oIx (mVar 2) (mV (.int 0))) (mCall [true, false] den__law_pick (mCons (mVar 0) (mCons (mLst (mCons (mV (.int 0)) (mCons (mV (.int 0)) (mCons (mV (.int 1)) (mCons (mCall [true, false] den__law_far (mCons (mVar 0) (mCons (mBin oPow (mV (.int 10)) (mV (.int 27))) mNil)) []) mNil))))) mNil)) []))) (mSeq (mSet 4 (mCB fTup (mCons (mComp [8, 9, 10] (mItems (mVar 7)) (gT 3 (gsC (gN 8) (gsC (gN 9) (gsC (gN 10) gsN)))) mYes (mTup (mCons (mBin oAdd (mVar 8) (mVar 3)) (mCons (mBin oAdd (mVar 9) (mVar 3)) (mCons (mIfE (mTru (mBin oIsN (mVar 10) (mV .non))) (mBin oAdd (mVar 10) (mVar 3)) (mV .non)) mNil))))) mNil))) (mSeq (mSet 5 (mCall [false, false] den_some_stays (mCons (mVar 6) (mCons (mVar 4) mNil)) [])) (mSeq (mIf (mOr (mTru (mBin oNe (mBin oIsN (mVar 5) (mV .non)) (mCall [false, false, false] den_fits (mCons (mVar 6) (mCons (mVar 4) mNil)) [(.bl false)]))) (mAnd (mTru (mBin oIsN (mVar 5) (mV .non))) (mTru (mBin oIs (mCallK [false, false] den_some_stays mNil (mCons (mVar 4) (mCons (mVar 6) mNil)) 0 2 [1, 0]) (mV .non))))) (mRet (mV (.bl false))) mSkip) (mSeq (mIf (mTru (mBin oIs (mVar 5) (mV .non))) mCt mSkip) (mSeq (mIf (mOr (mNot (mTru (mCB (fIsi isT) (mCons (mVar 5) (mCons (mV (.ty "tuple")) mNil))))) (mOr (mTru (mBin oNe (mCB fLen (mCons (mVar 5) mNil)) (mV (.int 2)))) (mOr (mNot (mTru (mCB (fIsi isT) (mCons (mBin oIx (mVar 5) (mV (.int 0))) (mCons (mV (.ty "tuple")) mNil))))) (mNot (mTru (mCB (fIsi isT) (mCons (mBin oIx (mVar 5) (mV (.int 1))) (mCons (mV (.ty "tuple")) mNil)))))))) (mRet (mV (.bl false))) mSkip) (mSeq (mIf (mOr (mNot (mTru (mCall [false, false, false, false] den__law_fitting (mCons (mVar 2) (mCons (mVar 4) (mCons (mBin oIx (mVar 5) (mV (.int 0))) (mCons (mBin oIx (mVar 5) (mV (.int 1))) mNil)))) []))) (mNot (mTru (mCall [false, false, false, false] den_do_fit (mCons (mVar 6) (mCons (mVar 4) (mCons (mBin oIx (mVar 5) (mV (.int 0))) (mCons (mBin oIx (mVar 5) (mV (.int 1))) mNil)))) [])))) (mRet (mV (.bl false))) mSkip) (mIf (mAnd (mTru (mBin oEq (mVar 3) (mV (.int 0)))) (mTru (mBin oNe (mBin oEq (mCall [false, false] den__law_all (mCons (mVar 2) (mCons (mVar 7) mNil)) []) (mLst mNil)) (mBin oIs (mVar 5) (mV .non))))) (mRet (mV (.bl false))) mSkip))))))))))) = R
    simp_arith
    subst hR
    refine Ok.mono (Ok.loop (fun _ e => ∃ a b c s1 s2 s3 s4 s5 s6 s7, e = [.own (.lst [.int a, .int b, .int c]), s1, s2, s3, s4, s5, s6, s7, .un, .un, .un]) (i := 0) ⟨_, _, _, _, _, _, _, _, _, _, rfl⟩ ?_) ?_
    · rintro j v e hv ⟨a, b, c, s1, s2, s3, s4, s5, s6, s7, rfl⟩
      generalize hR : ((mSeq (mSet 2 (mCall [true, false] den__law_plan (mCons (mVar 0) (mCons (mV (.int 6)) mNil)) [])) (mSeq (mPar false [6, 7] (mCons (mCall [false] den__law_made (mCons (mVar 2) mNil) []) (mCons (mCall [true, false, false, false] den__law_rows (mCons (mVar 0) (mCons (mVar 2) (mCons (mV (.int 6)) (mCons (mV (.int 3)) mNil)))) []) mNil))) (mSeq (mSet 3 (mBin oMul (mBin oIx (mVar 2) (mV (.int 0))) (mCall [true, false] den__law_pick (mCons (mVar 0) (mCons (mLst (mCons (mV (.int 0)) (mCons (mV (.int 0)) (mCons (mV (.int 1)) (mCons (mCall [true, false] den__law_far (mCons (mVar 0) (mCons (mBin oPow (mV (.int 10)) (mV (.int 27))) mNil)) []) mNil))))) mNil)) []))) (mSeq (mSet 4 (mCB fTup (mCons (mComp [8, 9, 10] (mItems (mVar 7)) (gT 3 (gsC (gN 8) (gsC (gN 9) (gsC (gN 10) gsN)))) mYes (mTup (mCons (mBin oAdd (mVar 8) (mVar 3)) (mCons (mBin oAdd (mVar 9) (mVar 3)) (mCons (mIfE (mTru (mBin oIsN (mVar 10) (mV .non))) (mBin oAdd (mVar 10) (mVar 3)) (mV .non)) mNil))))) mNil))) (mSeq (mSet 5 (mCall [false, false] den_some_stays (mCons (mVar 6) (mCons (mVar 4) mNil)) [])) (mSeq (mIf (mOr (mTru (mBin oNe (mBin oIsN (mVar 5) (mV .non)) (mCall [false, false, false] den_fits (mCons (mVar 6) (mCons (mVar 4) mNil)) [(.bl false)]))) (mAnd (mTru (mBin oIsN (mVar 5) (mV .non))) (mTru (mBin oIs (mCallK [false, false] den_some_stays mNil (mCons (mVar 4) (mCons (mVar 6) mNil)) 0 2 [1, 0]) (mV .non))))) (mRet (mV (.bl false))) mSkip) (mSeq (mIf (mTru (mBin oIs (mVar 5) (mV .non))) mCt mSkip) (mSeq (mIf (mOr (mNot (mTru (mCB (fIsi isT) (mCons (mVar 5) (mCons (mV (.ty "tuple")) mNil))))) (mOr (mTru (mBin oNe (mCB fLen (mCons (mVar 5) mNil)) (mV (.int 2)))) (mOr (mNot (mTru (mCB (fIsi isT) (mCons (mBin oIx (mVar 5) (mV (.int 0))) (mCons (mV (.ty "tuple")) mNil))))) (mNot (mTru (mCB (fIsi isT) (mCons (mBin oIx (mVar 5) (mV (.int 1))) (mCons (mV (.ty "tuple")) mNil)))))))) (mRet (mV (.bl false))) mSkip) (mSeq (mIf (mOr (mNot (mTru (mCall [false, false, false, false] den__law_fitting (mCons (mVar 2) (mCons (mVar 4) (mCons (mBin oIx (mVar 5) (mV (.int 0))) (mCons (mBin oIx (mVar 5) (mV (.int 1))) mNil)))) []))) (mNot (mTru (mCall [false, false, false, false] den_do_fit (mCons (mVar 6) (mCons (mVar 4) (mCons (mBin oIx (mVar 5) (mV (.int 0))) (mCons (mBin oIx (mVar 5) (mV (.int 1))) mNil)))) [])))) (mRet (mV (.bl false))) mSkip) (mIf (mAnd (mTru (mBin oEq (mVar 3) (mV (.int 0)))) (mTru (mBin oNe (mBin oEq (mCall [false, false] den__law_all (mCons (mVar 2) (mCons (mVar 7) mNil)) []) (mLst mNil)) (mBin oIs (mVar 5) (mV .non))))) (mRet (mV (.bl false))) mSkip))))))))))) = R
      simp_arith
      subst hR
      refine Ok.mono r_turn_k16 ?_
      rintro o e ⟨ho, a, b, c, s1, s2, s3, s4, s5, s6, s7, rfl⟩
      exact ⟨ho, a, b, c, s1, s2, s3, s4, s5, s6, s7, rfl⟩
    · rintro o e ⟨rfl, _⟩
      exact ⟨rfl, trivial⟩
  · intro e1 _
    simp_arith
theorem one_k16 {ns : List Int} {i : Int} {s1 : Slot} (i1 : 0 ≤ i) : Ok (gN 2 (.int i)) [.dat (.lst (ns.map .int)), s1, .un] fun _ e1 => Ok (mCall [true] den__law_right_k16 (mCons (mCall [false, false] den__law_flask (mCons (mVar 0) (mCons (mVar 2) mNil)) []) mNil) []) e1 fun x e3 => Ok (M.dt x) e3 fun w e4 => w = .bl true ∧ wipeE e4 [2] = [.dat (.lst (ns.map .int)), s1, .un] := by
  simp_arith
  refine Ok.mono (r_flask i1) ?_
  rintro _ _ ⟨a, b, c, rfl, rfl⟩
  simp_arith
  refine Ok.mono r_right_k16 ?_
  rintro _ _ rfl
  simp_arith [↓back_t]
theorem r_law_k16 {ns : List Int} : Ok den_law_k16 [.dat (.lst (ns.map .int))] fun r _ => r = .dat (.bl true) := by
  have k1 := fun Q => k16_1 (Q := Q)
  have k2 := fun Q => k16_2 (Q := Q)
  simp only [notesV, List.map_cons, List.map_nil, nV, optV_some, optV_none] at k1 k2
  simp_arith [↓den_law_k16, ↓b_law_k16, ↓r_init (s := 30) (l := 120) (p := 15) (by decide) (by decide) (by decide) (by decide) (by decide) (by decide) n1, ↓k1, ↓k2]
  obtain ⟨b1, b2⟩ := clamp (len := ((ns.map Val.int).length : Int)) (m := 4) (by decide)
  generalize (if (2 : Int) < (if 4 < ((ns.map Val.int).length : Int) then 4 else ((ns.map Val.int).length : Int)) then (if 4 < ((ns.map Val.int).length : Int) then 4 else ((ns.map Val.int).length : Int)) else 2) = n at b1 b2 ⊢
  refine ⟨⟨by omega, by omega⟩, ?_⟩
  with_reducible refine Ok.mono (all_right2 (n := n) (by omega) (by omega) (fun i i1 _ => one_k16 i1)) ?_
  intro r e' hh
  have h1 := hh.1
  have h2 := hh.2
  subst h1
  clear hh
  clear k1 k2
  simp_arith [↓ok_allT h2]
theorem good_k16 (ns : List Int) (_ : ns.length ≤ 63) : ∃ e', den_law_k16 [.dat (.lst (ns.map .int))] = .ok (.dat (.bl true)) e' := by
  with_reducible refine gen_ok (d := den_law_k16) (e := [.dat (.lst (ns.map .int))]) ?_
  with_reducible exact r_law_k16
end
end Pu.Q
open PySem PySem.W PySem.Calls PyProof.Rows
theorem Pu.Q.holds_of (good : ∀ ns : List Int, ns.length ≤ 63 → ∃ e', Pu.Q.den_law_k16 [.dat (.lst (ns.map .int))] = .ok (.dat (.bl true)) e') : PySem.Challenge.rw_discwarden_k16_whole_stays_that_are_show.Holds := by
  w_on; o_law
  refine HandSHeadRun.head_any (r := OpenLaw.row PySem.Challenge.rw_discwarden_k16_whole_stays_that_are_show) (q := view (OpenLaw.row PySem.Challenge.rw_discwarden_k16_whole_stays_that_are_show).prog [57]) (H := Pu.Q.hk) (ob := Pu.Q.ob) (M := 20000) (loose := Pu.Q.loose) (d := HandSHeadRun.topDef (OpenLaw.row PySem.Challenge.rw_discwarden_k16_whole_stays_that_are_show).prog 57) (kwd := []) Pu.Q.ob_eq
    (by kernel_rfl) (fun s => by kernel_rfl) Pu.Q.run (by kernel_rfl) (by kernel_rfl) (by kernel_rfl) (by rfl) (by first | assumption | decide +kernel) (by decide +kernel) ⟨rfl, rfl, rfl, rfl, rfl, by decide +kernel⟩ ?hw ?hc
  case hw => w_witness2
  case hc =>
    refine Pu.walk_goes (l := PySem.Challenge.rw_discwarden_k16_whole_stays_that_are_show) (n := 63) (k := 9) (x := "_law_script") rfl (by decide) (by kernel_rfl) ⟨rfl, by decide, by decide⟩ ?F
    intro w mg fa h Y G hmg0
    obtain ⟨K, KX, c, te⟩ := Y
    have hmg : mg ("law" : PySem.Str) = some (.ref fa) := by
      have e : (HandSHeadRun.topDef (OpenLaw.row PySem.Challenge.rw_discwarden_k16_whole_stays_that_are_show).prog 57).name = ("law" : PySem.Str) := by kernel_rfl
      rw [← e]
      exact hmg0
    have here := Pu.Q.law_at KX G c
    have e := hmg.symm.trans here
    cases e
    obtain ⟨fd, F⟩ := c.a.def_ Pu.Q.fnLaw (d := Pu.Q.d_law_k16) rfl
    have b := L2.FunD.bindsA (ps := ["_law_script"]) F fun _ _ _ _ _ _ us hl => match us, hl with | [_], _ => rfl
    refine ⟨K, fd, Pu.Q.den_law_k16, KX, c.nl, te, fun s v => b s [v] rfl, good, fun base _ _ tb => ?_⟩
    obtain ⟨fd2, F2, G2⟩ := (Pu.Q.all_ok (P := PySem.Challenge.rw_discwarden_k16_whole_stays_that_are_show.prog) (w := w) (base := base) KX G c te.one tb).ex
    have same := Pu.funD_fd F F2
    subst same
    exact G2
theorem PySem.Challenge.cw_discwarden_k16_whole_stays_that_are_show_holds : PySem.Challenge.rw_discwarden_k16_whole_stays_that_are_show.Holds := by
  exact Pu.Q.holds_of Pu.Q.good_k16
