import PyProof.Rows.All
import Wide.All
import OpenK.AllK
import Wide.FinOn
import HandS.ForMost
import HandS.ForExc
import HandS.HeadHook1
import HandS.HeadHook2
import HandS.Lambda
import HandS.HotCalls
import HandS.ExcCtx
import HandS.Wide
import HandS.IsInst
import HandS.TupAny
import HandS.RaiseMore
import HandS.Walk
import HandS.Style
import HandS.TryOnly
import HandS.Property
import KE.KStateDown
import HandS.Ends
import HandS.HeadEnd
import HandS.Head2
import HandS.HeadNt
import HandS.HeadHook4
import HandS.EndTab
import HandS.WideBits
import HandS.Flt
import KE.GoesEnum
import KE.GoesMore
import KE.GoesZip
import HandS.Star
import HandS.Defaults
import HandS.SetFor
import HandS.Strs
import HandS.SortInts
import HandS.Conv
import HandS.OwnEq
import HandS.ExcValue
import HandS.TupMul
import HandS.FStr
import HandS.ClsMeth
import HandS.HeadHook3
import PySem.Challenge.RW_discwarden_k07_whole_rules_compared
set_option Elab.async false
set_option linter.all false
set_option maxRecDepth 100000
namespace Pu
open PySem PySem.Spec PyProof.Rows L2
abbrev Sig := L2.St
inductive Val where
  | non | bl (b : Bool) | int (i : Int) | str (x : Str) | ty (n : String) | glo (x : Str)
  | tup (xs : List Val) | lst (xs : List Val) | obj (C : Str) (fs : List Str) (vs : List Val) | dct (ks : List Key) (vs : List Val)
mutual
inductive VR (K : PySem.W.Frag) (F : Hp) : Val → V → Prop
  | non : VR K F .non .non
  | bl (b : Bool) : VR K F (.bl b) (.bl b)
  | int (i : Int) : VR K F (.int i) (.int i)
  | str (x : Str) : VR K F (.str x) (.str x)
  | ty (n : String) : VR K F (.ty n) (.ty n)
  | glo (x : Str) : VR K F (.glo x) (.ref (He.ga K x))
  | tup {a : Addr} {us : List V} {xs : List Val} : SqT K F a us → VRs K F xs us → VR K F (.tup xs) (.ref a)
  | lst {a : Addr} {us : List V} {xs : List Val} : Rd F a (.lst us) → VRs K F xs us → VR K F (.lst xs) (.ref a)
  | obj {a dx : Addr} {C : Str} {fs : List Str} {us : List V} {vs : List Val} : F a = some (.ins (He.ga K C) dx (fs.zip us)) → fs.length = us.length → VRs K F vs us → VR K F (.obj C fs vs) (.ref a)
  | dct {a : Addr} {ks : List Key} {us : List V} {vs : List Val} : F a = some (.dK (ks.zip us)) → ks.length = us.length → VRs K F vs us → VR K F (.dct ks vs) (.ref a)
inductive VRs (K : PySem.W.Frag) (F : Hp) : List Val → List V → Prop
  | nil : VRs K F [] []
  | cons {v : Val} {u : V} {vs : List Val} {us : List V} : VR K F v u → VRs K F vs us → VRs K F (v :: vs) (u :: us)
end
section
variable {K : PySem.W.Frag} {F F' H H' : Hp}
theorem sqT_mono {a : Addr} {us : List V} (e : Same F F') (h : SqT K F a us) : SqT K F' a us := by
  rcases h with (h | ⟨o, h⟩) | h
  · exact .inl (.inl (e _ _ h))
  · exact .inl (.inr ⟨o, e _ _ h⟩)
  · exact .inr h
theorem rd_mono {a : Addr} {o : HO} (e : Same F F') (h : Rd F a o) : Rd F' a o := by
  rcases h with h | ⟨o, h⟩
  · exact .inl (e _ _ h)
  · exact .inr ⟨o, e _ _ h⟩
theorem VR.mono {v : Val} {u : V} (e : Same F F') (h : VR K F v u) : VR K F' v u :=
  VR.rec (motive_1 := fun v u _ => VR K F' v u) (motive_2 := fun vs us _ => VRs K F' vs us)
    .non (fun b => .bl b) (fun i => .int i) (fun x => .str x) (fun n => .ty n) (fun x => .glo x)
    (fun s _ ih => .tup (sqT_mono e s) ih) (fun s _ ih => .lst (rd_mono e s) ih) (fun s l _ ih => .obj (e _ _ s) l ih) (fun s l _ ih => .dct (e _ _ s) l ih) .nil (fun _ _ i1 i2 => .cons i1 i2) h
theorem VRs.mono {vs : List Val} {us : List V} (e : Same F F') (h : VRs K F vs us) : VRs K F' vs us :=
  VRs.rec (motive_1 := fun v u _ => VR K F' v u) (motive_2 := fun vs us _ => VRs K F' vs us)
    .non (fun b => .bl b) (fun i => .int i) (fun x => .str x) (fun n => .ty n) (fun x => .glo x)
    (fun s _ ih => .tup (sqT_mono e s) ih) (fun s _ ih => .lst (rd_mono e s) ih) (fun s l _ ih => .obj (e _ _ s) l ih) (fun s l _ ih => .dct (e _ _ s) l ih) .nil (fun _ _ i1 i2 => .cons i1 i2) h
theorem VRs.length {vs : List Val} {us : List V} : VRs K F vs us → vs.length = us.length
  | .nil => rfl
  | .cons _ t => congrArg Nat.succ t.length
theorem VRs.get {vs : List Val} {us : List V} : VRs K F vs us → ∀ {i : Nat} {v : Val}, vs[i]? = some v → ∃ u, us[i]? = some u ∧ VR K F v u
  | .nil, i, v, h => by simp at h
  | .cons r t, 0, v, h => by simp at h; subst h; exact ⟨_, rfl, r⟩
  | .cons r t, i + 1, v, h => by
    obtain ⟨u, h1, h2⟩ := t.get (i := i) (v := v) (by simpa using h)
    exact ⟨u, by simpa using h1, h2⟩
theorem VRs.set {vs : List Val} {us : List V} {v : Val} {u : V} (q : VR K F v u) : VRs K F vs us → ∀ (i : Nat), VRs K F (vs.set i v) (us.set i u)
  | .nil, _ => .nil
  | .cons r t, 0 => .cons q t
  | .cons r t, i + 1 => .cons r (VRs.set q t i)
theorem VRs.take {vs : List Val} {us : List V} (h : VRs K F vs us) : ∀ (n : Nat), VRs K F (vs.take n) (us.take n) := by
  intro n
  induction n generalizing vs us with
  | zero => exact .nil
  | succ n ih => cases h with
    | nil => exact .nil
    | cons r t => exact .cons r (ih t)
theorem VRs.drop {vs : List Val} {us : List V} (h : VRs K F vs us) : ∀ (n : Nat), VRs K F (vs.drop n) (us.drop n) := by
  intro n
  induction n generalizing vs us with
  | zero => exact h
  | succ n ih => cases h with
    | nil => exact .nil
    | cons r t => exact ih t
end
def tabOf (K : PySem.W.Frag) (p : Addr × Obj) : Option (Addr × Addr × Str) := match p.2.data with
  | .func fd => match fd.code with
    | .ref c => match K.lookup c with
      | some oc => match oc.data with
        | .fields vs => match (vs[11]? : Option Value) with
          | some (.ref P) => some (c, P, fd.qualname ++ ".<locals>." ++ "<lambda>")
          | _ => none
        | _ => none
      | none => none
    | _ => none
  | _ => none
def tabs3 (K : PySem.W.Frag) : List (Addr × Addr × Str) := K.filterMap (tabOf K)
def tabsOf (K : PySem.W.Frag) : List (Addr × Str) := (tabs3 K).map (·.2)
def plainO : HO → Bool
  | .tbl _ => false
  | .ext _ => false
  | _ => true
inductive Slot where
  | un | dat (v : Val) | own (v : Val)
abbrev Ev := List Slot
inductive RV where
  | dat (v : Val) | tmp (v : Val) | bor (i : Nat)
inductive Res (α : Type) where
  | ok (a : α) (e : Ev) | rs (x : Val) (e : Ev) | bad
abbrev M (α : Type) := Ev → Res α
def M.bind {α β : Type} (m : M α) (f : α → M β) : M β := fun e => match m e with
  | .ok a e' => f a e'
  | .rs x e' => .rs x e'
  | .bad => .bad
def M.ret {α : Type} (a : α) : M α := fun e => .ok a e
def M.bad {α : Type} : M α := fun _ => .bad
def CellR (K : PySem.W.Frag) (F H : Hp) : Val → Addr → Prop
  | .lst xs, a => ∃ us, H a = some (.lst us) ∧ VRs K F xs us
  | .obj C fs vs, a => ∃ dx us, H a = some (.ins (He.ga K C) dx (fs.zip us)) ∧ fs.length = us.length ∧ VRs K F vs us
  | .dct ks vs, a => ∃ us, H a = some (.dK (ks.zip us)) ∧ ks.length = us.length ∧ VRs K F vs us
  | _, _ => False
def SlotR (K : PySem.W.Frag) (F H : Hp) : Slot → Option V → Prop
  | .un, _ => True
  | .dat v, o => ∃ u, o = some u ∧ VR K F v u
  | .own v, o => ∃ a, o = some (.ref a) ∧ F a = none ∧ CellR K F H v a
def Own (e : Ev) (σ : Sig) (a : Addr) : Prop := ∃ (i : Nat) (v : Val), e[i]? = some (.own v) ∧ σ[i]? = some (some (.ref a))
structure Rel (K : PySem.W.Frag) (F H : Hp) (e : Ev) (σ : Sig) : Prop where
  sub : Same F H
  len : e.length = σ.length
  slot : ∀ (i : Nat) (s : Slot) (o : Option V), e[i]? = some s → σ[i]? = some o → SlotR K F H s o
  inj : ∀ (i j : Nat) (v w : Val) (a : Addr), e[i]? = some (.own v) → e[j]? = some (.own w) → σ[i]? = some (some (.ref a)) → σ[j]? = some (some (.ref a)) → i = j
  tb : LamX.Tabs (tabsOf K) H
  nt : ∀ a ps, F a ≠ some (.tbl ps)
structure Bg where
  O : Addr → Prop
  F : Hp
  H : Hp
  /-- so many of the first names are the parameters; what they were, and stood for -/
  np : Nat
  ev : Ev
  sg : Sig
def Bg.mine (B : Bg) (a : Addr) : Prop := B.O a ∨ B.H a = none
structure Post (B : Bg) (F H : Hp) : Prop where
  sub : Same B.F F
  fr : ∀ a o, B.H a = some o → ¬ B.O a → (∀ ps, o ≠ .tbl ps) → H a = some o
  nw : ∀ a, F a ≠ none → B.F a ≠ none ∨ B.mine a
  kp : ∀ a, H a = none → B.H a = none
structure Cur (K : PySem.W.Frag) (B : Bg) (F H : Hp) (e : Ev) (σ : Sig) : Prop where
  post : Post B F H
  rel : Rel K F H e σ
  own : ∀ a, Own e σ a → B.mine a
  ln : e.length = B.ev.length
  par : ∀ (i : Nat) (v : Val), i < B.np → e[i]? = some (.own v) → σ[i]? = B.sg[i]? ∧ ∃ w, B.ev[i]? = some (.own w)
def bg (np : Nat) (F H : Hp) (e : Ev) (σ : Sig) : Bg := ⟨Own e σ, F, H, np, e, σ⟩
section
variable {K : PySem.W.Frag} {B : Bg} {F F' H H' : Hp} {e e' : Ev} {σ σ' : Sig}
theorem Post.refl {np : Nat} : Post (bg np F H e σ) F H := ⟨Same.refl _, fun _ _ h _ _ => h, fun _ h => .inl h, fun _ h => h⟩
theorem Cur.refl {np : Nat} (R : Rel K F H e σ) : Cur K (bg np F H e σ) F H e σ := ⟨Post.refl, R, fun _ h => .inl h, rfl, fun _ v _ h => ⟨rfl, v, h⟩⟩
theorem Cur.post_trans (C : Cur K B F H e σ) (p : Post (bg B.np F H e σ) F' H') : Post B F' H' where
  sub := C.post.sub.trans p.sub
  fr := fun a o h n t => p.fr a o (C.post.fr a o h n t) (fun q => by
    rcases C.own a q with z | z
    · exact n z
    · rw [z] at h; cases h) t
  nw := fun a h => by
    rcases p.nw a h with z | z
    · exact C.post.nw a z
    · rcases z with z | z
      · exact .inr (C.own a z)
      · exact .inr (.inr (C.post.kp a z))
  kp := fun a h => C.post.kp a (p.kp a h)
theorem Cur.mine_of (C : Cur K B F H e σ) {a : Addr} {np : Nat} (h : (bg np F H e σ).mine a) : B.mine a := by
  rcases h with z | z
  · exact C.own a z
  · exact .inr (C.post.kp a z)
theorem Cur.trans (C : Cur K B F H e σ) (p : Cur K (bg B.np F H e σ) F' H' e' σ') : Cur K B F' H' e' σ' := ⟨C.post_trans p.post, p.rel, fun a h => C.mine_of (p.own a h), p.ln.trans C.ln, fun i v hi h => by
  obtain ⟨h1, w, h2⟩ := p.par i v hi h
  obtain ⟨h3, h4⟩ := C.par i w hi h2
  exact ⟨h1.trans h3, h4⟩⟩
end
def RR (K : PySem.W.Frag) (B : Bg) (F H : Hp) (e : Ev) (σ : Sig) : RV → V → Prop
  | .dat v, u => VR K F v u
  | .tmp v, u => ∃ t, u = .ref t ∧ F t = none ∧ CellR K F H v t ∧ ¬ Own e σ t ∧ B.mine t
  | .bor i, u => σ[i]? = some (some u)
inductive RRs (K : PySem.W.Frag) (B : Bg) (F H : Hp) (e : Ev) (σ : Sig) : List RV → List V → Prop
  | nil : RRs K B F H e σ [] []
  | cons {r : RV} {u : V} {rs : List RV} {us : List V} : RR K B F H e σ r u → (∀ v, r = .tmp v → ∀ (j : Nat) w, rs[j]? = some (.tmp w) → us[j]? ≠ some u) → RRs K B F H e σ rs us → RRs K B F H e σ (r :: rs) (u :: us)
def XR (K : PySem.W.Frag) (F H : Hp) : Val → Value → Option Addr → Prop
  | .obj C fs vs, cls, d => cls = .ref (He.ga K C) ∧ ((fs = [] ∧ vs = [] ∧ d = none) ∨ ∃ dx us, d = some dx ∧ H dx = some (.xd (fs.zip us)) ∧ fs.length = us.length ∧ VRs K F vs us)
  | _, _, _ => False
def At {α β : Type} (K : PySem.W.Frag) (W : WX) (R : Bg → Hp → Hp → Ev → Sig → α → β → Prop) (B : Bg) (m : M α) (F : Hp) (e : Ev) (σ : Sig) (H : Hp) (Q : β → Hp → Prop) : Prop :=
  match m e with
  | .ok r e' => ∀ F' H' u, Cur K B F' H' e' σ → R B F' H' e' σ r u → Q u H'
  | .rs x e' => ∀ F' H' cls d, Cur K B F' H' e' σ → XR K F' H' x cls d → W cls d σ H'
  | .bad => False
def tM {α β : Type} (K : PySem.W.Frag) (W : WX) (R : Bg → Hp → Hp → Ev → Sig → α → β → Prop) (m : M α) : Sig → Hp → (β → Hp → Prop) → Prop := fun σ H Q =>
  ∃ np F e, Rel K F H e σ ∧ At K W R (bg np F H e σ) m F e σ H Q
theorem RR.out {K : PySem.W.Frag} {B : Bg} {F0 H0 F H : Hp} {e0 e : Ev} {σ0 σ : Sig} {r : RV} {u : V} {np : Nat} (C : Cur K B F0 H0 e0 σ0) (h : RR K (bg np F0 H0 e0 σ0) F H e σ r u) : RR K B F H e σ r u := by
  cases r with
  | dat v => exact h
  | bor i => exact h
  | tmp v =>
    obtain ⟨t, h1, h2, h3, h4, h5⟩ := h
    exact ⟨t, h1, h2, h3, h4, C.mine_of h5⟩
end Pu
set_option Elab.async false
set_option linter.all false
set_option maxRecDepth 100000
namespace Pu
open PySem PySem.Spec PyProof.Rows L2
structure FnG (P : Program) (w : World) (K : PySem.W.Frag) (mg : Str → Option Value) (base : Heap) (k : Nat) (f : Addr) (fd : FuncData) (ps : List Str) (sp : Sp) : Prop where
  many : ∀ vs H Q E, sp vs H Q E → vs.length = ps.length
  goes : ∀ (A : Around) (outer : List Env) (s : Shared) (H : Hp) (args : Args) (us : List Value) (vs : List V) (Q : VK) (E : XK), Room k A → A.guards = some [] → Env0 P w K mg base A outer s H →
    BindsTo s fd args (ps.zip us) → Vals vs us → sp vs H Q E →
    codeAny (model P w) A (.call (.ref f) args) (CR (L2N.CX P w) outer P w H s Q E) s
theorem FnG.up {P : Program} {w : World} {K : PySem.W.Frag} {mg : Str → Option Value} {base : Heap} {j k : Nat} {f : Addr} {fd : FuncData} {ps : List Str} {sp : Sp} (F : FnG P w K mg base j f fd ps sp) (h : j ≤ k) :
    FnG P w K mg base k f fd ps sp :=
  ⟨F.many, fun A o s H a us vs Q E hr => F.goes A o s H a us vs Q E (hr.mono h)⟩
end Pu
set_option Elab.async false
set_option linter.all false
set_option maxRecDepth 100000
namespace Pu
open PySem PySem.Spec PyProof.Rows L2
theorem Slot.dat_ne {v : Val} : ∀ w, Slot.dat v ≠ .own w := fun _ z => nomatch z
def RdR (K : PySem.W.Frag) (F H : Hp) (v : Val) (u : V) : Prop := VR K F v u ∨ ∃ t, u = .ref t ∧ CellR K F H v t
inductive RdRs (K : PySem.W.Frag) (F H : Hp) : List Val → List V → Prop
  | nil : RdRs K F H [] []
  | cons {v : Val} {u : V} {vs : List Val} {us : List V} : RdR K F H v u → RdRs K F H vs us → RdRs K F H (v :: vs) (u :: us)
def rd (r : RV) (e : Ev) : Option Val := match r with
  | .dat v => some v
  | .tmp v => some v
  | .bor i => match e[i]? with
    | some (.own v) => some v
    | some (.dat v) => some v
    | _ => none
def M.rd (r : RV) : M Val := fun e => match Pu.rd r e with
  | some v => .ok v e
  | none => .bad
def M.rds : List RV → M (List Val)
  | [] => M.ret []
  | r :: rs => (M.rd r).bind fun v => (M.rds rs).bind fun vs => M.ret (v :: vs)
def M.dt (r : RV) : M Val := fun e => match r with
  | .dat v => .ok v e
  | .tmp v => .ok v e
  | .bor i => match e[i]? with
    | some (.own v) => .ok v (e.set i (.dat v))
    | some (.dat v) => .ok v e
    | _ => .bad
def M.dts : List RV → M (List Val)
  | [] => M.ret []
  | r :: rs => (M.dt r).bind fun v => (M.dts rs).bind fun vs => M.ret (v :: vs)
theorem M.bind_assoc {α β γ : Type} (m : M α) (f : α → M β) (g : β → M γ) : (m.bind f).bind g = m.bind fun x => (f x).bind g := by
  funext e
  unfold M.bind
  cases m e <;> rfl
section
variable {K : PySem.W.Frag} {W : WX} {B : Bg} {F F' H H' : Hp} {e : Ev} {σ : Sig}
theorem CellR.vr {v : Val} {t : Addr} (h : CellR K F H v t) (s : Same F F') (a : F' t = H t) : VR K F' v (.ref t) := by
  cases v with
  | lst xs =>
    obtain ⟨us, h1, h2⟩ := h
    exact .lst (.inl (a.trans h1)) (h2.mono s)
  | obj C fs vs =>
    obtain ⟨dx, us, h1, h2, h3⟩ := h
    exact .obj (a.trans h1) h2 (h3.mono s)
  | dct ks vs =>
    obtain ⟨us, h1, h2, h3⟩ := h
    exact .dct (a.trans h1) h2 (h3.mono s)
  | _ => exact h.elim
theorem CellR.mono {v : Val} {t : Addr} (h : CellR K F H v t) (s : Same F F') (a : H' t = H t) : CellR K F' H' v t := by
  cases v with
  | lst xs =>
    obtain ⟨us, h1, h2⟩ := h
    exact ⟨us, a.trans h1, h2.mono s⟩
  | obj C fs vs =>
    obtain ⟨dx, us, h1, h2, h3⟩ := h
    exact ⟨dx, us, a.trans h1, h2, h3.mono s⟩
  | dct ks vs =>
    obtain ⟨us, h1, h2, h3⟩ := h
    exact ⟨us, a.trans h1, h2, h3.mono s⟩
  | _ => exact h.elim
theorem CellR.some {v : Val} {t : Addr} (h : CellR K F H v t) : ∃ o, H t = some o := by
  cases v with
  | lst xs =>
    obtain ⟨us, h1, h2⟩ := h
    exact ⟨_, h1⟩
  | obj C fs vs =>
    obtain ⟨dx, us, h1, h2, h3⟩ := h
    exact ⟨_, h1⟩
  | dct ks vs =>
    obtain ⟨us, h1, h2, h3⟩ := h
    exact ⟨_, h1⟩
  | _ => exact h.elim
theorem CellR.someP {v : Val} {t : Addr} (h : CellR K F H v t) : ∃ o, H t = Option.some o ∧ plainO o = true := by
  cases v with
  | lst xs =>
    obtain ⟨us, h1, h2⟩ := h
    exact ⟨_, h1, rfl⟩
  | obj C fs vs =>
    obtain ⟨dx, us, h1, h2, h3⟩ := h
    exact ⟨_, h1, rfl⟩
  | dct ks vs =>
    obtain ⟨us, h1, h2, h3⟩ := h
    exact ⟨_, h1, rfl⟩
  | _ => exact h.elim
theorem CellR.nt {v : Val} {t : Addr} (h : CellR K F H v t) (ps : Array Value) : H t ≠ Option.some (HO.tbl ps) := fun z => by
  obtain ⟨o, h1, h2⟩ := h.someP
  rw [z] at h1
  cases h1
  cases h2
theorem RR.rd {r : RV} {u : V} {v : Val} (R : Rel K F H e σ) (h : RR K B F H e σ r u) (q : Pu.rd r e = some v) : RdR K F H v u := by
  cases r with
  | dat w =>
    cases q
    exact .inl h
  | tmp w =>
    cases q
    obtain ⟨t, h1, h2, h3, _⟩ := h
    exact .inr ⟨t, h1, h3⟩
  | bor i =>
    have h' : σ[i]? = some (some u) := h
    unfold Pu.rd at q
    dsimp only at q
    cases hi : e[i]? with
    | none => rw [hi] at q; cases q
    | some s =>
      rw [hi] at q
      cases s with
      | un => cases q
      | own w =>
        cases q
        obtain ⟨a, h1, h2, h3⟩ := R.slot i _ _ hi h'
        exact .inr ⟨a, Option.some.inj h1, h3⟩
      | dat w =>
        cases q
        obtain ⟨a, h1, h2⟩ := R.slot i _ _ hi h'
        rw [Option.some.inj h1]
        exact .inl h2
def frz (F H : Hp) (t : Addr) : Hp := fun b => if b = t then H t else F b
theorem frz_same {t : Addr} : frz F H t t = H t := by unfold frz; rw [if_pos rfl]
theorem frz_ne {t b : Addr} (h : b ≠ t) : frz F H t b = F b := by unfold frz; rw [if_neg h]
theorem frz_sub {t : Addr} (h : F t = none) : Same F (frz F H t) := fun b o e => by
  by_cases hb : b = t
  · rw [hb, h] at e; cases e
  · rw [frz_ne hb]; exact e
theorem Cur.frz {t : Addr} (C : Cur K B F H e σ) (h1 : F t = none) (h2 : ¬ Own e σ t) (h3 : B.mine t) (h4 : ∀ ps, H t ≠ some (.tbl ps)) : Cur K B (frz F H t) H e σ := by
  refine ⟨⟨C.post.sub.trans (frz_sub h1), C.post.fr, fun a h => ?_, C.post.kp⟩, ⟨fun b o q => ?_, C.rel.len, fun i s o a1 a2 => ?_, C.rel.inj, C.rel.tb, fun b ps q => ?_⟩, C.own, C.ln, C.par⟩
  rotate_right
  · by_cases hb : b = t
    · rw [hb, frz_same] at q; exact h4 ps q
    · rw [frz_ne hb] at q; exact C.rel.nt b ps q
  · by_cases ha : a = t
    · rw [ha]; exact .inr h3
    · rw [frz_ne ha] at h; exact C.post.nw a h
  · by_cases hb : b = t
    · rw [hb, frz_same] at q; rw [hb]; exact q
    · rw [frz_ne hb] at q; exact C.rel.sub b o q
  · have q := C.rel.slot i s o a1 a2
    cases s with
    | un => trivial
    | dat v =>
      obtain ⟨u, e1, e2⟩ := q
      exact ⟨u, e1, e2.mono (frz_sub h1)⟩
    | own v =>
      obtain ⟨a, e1, e2, e3⟩ := q
      have ne : a ≠ t := fun z => h2 ⟨i, v, a1, by rw [a2, e1, z]⟩
      exact ⟨a, e1, by rw [frz_ne ne]; exact e2, e3.mono (frz_sub h1) rfl⟩
theorem getset {α : Type} {l : List α} {i j : Nat} {a b : α} (h : (l.set i a)[j]? = some b) : (i = j ∧ b = a ∧ i < l.length) ∨ (i ≠ j ∧ l[j]? = some b) := by
  by_cases hij : i = j
  · subst hij
    by_cases hl : i < l.length
    · rw [List.getElem?_set_self hl] at h
      exact .inl ⟨rfl, (Option.some.inj h).symm, hl⟩
    · rw [List.getElem?_eq_none (by rw [List.length_set]; omega)] at h
      cases h
  · rw [List.getElem?_set_ne hij] at h
    exact .inr ⟨hij, h⟩
theorem Own.unset1 {i : Nat} {s : Slot} {a : Addr} (hs : ∀ v, s ≠ .own v) (h : Own (e.set i s) σ a) : Own e σ a := by
  obtain ⟨j, v, h1, h2⟩ := h
  rcases getset h1 with ⟨_, z, _⟩ | ⟨z, h1⟩
  · exact absurd z.symm (hs v)
  · exact ⟨j, v, h1, h2⟩
theorem Cur.slot {i : Nat} {s : Slot} (C : Cur K B F H e σ) (hs : ∀ v, s ≠ .own v) (h : ∀ o, σ[i]? = some o → SlotR K F H s o) : Cur K B F H (e.set i s) σ := by
  refine ⟨C.post, ⟨C.rel.sub, by rw [List.length_set]; exact C.rel.len, fun j q o a1 a2 => ?_, fun j k v w a h1 h2 h3 h4 => ?_, C.rel.tb, C.rel.nt⟩, fun a q => C.own a (q.unset1 hs), by rw [List.length_set]; exact C.ln, fun j v hj h => ?_⟩
  · rcases getset a1 with ⟨z, z2, _⟩ | ⟨z, a1⟩
    · subst z z2; exact h o a2
    · exact C.rel.slot j q o a1 a2
  · rcases getset h1 with ⟨_, z, _⟩ | ⟨_, h1⟩
    · exact absurd z.symm (hs v)
    · rcases getset h2 with ⟨_, z, _⟩ | ⟨_, h2⟩
      · exact absurd z.symm (hs w)
      · exact C.rel.inj j k v w a h1 h2 h3 h4
  · rcases getset h with ⟨_, z, _⟩ | ⟨_, h⟩
    · exact absurd z.symm (hs v)
    · exact C.par j v hj h
theorem Cur.forget {i : Nat} (C : Cur K B F H e σ) : Cur K B F H (e.set i .un) σ := C.slot (fun _ z => nomatch z) fun _ _ => trivial
theorem At.rd {α β : Type} {R : Bg → Hp → Hp → Ev → Sig → α → β → Prop} {r : RV} {u : V} {f : Val → M α} {Q : β → Hp → Prop} (R0 : Rel K F H e σ) (h : RR K B F H e σ r u) (q : At K W R B ((M.rd r).bind f) F e σ H Q) :
    ∃ v, RdR K F H v u ∧ At K W R B (f v) F e σ H Q := by
  cases z : Pu.rd r e with
  | none =>
    unfold At M.bind M.rd at q
    rw [z] at q
    exact q.elim
  | some v =>
    refine ⟨v, h.rd R0 z, ?_⟩
    unfold At M.bind M.rd at q
    rw [z] at q
    exact q
theorem At.rds {α β : Type} {R : Bg → Hp → Hp → Ev → Sig → α → β → Prop} (R0 : Rel K F H e σ) {Q : β → Hp → Prop} : ∀ {rs : List RV} {us : List V} {f : List Val → M α}, RRs K B F H e σ rs us → At K W R B ((M.rds rs).bind f) F e σ H Q →
    ∃ vs, RdRs K F H vs us ∧ At K W R B (f vs) F e σ H Q
  | _, _, f, .nil, q => ⟨[], .nil, q⟩
  | _, _, f, .cons (rs := rs) r _ t, q => by
    unfold M.rds at q
    rw [M.bind_assoc] at q
    obtain ⟨v, h1, q⟩ := At.rd R0 r q
    rw [M.bind_assoc] at q
    obtain ⟨vs, h2, q⟩ := At.rds R0 t q
    exact ⟨v :: vs, .cons h1 h2, q⟩
theorem dt_go {r : RV} {u : V} {v : Val} {e' : Ev} (C : Cur K B F H e σ) (h : RR K B F H e σ r u) (q : M.dt r e = .ok v e') :
    ∃ F', Cur K B F' H e' σ ∧ Same F F' ∧ VR K F' v u ∧ (∀ r' u', RR K B F H e σ r' u' → (∀ v w, r = .tmp v → r' = .tmp w → u' ≠ u) → RR K B F' H e' σ r' u') := by
  cases r with
  | dat w =>
    cases q
    exact ⟨F, C, Same.refl _, h, fun _ _ z _ => z⟩
  | tmp w =>
    cases q
    obtain ⟨t, h1, h2, h3, h4, h5⟩ := h
    subst h1
    refine ⟨frz F H t, C.frz h2 h4 h5 h3.nt, frz_sub h2, h3.vr (frz_sub h2) frz_same, fun r' u' z d => ?_⟩
    cases r' with
    | dat v => exact VR.mono (frz_sub h2) z
    | bor i => exact z
    | tmp w' =>
      obtain ⟨t', a1, a2, a3, a4, a5⟩ := z
      have ne : t' ≠ t := fun z => d v w' rfl rfl (by rw [a1, z])
      exact ⟨t', a1, by rw [frz_ne ne]; exact a2, a3.mono (frz_sub h2) rfl, a4, a5⟩
  | bor i =>
    have h' : σ[i]? = some (some u) := h
    unfold M.dt at q
    cases z : e[i]? with
    | none => simp only [z] at q; cases q
    | some s =>
      cases s with
      | un => simp only [z] at q; cases q
      | dat w =>
        simp only [z] at q
        cases q
        refine ⟨F, C, Same.refl _, ?_, fun _ _ z _ => z⟩
        obtain ⟨x, h1, h2⟩ := C.rel.slot i _ _ z h'
        rw [Option.some.inj h1]; exact h2
      | own w =>
        simp only [z] at q
        cases q
        obtain ⟨t, h1, h2, h3⟩ := C.rel.slot i _ _ z h'
        have eu : u = .ref t := Option.some.inj h1
        subst eu
        have no : ∀ {a}, Own (e.set i .un) σ a → a ≠ t := fun {a} ⟨j, w, b1, b2⟩ z2 => by
          rcases getset b1 with ⟨_, z3, _⟩ | ⟨z3, b1⟩
          · cases z3
          · rw [z2] at b2
            exact z3 (C.rel.inj i j v w t z b1 h' b2)
        have C1 : Cur K B F H (e.set i .un) σ := C.forget
        have C2 := C1.frz h2 (fun z2 => no z2 rfl) (C.own t ⟨i, v, z, h'⟩) h3.nt
        have C3 : Cur K B (Pu.frz F H t) H ((e.set i .un).set i (.dat v)) σ := C2.slot (fun _ z => nomatch z) fun o ho => by
          rw [h'] at ho; cases ho
          exact ⟨_, rfl, h3.vr (frz_sub h2) frz_same⟩
        rw [List.set_set] at C3
        refine ⟨_, C3, frz_sub h2, h3.vr (frz_sub h2) frz_same, fun r' u' zz d => ?_⟩
        cases r' with
        | dat v => exact VR.mono (frz_sub h2) zz
        | bor i => exact zz
        | tmp w =>
          obtain ⟨t', a1, a2, a3, a4, a5⟩ := zz
          have ne : t' ≠ t := fun z3 => a4 (by rw [z3]; exact ⟨i, v, z, h'⟩)
          exact ⟨t', a1, by rw [frz_ne ne]; exact a2, a3.mono (frz_sub h2) rfl, fun z4 => a4 (z4.unset1 Slot.dat_ne), a5⟩
theorem dt_some {r : RV} : ∀ (x : Val) (e' : Ev), M.dt r e ≠ .rs x e' := by
  intro x e' z
  cases r with
  | dat v => cases z
  | tmp v => cases z
  | bor i =>
    unfold M.dt at z
    dsimp only at z
    split at z <;> cases z
theorem At.dt {α β : Type} {R : Bg → Hp → Hp → Ev → Sig → α → β → Prop} {r : RV} {u : V} {f : Val → M α} {Q : β → Hp → Prop} (C : Cur K B F H e σ) (h : RR K B F H e σ r u) (q : At K W R B ((M.dt r).bind f) F e σ H Q) :
    ∃ F' e' v, Cur K B F' H e' σ ∧ Same F F' ∧ VR K F' v u ∧ At K W R B (f v) F' e' σ H Q ∧
      (∀ r' u', RR K B F H e σ r' u' → (∀ v w, r = .tmp v → r' = .tmp w → u' ≠ u) → RR K B F' H e' σ r' u') := by
  cases z : M.dt r e with
  | rs x e' => exact (dt_some _ _ z).elim
  | bad =>
    unfold At M.bind at q
    rw [z] at q
    exact q.elim
  | ok v e' =>
    obtain ⟨F', C', s, r1, keep⟩ := dt_go C h z
    refine ⟨F', e', v, C', s, r1, ?_, keep⟩
    unfold At M.bind at q
    rw [z] at q
    exact q
theorem At.dts {α β : Type} {R : Bg → Hp → Hp → Ev → Sig → α → β → Prop} {Q : β → Hp → Prop} : ∀ {rs : List RV} {us : List V} {f : List Val → M α} {F : Hp} {e : Ev}, Cur K B F H e σ → RRs K B F H e σ rs us → At K W R B ((M.dts rs).bind f) F e σ H Q →
    ∃ F' e' vs, Cur K B F' H e' σ ∧ Same F F' ∧ VRs K F' vs us ∧ At K W R B (f vs) F' e' σ H Q
  | _, _, f, F, e, C, .nil, q => ⟨F, e, [], C, Same.refl _, .nil, q⟩
  | _, _, f, F, e, C, .cons (r := r) (u := u) (rs := rs) (us := us) h d t, q => by
    unfold M.dts at q
    rw [M.bind_assoc] at q
    obtain ⟨F1, e1, v, C1, s1, h1, q, keep⟩ := At.dt C h q
    rw [M.bind_assoc] at q
    have t1 : RRs K B F1 H e1 σ rs us := by
      have go : ∀ {rs : List RV} {us : List V}, RRs K B F H e σ rs us → (∀ v, r = .tmp v → ∀ (j : Nat) w, rs[j]? = some (.tmp w) → us[j]? ≠ some u) → RRs K B F1 H e1 σ rs us := fun {rs us} z => by
        induction z with
        | nil => intro _; exact .nil
        | cons a b c ih =>
          intro d
          refine .cons (keep _ _ a fun v w e1 e2 e3 => d v e1 0 w (by rw [e2]; rfl) (by rw [e3]; rfl)) b (ih fun v e1 j w e2 => ?_)
          exact d v e1 (j + 1) w (by simpa using e2)
      exact go t d
    obtain ⟨F2, e2, vs, C2, s2, h2, q⟩ := At.dts C1 t1 q
    exact ⟨F2, e2, v :: vs, C2, s1.trans s2, .cons (h1.mono s2) h2, q⟩
end
end Pu
set_option Elab.async false
set_option linter.all false
set_option maxRecDepth 100000
namespace Pu
open PySem PySem.Spec PyProof.Rows L2
section
variable {K : PySem.W.Frag} {W : WX} {B : Bg} {F F' H H' : Hp} {e : Ev} {σ : Sig} {u : V}
theorem RdR.non (h : RdR K F H .non u) : u = .non := by
  rcases h with h | ⟨_, _, h⟩
  · cases h; rfl
  · exact h.elim
theorem RdR.bl {b : Bool} (h : RdR K F H (.bl b) u) : u = .bl b := by
  rcases h with h | ⟨_, _, h⟩
  · cases h; rfl
  · exact h.elim
theorem RdR.int {i : Int} (h : RdR K F H (.int i) u) : u = .int i := by
  rcases h with h | ⟨_, _, h⟩
  · cases h; rfl
  · exact h.elim
theorem RdR.str {x : Str} (h : RdR K F H (.str x) u) : u = .str x := by
  rcases h with h | ⟨_, _, h⟩
  · cases h; rfl
  · exact h.elim
theorem RdR.ty {n : String} (h : RdR K F H (.ty n) u) : u = .ty n := by
  rcases h with h | ⟨_, _, h⟩
  · cases h; rfl
  · exact h.elim
theorem RdR.glo {x : Str} (h : RdR K F H (.glo x) u) : u = .ref (He.ga K x) := by
  rcases h with h | ⟨_, _, h⟩
  · cases h; rfl
  · exact h.elim
theorem RdR.lst {xs : List Val} (s : Same F H) (h : RdR K F H (.lst xs) u) : ∃ a us, u = .ref a ∧ Rd H a (.lst us) ∧ VRs K F xs us := by
  rcases h with h | ⟨t, e, us, h1, h2⟩
  · cases h with
    | lst h1 h2 => exact ⟨_, _, rfl, rd_mono s h1, h2⟩
  · exact ⟨t, us, e, .inl h1, h2⟩
theorem RdR.tup {xs : List Val} (s : Same F H) (h : RdR K F H (.tup xs) u) : ∃ a us, u = .ref a ∧ SqT K H a us ∧ VRs K F xs us := by
  rcases h with h | ⟨_, _, h⟩
  · cases h with
    | tup h1 h2 => exact ⟨_, _, rfl, sqT_mono s h1, h2⟩
  · exact h.elim
theorem RdR.obj {C : Str} {fs : List Str} {vs : List Val} (s : Same F H) (h : RdR K F H (.obj C fs vs) u) : ∃ a dx us, u = .ref a ∧ H a = some (.ins (He.ga K C) dx (fs.zip us)) ∧ fs.length = us.length ∧ VRs K F vs us := by
  rcases h with h | ⟨t, e, dx, us, h1, h2, h3⟩
  · cases h with
    | obj h1 h2 h3 => exact ⟨_, _, _, rfl, s _ _ h1, h2, h3⟩
  · exact ⟨t, dx, us, e, h1, h2, h3⟩
theorem RdR.dct {ks : List Key} {vs : List Val} (s : Same F H) (h : RdR K F H (.dct ks vs) u) : ∃ a us, u = .ref a ∧ H a = some (.dK (ks.zip us)) ∧ ks.length = us.length ∧ VRs K F vs us := by
  rcases h with h | ⟨t, e, us, h1, h2, h3⟩
  · cases h with
    | dct h1 h2 h3 => exact ⟨_, _, rfl, s _ _ h1, h2, h3⟩
  · exact ⟨t, us, e, h1, h2, h3⟩
theorem At.ok {α β : Type} {R : Bg → Hp → Hp → Ev → Sig → α → β → Prop} {m : M α} {Q : β → Hp → Prop} {r : α} {e' : Ev} {x : β} (h : At K W R B m F e σ H Q) (hm : m e = .ok r e') (C : Cur K B F' H' e' σ) (q : R B F' H' e' σ r x) : Q x H' := by
  unfold At at h
  rw [hm] at h
  exact h F' H' x C q
end
def mVar (i : Nat) : M RV := fun e => match e[i]? with
  | some (.dat v) => .ok (.dat v) e
  | some (.own _) => .ok (.bor i) e
  | _ => .bad
def mV (v : Val) : M RV := M.ret (.dat v)
def mBin (f : Val → Val → M RV) (a b : M RV) : M RV := a.bind fun r => b.bind fun s => (M.rd r).bind fun v => (M.rd s).bind fun w => f v w
section
variable {X : Cx} {W : WX} {a b c : Expr} {ma mb mc : M RV} {pos : Pos} {f g : Val → Val → M RV} {r : R2}
def truV (v : Val) : M Bool := fun e => match v with
  | .bl b => .ok b e
  | .int i => .ok (i != 0) e
  | .non => .ok false e
  | .str x => if x.length ≤ sizeLine then .ok ((x.length : Int) != 0) e else .bad
  | .lst xs => .ok (!xs.isEmpty) e
  | .tup xs => .ok (!xs.isEmpty) e
  | _ => .bad
def mTru (m : M RV) : M Bool := m.bind fun r => (M.rd r).bind fun v => truV v
theorem VRs.empty {K : PySem.W.Frag} {F : Hp} {vs : List Val} {us : List V} (h : VRs K F vs us) : us.isEmpty = vs.isEmpty := by cases h <;> rfl
end
def mOr (a b : M Bool) : M Bool := a.bind fun c => if c = true then M.ret true else b
def mNot (a : M Bool) : M Bool := a.bind fun c => M.ret (!c)
def mIfE (c : M Bool) (a b : M RV) : M RV := c.bind fun k => if k = true then a else b
def mAndV (a b : M RV) : M RV := a.bind fun r => (M.rd r).bind fun v => match v with
  | .bl c => if c = true then b else mV (.bl false)
  | _ => M.bad
def mNotV (a : M RV) : M RV := a.bind fun r => (M.rd r).bind fun v => match v with
  | .bl c => mV (.bl (!c))
  | _ => M.bad
def mNil : M (List RV) := M.ret []
def mCons (a : M RV) (r : M (List RV)) : M (List RV) := a.bind fun x => r.bind fun xs => M.ret (x :: xs)
def mTup (r : M (List RV)) : M RV := r.bind fun rs => (M.dts rs).bind fun vs => if vs.length ≤ sizeLine then M.ret (.dat (.tup vs)) else M.bad
def mLst (r : M (List RV)) : M RV := r.bind fun rs => (M.dts rs).bind fun vs => if vs.length ≤ sizeLine then M.ret (.tmp (.lst vs)) else M.bad
end Pu
set_option Elab.async false
set_option linter.all false
set_option maxRecDepth 100000
namespace Pu
open PySem PySem.Spec PyProof.Rows L2
def oI (g : Int → Int → Val) (x y : Val) : M RV := match x, y with
  | .int i, .int j => mV (g i j)
  | _, _ => M.bad
def oIC (c : Int → Int → Prop) [∀ i j, Decidable (c i j)] (g : Int → Int → Val) (x y : Val) : M RV := match x, y with
  | .int i, .int j => if c i j then mV (g i j) else M.bad
  | _, _ => M.bad
def cMul (i j : Int) : Prop := (-18446744073709551616 < i ∧ i < 18446744073709551616) ∨ (-18446744073709551616 < j ∧ j < 18446744073709551616) ∨ ((-1606938044258990275541962092341162602522202993782792835301376 < i ∧ i < 1606938044258990275541962092341162602522202993782792835301376) ∧ -1606938044258990275541962092341162602522202993782792835301376 < j ∧ j < 1606938044258990275541962092341162602522202993782792835301376)
def cDiv (_ j : Int) : Prop := 0 < j ∧ j < 1606938044258990275541962092341162602522202993782792835301376
def cMod (_ j : Int) : Prop := 0 < j
def cPow (i j : Int) : Prop := 0 ≤ j ∧ j ≤ 1000 ∧ -18446744073709551616 < i ∧ i < 18446744073709551616
instance : ∀ i j, Decidable (cMul i j) := fun i j => by unfold cMul; infer_instance
instance : ∀ i j, Decidable (cDiv i j) := fun i j => by unfold cDiv; infer_instance
instance : ∀ i j, Decidable (cMod i j) := fun i j => by unfold cMod; infer_instance
instance : ∀ i j, Decidable (cPow i j) := fun i j => by unfold cPow; infer_instance
section
variable {K : PySem.W.Frag} {W : WX}
def oSub := oI fun i j => .int (i - j)
def oMul := oIC cMul fun i j => .int (i * j)
def oDiv := oIC cDiv fun i j => .int (i / j)
def oMod := oIC cMod fun i j => .int (i % j)
def oPow := oIC cPow fun i j => .int (i ^ j.toNat)
def oLt := oI fun i j => .bl (decide (i < j))
def oLe := oI fun i j => .bl (decide (i ≤ j))
def oGt := oI fun i j => .bl (decide (j < i))
def oGe := oI fun i j => .bl (decide (j ≤ i))
def oAdd (x y : Val) : M RV := match x, y with
  | .int i, .int j => mV (.int (i + j))
  | .str a, .str b => if a.length + b.length ≤ sizeLine then mV (.str (a ++ b)) else M.bad
  | .lst a, .lst b => if a.length + b.length ≤ sizeLine then M.ret (.tmp (.lst (a ++ b))) else M.bad
  | .tup a, .tup b => if a.length + b.length ≤ sizeLine then mV (.tup (a ++ b)) else M.bad
  | _, _ => M.bad
theorem VRs.ne {F : Hp} {vs : List Val} {us : List V} (h : VRs K F vs us) : us = [] ↔ vs = [] := by cases h <;> simp
end
end Pu
set_option Elab.async false
set_option linter.all false
set_option maxRecDepth 100000
namespace Pu
open PySem PySem.Spec PyProof.Rows L2
mutual
def toP : Val → PyData
  | .non => .none
  | .bl b => .bool b
  | .int i => .int i
  | .str x => .str x
  | .tup xs => .tuple (toPs xs)
  | .lst xs => .list (toPs xs)
  | .ty _ => .none
  | .glo _ => .none
  | .obj _ _ _ => .none
  | .dct _ _ => .dict []
def toPs : List Val → List PyData
  | [] => []
  | x :: xs => toP x :: toPs xs
end
mutual
def isD : Val → Bool
  | .non => true
  | .bl _ => true
  | .int _ => true
  | .str x => PyData.strOk x
  | .tup xs => isDs xs
  | .lst xs => isDs xs
  | .ty _ => false
  | .glo _ => false
  | .obj _ _ _ => false
  | .dct _ _ => false
def isDs : List Val → Bool
  | [] => true
  | x :: xs => isD x && isDs xs
end
mutual
def dep : Val → Nat
  | .tup xs => deps xs + 1
  | .lst xs => deps xs + 1
  | .non => 0
  | .bl _ => 0
  | .int _ => 0
  | .str _ => 0
  | .ty _ => 0
  | .glo _ => 0
  | .obj _ _ _ => 0
  | .dct _ _ => 1
def deps : List Val → Nat
  | [] => 0
  | x :: xs => max (dep x) (deps xs)
end
mutual
def iOk : Val → Bool
  | .int i => decide (-1606938044258990275541962092341162602522202993782792835301376 < i ∧ i < 1606938044258990275541962092341162602522202993782792835301376)
  | .tup xs => iOks xs
  | .lst xs => iOks xs
  | .non => true
  | .bl _ => true
  | .str _ => true
  | .ty _ => true
  | .glo _ => true
  | .obj _ _ _ => true
  | .dct _ _ => true
def iOks : List Val → Bool
  | [] => true
  | x :: xs => iOk x && iOks xs
end
mutual
def rsz : Val → Nat
  | .non => 4
  | .bl _ => 5
  | .int _ => 202
  | .str x => 10 * x.length + 2
  | .tup xs => rszs xs + 3
  | .lst xs => rszs xs + 3
  | .ty _ => 4
  | .glo _ => 4
  | .obj _ _ _ => 4
  | .dct _ _ => 4
def rszs : List Val → Nat
  | [] => 0
  | x :: xs => rsz x + 2 + rszs xs
end
section
variable {K : PySem.W.Frag} {W : WX} {B : Bg} {F H : Hp} {e : Ev} {σ : Sig}
def veq (x y : Val) : Bool := PyData.eqv (toP x) (toP y)
def dOk (v : Val) : Bool := isD v && decide (dep v ≤ 60)
def oEq (x y : Val) : M RV := match x, y with
  | .str a, .str b => mV (.bl (decide (a = b)))
  | x, y => if dOk x && dOk y then mV (.bl (veq x y)) else M.bad
def oNe (x y : Val) : M RV := match x, y with
  | .str a, .str b => mV (.bl (!decide (a = b)))
  | x, y => if dOk x && dOk y then mV (.bl (!veq x y)) else M.bad
def isNon : Val → Bool
  | .non => true
  | _ => false
def oIs (x y : Val) : M RV := if isNon y then mV (.bl (isNon x)) else M.bad
def flat : Val → Bool
  | .non => true
  | .bl _ => true
  | .int _ => true
  | .str _ => true
  | _ => false
def inF (x : Val) (xs : List Val) : Bool := xs.any fun y => veq y x
def oInG (n : Bool) (x y : Val) : M RV := match y with
  | .lst xs => if flat x && xs.all flat then mV (.bl (if n then !inF x xs else inF x xs)) else M.bad
  | .tup xs => if flat x && xs.all flat then mV (.bl (if n then !inF x xs else inF x xs)) else M.bad
  | _ => M.bad
theorem RdR.flat {v : Val} {u : V} (h : RdR K F H v u) (f : Pu.flat v = true) : VR K F v u := by
  rcases h with h | ⟨t, e, h⟩
  · exact h
  · cases v with
    | lst xs => cases f
    | tup xs => cases f
    | obj _ _ _ => cases f
    | dct _ _ => cases f
    | ty _ => cases f
    | glo _ => cases f
    | non => exact h.elim
    | bl _ => exact h.elim
    | int _ => exact h.elim
    | str _ => exact h.elim
def oIx (x y : Val) : M RV := match x, y with
  | .lst xs, .int i => match atI xs i with
    | some v => mV v
    | none => M.bad
  | .tup xs, .int i => match atI xs i with
    | some v => mV v
    | none => M.bad
  | .str z, .int i => if z.length ≤ sizeLine then (match atI z.cps.toList i with
    | some c => mV (.str ⟨#[c]⟩)
    | none => M.bad) else M.bad
  | _, _ => M.bad
end
end Pu
set_option Elab.async false
set_option linter.all false
set_option maxRecDepth 100000
namespace Pu
open PySem PySem.Spec PyProof.Rows L2
def mCB (f : List Val → M RV) (ms : M (List RV)) : M RV := ms.bind fun rs => (M.rds rs).bind fun vs => f vs
def fLen (vs : List Val) : M RV := match vs with
  | [.lst xs] => mV (.int xs.length)
  | [.tup xs] => mV (.int xs.length)
  | [.str x] => if x.length ≤ sizeLine then mV (.int x.length) else M.bad
  | _ => M.bad
def fAbs (vs : List Val) : M RV := match vs with
  | [.int i] => mV (.int (if i < 0 then -i else i))
  | _ => M.bad
def fInt (vs : List Val) : M RV := match vs with
  | [.int i] => mV (.int i)
  | [.bl b] => mV (.int (if b then 1 else 0))
  | _ => M.bad
def fMax2 (vs : List Val) : M RV := match vs with
  | [.int i, .int j] => mV (.int (if j > i then j else i))
  | _ => M.bad
def fMin2 (vs : List Val) : M RV := match vs with
  | [.int i, .int j] => mV (.int (if j < i then j else i))
  | _ => M.bad
def ints? : List Val → Option (List Int)
  | [] => some []
  | .int i :: r => match ints? r with
    | some is => some (i :: is)
    | none => none
  | _ :: _ => none
def bls? : List Val → Option (List Bool)
  | [] => some []
  | .bl i :: r => match bls? r with
    | some is => some (i :: is)
    | none => none
  | _ :: _ => none
def maxL : List Int → Int
  | [] => 0
  | [i] => i
  | i :: r => max i (maxL r)
def minL : List Int → Int
  | [] => 0
  | [i] => i
  | i :: r => min i (minL r)
def fMaxL (vs : List Val) : M RV := match vs with
  | [.lst xs] => match ints? xs with
    | some (i :: is) => mV (.int (maxL (i :: is)))
    | _ => M.bad
  | _ => M.bad
def fMinL (vs : List Val) : M RV := match vs with
  | [.lst xs] => match ints? xs with
    | some (i :: is) => mV (.int (minL (i :: is)))
    | _ => M.bad
  | _ => M.bad
def fAll (vs : List Val) : M RV := match vs with
  | [.lst xs] => match bls? xs with
    | some bs => mV (.bl (bs.all id))
    | _ => M.bad
  | _ => M.bad
def shownV (v : Val) : Str := (toP v).shown
def rOk (v : Val) : Bool := isD v && decide (dep v ≤ 60) && iOk v && decide (rsz v ≤ 16000000)
def fRepr (vs : List Val) : M RV := match vs with
  | [v] => if rOk v then mV (.str (shownV v)) else M.bad
  | _ => M.bad
section
variable {K : PySem.W.Frag} {W : WX}
theorem RdRs.one {F H : Hp} {v : Val} {us : List V} (h : RdRs K F H [v] us) : ∃ u, us = [u] ∧ RdR K F H v u := by
  cases h with
  | cons a b => cases b; exact ⟨_, rfl, a⟩
end
end Pu
set_option Elab.async false
set_option linter.all false
set_option maxRecDepth 100000
namespace Pu
open PySem PySem.Spec PyProof.Rows L2
inductive Out where
  | nx | bk | ct | rt (r : RV)
abbrev S := M Out
def AtS (K : PySem.W.Frag) (W : WX) (B : Bg) (m : S) (F : Hp) (e : Ev) (σ : Sig) (H : Hp) (D : Ends) : Prop :=
  match m e with
  | .ok .nx e' => ∀ F' H' σ', Cur K B F' H' e' σ' → D.nx σ' H'
  | .ok .bk e' => ∀ F' H' σ', Cur K B F' H' e' σ' → D.bk σ' H'
  | .ok .ct e' => ∀ F' H' σ', Cur K B F' H' e' σ' → D.ct σ' H'
  | .ok (.rt r) e' => ∀ F' H' σ' u, Cur K B F' H' e' σ' → RR K B F' H' e' σ' r u → D.rt u H'
  | .rs x e' => ∀ F' H' σ' cls d, Cur K B F' H' e' σ' → XR K F' H' x cls d → W cls d σ' H'
  | .bad => False
section
variable {K : PySem.W.Frag} {W : WX} {α β : Type} {R1 : Bg → Hp → Hp → Ev → Sig → α → β → Prop} {B : Bg} {F F' H H' : Hp} {e e' : Ev} {σ σ' : Sig} {D : Ends}
theorem AtS.base {m : S} (C : Cur K B F H e σ) (h : AtS K W B m F e σ H D) : AtS K W (bg B.np F H e σ) m F e σ H D := by
  unfold AtS at h ⊢
  cases hm : m e with
  | bad => rw [hm] at h; exact h
  | rs x e' => rw [hm] at h; exact fun F' H' σ' cls d C' X' => h F' H' σ' cls d (C.trans C') X'
  | ok o e' =>
    rw [hm] at h
    cases o with
    | nx => exact fun F' H' σ' C' => h F' H' σ' (C.trans C')
    | bk => exact fun F' H' σ' C' => h F' H' σ' (C.trans C')
    | ct => exact fun F' H' σ' C' => h F' H' σ' (C.trans C')
    | rt r => exact fun F' H' σ' u C' r' => h F' H' σ' u (C.trans C') (r'.out C)
theorem AtS.rd {r : RV} {u : V} {f : Val → S} (R0 : Rel K F H e σ) (h : RR K B F H e σ r u) (q : AtS K W B ((M.rd r).bind f) F e σ H D) : ∃ v, RdR K F H v u ∧ AtS K W B (f v) F e σ H D := by
  cases z : Pu.rd r e with
  | none =>
    unfold AtS M.bind M.rd at q
    rw [z] at q
    exact q.elim
  | some v =>
    refine ⟨v, h.rd R0 z, ?_⟩
    unfold AtS M.bind M.rd at q
    rw [z] at q
    exact q
theorem AtS.dt {r : RV} {u : V} {f : Val → S} (C : Cur K B F H e σ) (h : RR K B F H e σ r u) (q : AtS K W B ((M.dt r).bind f) F e σ H D) :
    ∃ F' e' v, Cur K B F' H e' σ ∧ Same F F' ∧ VR K F' v u ∧ AtS K W B (f v) F' e' σ H D ∧
      (∀ r' u', RR K B F H e σ r' u' → (∀ v w, r = .tmp v → r' = .tmp w → u' ≠ u) → RR K B F' H e' σ r' u') := by
  cases z : M.dt r e with
  | rs x e' => exact (dt_some _ _ z).elim
  | bad =>
    unfold AtS M.bind at q
    rw [z] at q
    exact q.elim
  | ok v e' =>
    obtain ⟨F', C', s, r1, keep⟩ := dt_go C h z
    refine ⟨F', e', v, C', s, r1, ?_, keep⟩
    unfold AtS M.bind at q
    rw [z] at q
    exact q
end
end Pu
set_option Elab.async false
set_option linter.all false
set_option maxRecDepth 100000
namespace Pu
open PySem PySem.Spec PyProof.Rows L2
def mSeq (a b : S) : S := fun e => match a e with
  | .ok .nx e' => b e'
  | .ok .bk e' => .ok .bk e'
  | .ok .ct e' => .ok .ct e'
  | .ok (.rt r) e' => .ok (.rt r) e'
  | .rs x e' => .rs x e'
  | .bad => .bad
def mSkip : S := fun e => .ok .nx e
def mEx (m : M RV) : S := m.bind fun _ => mSkip
def mRet (m : M RV) : S := m.bind fun r => fun e => .ok (.rt r) e
def mIf (c : M Bool) (a b : S) : S := c.bind fun k => if k = true then a else b
def stR (i : Nat) (r : RV) : S := match r with
  | .dat v => fun e => .ok .nx (e.set i (.dat v))
  | .tmp v => fun e => .ok .nx (e.set i (.own v))
  | .bor j => (M.dt (.bor j)).bind fun v => fun e => .ok .nx (e.set i (.dat v))
def mSet (i : Nat) (m : M RV) : S := m.bind (stR i)
section
variable {K : PySem.W.Frag} {W : WX} {B : Bg} {F F' H H' : Hp} {e e' : Ev} {σ σ' : Sig} {D : Ends}
theorem AtS.nx {m : S} (h : AtS K W B m F e σ H D) (hm : m e = .ok .nx e') (C : Cur K B F' H' e' σ') : D.nx σ' H' := by
  unfold AtS at h
  rw [hm] at h
  exact h F' H' σ' C
theorem AtS.rt {m : S} {r : RV} {u : V} (h : AtS K W B m F e σ H D) (hm : m e = .ok (.rt r) e') (C : Cur K B F' H' e' σ') (q : RR K B F' H' e' σ' r u) : D.rt u H' := by
  unfold AtS at h
  rw [hm] at h
  exact h F' H' σ' u C q
end
def Upd (ws : List Nat) (σ σ' : Sig) : Prop := σ'.length = σ.length ∧ ∀ i, i ∉ ws → σ'[i]? = σ[i]?
theorem Upd.refl {ws : List Nat} {σ : Sig} : Upd ws σ σ := ⟨rfl, fun _ _ => rfl⟩
theorem Upd.trans {ws : List Nat} {σ σ1 σ2 : Sig} (a : Upd ws σ σ1) (b : Upd ws σ1 σ2) : Upd ws σ σ2 := ⟨b.1.trans a.1, fun i h => (b.2 i h).trans (a.2 i h)⟩
theorem Upd.set {ws : List Nat} {σ : Sig} {i : Nat} {o : Option V} (h : i ∈ ws) : Upd ws σ (σ.set i o) := ⟨List.length_set, fun j hj => List.getElem?_set_ne (fun z => hj (by rw [← z]; exact h))⟩
theorem Upd.mono {ws ws' : List Nat} {σ σ' : Sig} (h : ∀ i ∈ ws, i ∈ ws') (a : Upd ws σ σ') : Upd ws' σ σ' := ⟨a.1, fun i q => a.2 i fun z => q (h i z)⟩
def AtG (K : PySem.W.Frag) (W : WX) (ws : List Nat) (B : Bg) (m : M Unit) (e : Ev) (σ : Sig) (Q : Sig → Hp → Prop) : Prop :=
  match m e with
  | .ok _ e' => ∀ F' H' σ', Cur K B F' H' e' σ' → Upd ws σ σ' → Q σ' H'
  | .rs x e' => ∀ F' H' σ' cls d, Cur K B F' H' e' σ' → XR K F' H' x cls d → W cls d σ' H'
  | .bad => False
def gN (i : Nat) (v : Val) : M Unit := fun e => .ok () (e.set i (.dat v))
def gsN : List Val → M Unit
  | [] => M.ret ()
  | _ => M.bad
def gsC (m : Val → M Unit) (ms : List Val → M Unit) : List Val → M Unit
  | [] => M.bad
  | v :: vs => (m v).bind fun _ => ms vs
def gT (n : Nat) (ms : List Val → M Unit) (v : Val) : M Unit := match v with
  | .tup xs => if xs.length = n then ms xs else M.bad
  | .lst xs => if xs.length = n then ms xs else M.bad
  | _ => M.bad
section
variable {K : PySem.W.Frag} {W : WX} {ws : List Nat} {B : Bg} {F F' H H' : Hp} {e e' : Ev} {σ σ' : Sig}
theorem AtG.go {m : M Unit} {Q : Sig → Hp → Prop} (h : AtG K W ws B m e σ Q) (hm : m e = .ok () e') (C : Cur K B F' H' e' σ') (u : Upd ws σ σ') : Q σ' H' := by
  unfold AtG at h
  rw [hm] at h
  exact h F' H' σ' C u
end
section
variable {X : Cx} {W : WX} {ws : List Nat} {np k : Nat} {x : Expr} {es : List Expr} {mg : Val → M Unit} {ms : List Val → M Unit} {pos : Pos} {m : M RV}
def mAsg (mg : Val → M Unit) (m : M RV) : S := m.bind fun r => (M.dt r).bind fun v => (mg v).bind fun _ => mSkip
end
def loopS (mt : Val → M Unit) (mb : S) : List Val → S
  | [] => mSkip
  | v :: r => fun e => match mt v e with
    | .ok _ e1 => match mb e1 with
      | .ok .nx e2 => loopS mt mb r e2
      | .ok .ct e2 => loopS mt mb r e2
      | .ok .bk e2 => .ok .nx e2
      | .ok (.rt x) e2 => .ok (.rt x) e2
      | .rs x e2 => .rs x e2
      | .bad => .bad
    | .rs x e1 => .rs x e1
    | .bad => .bad
def mFor (mi : M (List Val)) (mt : Val → M Unit) (mb : S) : S := mi.bind fun vs => loopS mt mb vs
section
variable {X : Cx} {W : WX} {np k : Nat} {tg iter c : Expr} {body : List Stmt} {mi : M (List Val)} {mt : Val → M Unit} {mb : S} {mc : M Bool} {pos : Pos}
def whileS (c : M Bool) (b : S) : Nat → S
  | 0 => fun _ => .bad
  | n + 1 => fun e => match c e with
    | .ok true e1 => match b e1 with
      | .ok .nx e2 => whileS c b n e2
      | .ok .ct e2 => whileS c b n e2
      | .ok .bk e2 => .ok .nx e2
      | .ok (.rt x) e2 => .ok (.rt x) e2
      | .rs x e2 => .rs x e2
      | .bad => .bad
    | .ok false e1 => .ok .nx e1
    | .rs x e1 => .rs x e1
    | .bad => .bad
end
end Pu
set_option Elab.async false
set_option linter.all false
set_option maxRecDepth 100000
namespace Pu
open PySem PySem.Spec PyProof.Rows L2
def itemsV (v : Val) : M (List Val) := match v with
  | .lst xs => M.ret xs
  | .tup xs => M.ret xs
  | _ => M.bad
def mItems (m : M RV) : M (List Val) := m.bind fun r => (M.dt r).bind itemsV
def rangeV (lo hi : Int) : List Val := (List.range (hi - lo).toNat).map fun i => .int (lo + (i : Nat))
def mRng1 (m : M RV) : M (List Val) := m.bind fun r => (M.rd r).bind fun v => match v with
  | .int j => if -4611686018427387904 ≤ j ∧ j < 4611686018427387904 then M.ret (rangeV 0 j) else M.bad
  | _ => M.bad
end Pu
set_option Elab.async false
set_option linter.all false
set_option maxRecDepth 100000
namespace Pu
open PySem PySem.Spec PyProof.Rows L2
def wipeE (e : Ev) : List Nat → Ev
  | [] => e
  | v :: vs => (wipeE e vs).set v .un
def compS (ws : List Nat) (mt : Val → M Unit) (mc : M Bool) (me : M RV) : List Val → List Val → M (List Val)
  | [], acc => M.ret acc
  | v :: r, acc => fun e => match mt v e with
    | .ok _ e1 => match mc e1 with
      | .ok true e2 => match me e2 with
        | .ok x e3 => match M.dt x e3 with
          | .ok w e4 => if acc.length < sizeLine then compS ws mt mc me r (acc ++ [w]) (wipeE e4 ws) else .bad
          | _ => .bad
        | _ => .bad
      | .ok false e2 => compS ws mt mc me r acc (wipeE e2 ws)
      | _ => .bad
    | _ => .bad
def mComp (ws : List Nat) (mi : M (List Val)) (mt : Val → M Unit) (mc : M Bool) (me : M RV) : M RV := mi.bind fun vs => fun e => match compS ws mt mc me vs [] (wipeE e ws) with
  | .ok acc e1 => .ok (.tmp (.lst acc)) e1
  | .rs x e1 => .rs x e1
  | .bad => .bad
def mYes : M Bool := M.ret true
end Pu
set_option Elab.async false
set_option linter.all false
set_option maxRecDepth 100000
namespace Pu
open PySem PySem.Spec PyProof.Rows L2
def outE : Ev → Ev
  | [] => []
  | .own v :: r => .own v :: outE r
  | .un :: r => .un :: outE r
  | .dat _ :: r => .un :: outE r
def retV (n : Nat) (r : RV) (e : Ev) : Res RV := match r with
  | .dat v => .ok (.dat v) (outE (e.take n))
  | .tmp v => .ok (.tmp v) (outE (e.take n))
  | .bor i => match e[i]? with
    | some (.own v) => .ok (.tmp v) (outE ((e.set i .un).take n))
    | some (.dat v) => .ok (.dat v) (outE (e.take n))
    | _ => .bad
def fnDen (n nn : Nat) (body : S) : M RV := fun e => if e.length = n then (match body (e ++ List.replicate (nn - n) Slot.un) with
  | .ok .nx e' => .ok (.dat .non) (outE (e'.take n))
  | .ok (.rt r) e' => retV n r e'
  | .rs x e' => .rs x (outE (e'.take n))
  | _ => .bad) else .bad
def spG (K : PySem.W.Frag) (n : Nat) (f : M RV) : Sp := fun vs H Q E => vs.length = n ∧ tM K (fun c d _ H => E c d H) (RR K) f (vs.map some) H Q
end Pu
set_option Elab.async false
set_option linter.all false
set_option maxRecDepth 100000
namespace Pu
open PySem PySem.Spec PyProof.Rows L2
def argsE : List Bool → List RV → Ev → Option (Ev × Ev)
  | [], [], e => some ([], e)
  | false :: ms, r :: rs, e => match M.dt r e with
    | .ok v e' => match argsE ms rs e' with
      | some (p, e2) => some (.dat v :: p, e2)
      | none => none
    | _ => none
  | true :: ms, .dat v :: rs, e => match argsE ms rs e with
    | some (p, e2) => some (.dat v :: p, e2)
    | none => none
  | true :: ms, .tmp v :: rs, e => match argsE ms rs e with
    | some (p, e2) => some (.own v :: p, e2)
    | none => none
  | true :: ms, .bor i :: rs, e => match e[i]? with
    | some (.own v) => match argsE ms rs (e.set i .un) with
      | some (p, e2) => some (.own v :: p, e2)
      | none => none
    | _ => none
  | _, _, _ => none
def backE : List Bool → List RV → Ev → Ev → Ev
  | true :: ms, .bor i :: rs, .own v :: p, e => backE ms rs p (e.set i (.own v))
  | _ :: ms, _ :: rs, _ :: p, e => backE ms rs p e
  | _, _, _, e => e
section
variable {K : PySem.W.Frag} {W : WX} {B : Bg} {H : Hp} {σ : Sig}
theorem RRs.tail_keep {F F1 : Hp} {e e1 : Ev} {r : RV} {u : V} (keep : ∀ r' u', RR K B F H e σ r' u' → (∀ v w, r = .tmp v → r' = .tmp w → u' ≠ u) → RR K B F1 H e1 σ r' u') :
    ∀ {rs : List RV} {us : List V}, RRs K B F H e σ rs us → (∀ v, r = .tmp v → ∀ (j : Nat) w, rs[j]? = some (.tmp w) → us[j]? ≠ some u) → RRs K B F1 H e1 σ rs us := fun {rs us} z => by
  induction z with
  | nil => intro _; exact .nil
  | cons a b c ih =>
    intro d
    refine .cons (keep _ _ a fun v w e1 e2 e3 => d v e1 0 w (by rw [e2]; rfl) (by rw [e3]; rfl)) b (ih fun v e1 j w e2 => ?_)
    exact d v e1 (j + 1) w (by simpa using e2)
end
def runF (ms : List Bool) (f : M RV) (rs : List RV) : M RV := fun e => match argsE ms rs e with
  | some (p, e1) => match f p with
    | .ok (.dat v) p' => .ok (.dat v) (backE ms rs p' e1)
    | .ok (.tmp v) p' => .ok (.tmp v) (backE ms rs p' e1)
    | .ok (.bor _) _ => .bad
    | .rs x p' => .rs x (backE ms rs p' e1)
    | .bad => .bad
  | none => .bad
end Pu
set_option Elab.async false
set_option linter.all false
set_option maxRecDepth 100000
namespace Pu
open PySem PySem.Spec PyProof.Rows L2
def VC (K : PySem.W.Frag) (ds : List Val) (dvs : List V) : Prop := ∀ F, VRs K F ds dvs
theorem VC.nil {K : PySem.W.Frag} : VC K [] [] := fun _ => .nil
def mCall (ms : List Bool) (f : M RV) (as : M (List RV)) (ds : List Val) : M RV := as.bind fun rs => runF ms f (rs ++ ds.map .dat)
section
variable {K : PySem.W.Frag} {W : WX} {B : Bg} {F H : Hp} {σ : Sig} {e : Ev}
theorem RRs.length {rs : List RV} {us : List V} (h : RRs K B F H e σ rs us) : rs.length = us.length := by
  induction h with
  | nil => rfl
  | cons _ _ _ i => simp [i]
end
section
variable {X : Cx} {W : WX} {k n : Nat} {f C : Addr} {fd : FuncData} {ps : List Str} {x m : Str} {p pos apos : Pos} {e o : Expr} {es : List Expr} {mf mo : M RV} {mr : M (List RV)} {dvs : List V} {ds : List Value} {dl : List Val}
def runMk (C : Str) (ms : List Bool) (f : M RV) (rs : List RV) : M RV := fun e => match argsE (true :: ms) (.tmp (.obj C [] []) :: rs) e with
  | some (p, e1) => match f p with
    | .ok (.dat .non) p' => match p'[0]? with
      | some (Slot.own v) => .ok (.tmp v) (backE (true :: ms) (.tmp (.obj C [] []) :: rs) p' e1)
      | _ => .bad
    | .ok _ _ => .bad
    | .rs x p' => .rs x (backE (true :: ms) (.tmp (.obj C [] []) :: rs) p' e1)
    | .bad => .bad
  | none => .bad
def mMake (C : Str) (ms : List Bool) (f : M RV) (as : M (List RV)) (ds : List Val) : M RV := as.bind fun rs => runMk C ms f (rs ++ ds.map .dat)
end
end Pu
set_option Elab.async false
set_option linter.all false
set_option maxRecDepth 100000
namespace Pu
open PySem PySem.Spec PyProof.Rows L2
section
variable {K : PySem.W.Frag} {W : WX} {α β : Type} {R1 : Bg → Hp → Hp → Ev → Sig → α → β → Prop} {B : Bg} {F F' H H' : Hp} {e e' : Ev} {σ σ' : Sig} {ws : List Nat}
theorem AtG.rd {r : RV} {u : V} {f : Val → M Unit} {Q : Sig → Hp → Prop} (R0 : Rel K F H e σ) (h : RR K B F H e σ r u) (q : AtG K W ws B ((M.rd r).bind f) e σ Q) : ∃ v, RdR K F H v u ∧ AtG K W ws B (f v) e σ Q := by
  cases z : Pu.rd r e with
  | none =>
    unfold AtG M.bind M.rd at q
    rw [z] at q
    exact q.elim
  | some v =>
    refine ⟨v, h.rd R0 z, ?_⟩
    unfold AtG M.bind M.rd at q
    rw [z] at q
    exact q
end
def gSb (mo mi : M RV) (v : Val) : M Unit := mo.bind fun r => mi.bind fun s => (M.rd s).bind fun k => match r, k with
  | .bor j, .int k => fun e => match e[j]? with
    | some (Slot.own (.lst xs)) => match ixN xs.length k with
      | some n => .ok () (e.set j (.own (.lst (xs.set n v))))
      | none => .bad
    | _ => .bad
  | _, _ => M.bad
def lookV (f : Str) : List Str → List Val → Option Val
  | g :: fs, v :: vs => if g = f then some v else lookV f fs vs
  | _, _ => none
def mGet (C f : Str) (mo : M RV) : M RV := mo.bind fun r => (M.rd r).bind fun v => match v with
  | .obj C' fs vs => if C' = C then (match lookV f fs vs with
    | some w => mV w
    | none => M.bad) else M.bad
  | _ => M.bad
def noRs {α : Type} (m : M α) : M α := fun e => match m e with
  | .ok a e' => .ok a e'
  | _ => .bad
def mProp (C : Str) (f : M RV) (mo : M RV) : M RV := mo.bind fun r => (M.rd r).bind fun v => match v with
  | .obj C' _ _ => if C' = C then noRs (runF [true] f [r]) else M.bad
  | _ => M.bad
def putFs (f : Str) : List Str → List Str
  | [] => [f]
  | g :: fs => if g = f then g :: fs else g :: putFs f fs
def putVs (f : Str) (v : Val) : List Str → List Val → List Val
  | g :: fs, x :: vs => if g = f then v :: vs else x :: putVs f v fs vs
  | _, _ => [v]
def mPut (C f : Str) (mo mv : M RV) : S := mv.bind fun r0 => (M.dt r0).bind fun v => mo.bind fun r => match r with
  | .bor i => fun e => match e[i]? with
    | some (Slot.own (.obj C' fs vs)) => if C' = C ∧ fs.length < 1000 then .ok .nx (e.set i (.own (.obj C (putFs f fs) (putVs f v fs vs)))) else .bad
    | _ => .bad
  | _ => M.bad
end Pu
set_option Elab.async false
set_option linter.all false
set_option maxRecDepth 100000
namespace Pu
open PySem PySem.Spec PyProof.Rows L2
def sel {α : Type} : List Nat → List α → List α
  | [], _ => []
  | i :: g, xs => match xs[i]? with
    | some a => a :: sel g xs
    | none => sel g xs
section
variable {K : PySem.W.Frag} {W : WX} {B : Bg} {F H : Hp} {σ : Sig} {e : Ev}
theorem sel_rel {α β : Type} {xs : List α} {ys : List β} (hl : xs.length = ys.length) : ∀ {g : List Nat} {j : Nat} {a : α}, (sel g xs)[j]? = some a → ∃ i ∈ g, xs[i]? = some a ∧ (sel g ys)[j]? = ys[i]?
  | [], j, a, h => by simp [sel] at h
  | i :: g, j, a, h => by
    unfold sel at h ⊢
    cases hx : xs[i]? with
    | none =>
      have hy : ys[i]? = none := List.getElem?_eq_none (by rw [← hl]; exact List.getElem?_eq_none_iff.mp hx)
      simp only [hx] at h
      simp only [hy]
      obtain ⟨i', h1, h2, h3⟩ := sel_rel hl h
      exact ⟨i', List.mem_cons_of_mem _ h1, h2, h3⟩
    | some b =>
      have il : i < ys.length := by rw [← hl]; exact (List.getElem?_eq_some_iff.mp hx).1
      have hy : ys[i]? = some ys[i] := List.getElem?_eq_getElem il
      simp only [hx] at h
      simp only [hy]
      cases j with
      | zero => exact ⟨i, List.mem_cons_self .., by rw [hx]; simpa using h, by rw [hy]; rfl⟩
      | succ j =>
        obtain ⟨i', h1, h2, h3⟩ := sel_rel hl (j := j) (by simpa using h)
        exact ⟨i', List.mem_cons_of_mem _ h1, h2, by simpa using h3⟩
theorem RRs.pair {rs : List RV} {us : List V} (h : RRs K B F H e σ rs us) : ∀ {i j : Nat} {v w : Val} {u : V}, i ≠ j → rs[i]? = some (.tmp v) → rs[j]? = some (.tmp w) → us[i]? = some u → us[j]? ≠ some u := by
  induction h with
  | nil => intro i j v w u _ h; simp at h
  | cons r d t ih =>
    intro i j v w u ne h1 h2 h3 h4
    cases i with
    | zero => cases j with
      | zero => exact ne rfl
      | succ j =>
        simp at h1 h3
        exact d v h1 j w (by simpa using h2) (by rw [h3]; simpa using h4)
    | succ i => cases j with
      | zero =>
        simp at h2 h4
        exact d w h2 i v (by simpa using h1) (by rw [h4]; simpa using h3)
      | succ j => exact ih (fun z => ne (congrArg Nat.succ z)) (by simpa using h1) (by simpa using h2) (by simpa using h3) (by simpa using h4)
theorem RRs.get {rs : List RV} {us : List V} (h : RRs K B F H e σ rs us) : ∀ {i : Nat} {r : RV} {u : V}, rs[i]? = some r → us[i]? = some u → RR K B F H e σ r u := by
  induction h with
  | nil => intro i r u a; simp at a
  | cons r d t ih =>
    intro i r' u a b
    cases i with
    | zero => simp at a b; subst a b; exact r
    | succ i => exact ih (by simpa using a) (by simpa using b)
theorem RRs.sel {rs : List RV} {us : List V} (h : RRs K B F H e σ rs us) : ∀ {g : List Nat}, g.Nodup → RRs K B F H e σ (Pu.sel g rs) (Pu.sel g us)
  | [], _ => .nil
  | i :: g, nd => by
    have hl := h.length
    obtain ⟨n1, n2⟩ := List.nodup_cons.mp nd
    unfold Pu.sel
    cases hx : rs[i]? with
    | none =>
      have hy : us[i]? = none := List.getElem?_eq_none (by rw [← hl]; exact List.getElem?_eq_none_iff.mp hx)
      simp only [hy]
      exact RRs.sel h n2
    | some r =>
      have il : i < us.length := by rw [← hl]; exact (List.getElem?_eq_some_iff.mp hx).1
      have hy : us[i]? = some us[i] := List.getElem?_eq_getElem il
      simp only [hy]
      refine .cons (h.get hx hy) (fun v z j w z2 z3 => ?_) (RRs.sel h n2)
      obtain ⟨i', m1, m2, m3⟩ := sel_rel hl z2
      rw [m3] at z3
      exact h.pair (fun z => n1 (by rw [z]; exact m1)) (by rw [hx, z]) m2 hy z3
end
def mCallK (ms : List Bool) (f : M RV) (as ks : M (List RV)) (n m : Nat) (g : List Nat) : M RV := as.bind fun rs => ks.bind fun zs => if rs.length = n ∧ zs.length = m then runF ms f (sel g (rs ++ zs)) else M.bad
end Pu
set_option Elab.async false
set_option linter.all false
set_option maxRecDepth 100000
namespace Pu
open PySem PySem.Spec PyProof.Rows L2
def mNeg (a : M RV) : M RV := a.bind fun r => (M.rd r).bind fun v => match v with
  | .int i => mV (.int (-i))
  | _ => M.bad
def mChain (f g : Val → Val → M RV) (a b c : M RV) : M RV := a.bind fun r => b.bind fun s => (M.rd r).bind fun v => (M.rd s).bind fun w => (f v w).bind fun z => (M.rd z).bind fun k => match k with
  | .bl true => c.bind fun t => (M.rd s).bind fun w' => (M.rd t).bind fun x => g w' x
  | .bl false => mV (.bl false)
  | _ => M.bad
def cutA {α : Type} (xs : List α) (lo hi : Option Int) : List α := (xs.drop (HT.sIx xs.length 0 lo)).take (HT.sIx xs.length xs.length hi - HT.sIx xs.length 0 lo)
def mNoP : M (Option Int) := M.ret none
def mPt (a : M RV) : M (Option Int) := a.bind fun r => (M.rd r).bind fun v => match v with
  | .int i => M.ret (some i)
  | _ => M.bad
def slV (v : Val) (lo hi : Option Int) : M RV := match v with
  | .lst xs => M.ret (.tmp (.lst (cutA xs lo hi)))
  | .tup xs => M.ret (.dat (.tup (cutA xs lo hi)))
  | .str z => if z.length ≤ sizeLine then M.ret (.dat (.str (cutS z lo hi))) else M.bad
  | _ => M.bad
def mSl (a : M RV) (lo hi : M (Option Int)) : M RV := a.bind fun r => lo.bind fun l => hi.bind fun u => (M.rd r).bind fun v => slV v l u
end Pu
set_option Elab.async false
set_option linter.all false
set_option maxRecDepth 100000
namespace Pu
open PySem PySem.Spec PyProof.Rows L2
def noBor : List RV → Bool
  | [] => true
  | .bor _ :: _ => false
  | _ :: rs => noBor rs
def slotOf : RV → Slot
  | .dat v => .dat v
  | .tmp v => .own v
  | .bor _ => .un
def setsE : List Nat → List RV → Ev → Ev
  | i :: is, r :: rs, e => setsE is rs (e.set i (slotOf r))
  | _, _, e => e
def mPar (p : Bool) (is : List Nat) (as : M (List RV)) : S := as.bind fun rs => if rs.length = is.length then (if noBor rs = true ∧ p = false then fun e => .ok .nx (setsE is rs e) else (M.dts rs).bind fun vs => fun e => .ok .nx (setsE is (vs.map .dat) e)) else M.bad
section
variable {K : PySem.W.Frag} {W : WX} {B : Bg} {F H : Hp} {D : Ends}
theorem AtS.dts : ∀ {rs : List RV} {us : List V} {f : List Val → S} {F : Hp} {e : Ev} {σ : Sig}, Cur K B F H e σ → RRs K B F H e σ rs us → AtS K W B ((M.dts rs).bind f) F e σ H D →
    ∃ F' e' vs, Cur K B F' H e' σ ∧ Same F F' ∧ VRs K F' vs us ∧ AtS K W B (f vs) F' e' σ H D
  | _, _, f, F, e, σ, C, .nil, q => ⟨F, e, [], C, Same.refl _, .nil, q⟩
  | _, _, f, F, e, σ, C, .cons (r := r) (u := u) (rs := rs) (us := us) h d t, q => by
    unfold M.dts at q
    rw [M.bind_assoc] at q
    obtain ⟨F1, e1, v, C1, s1, h1, q, keep⟩ := AtS.dt C h q
    rw [M.bind_assoc] at q
    obtain ⟨F2, e2, vs, C2, s2, h2, q⟩ := AtS.dts C1 (RRs.tail_keep keep t d) q
    exact ⟨F2, e2, v :: vs, C2, s1.trans s2, .cons (h1.mono s2) h2, q⟩
end
def mAug (i : Nat) (f : Val → Val → M RV) (m : M RV) : S := (mVar i).bind fun r => match r with
  | .dat v => m.bind fun s => (M.rd s).bind fun w => (f v w).bind fun z => match z with
    | .dat v' => fun e => .ok .nx (e.set i (.dat v'))
    | _ => M.bad
  | _ => M.bad
def oAddI := oI fun i j => .int (i + j)
def mRep (a b : M RV) : M RV := a.bind fun r => b.bind fun s => (M.rd s).bind fun k => match r, k with
  | .tmp (.lst xs), .int n => if -9223372036854775808 ≤ n ∧ n < 9223372036854775808 ∧ xs.length * n.toNat ≤ sizeLine then M.ret (.tmp (.lst (List.replicate n.toNat xs).flatten)) else M.bad
  | _, _ => M.bad
abbrev Tg := String ⊕ Str
def tagV : Val → Option Tg
  | .non => some (.inl "NoneType")
  | .bl _ => some (.inl "bool")
  | .int _ => some (.inl "int")
  | .str _ => some (.inl "str")
  | .lst _ => some (.inl "list")
  | .tup _ => some (.inl "tuple")
  | .obj C _ _ => some (.inr C)
  | .dct _ _ => some (.inl "dict")
  | _ => none
def tagC : Val → Option Tg
  | .ty n => some (.inl n)
  | .glo C => some (.inr C)
  | _ => none
def tagT (K : PySem.W.Frag) : Tg → Value
  | .inl n => .type n
  | .inr C => .ref (He.ga K C)
def fIsi (T : List (Tg × Tg × Bool)) (vs : List Val) : M RV := match vs with
  | [v, c] => match tagV v, tagC c with
    | some a, some b => match T.find? fun e => decide (e.1 = a ∧ e.2.1 = b) with
      | some e => mV (.bl e.2.2)
      | none => M.bad
    | _, _ => M.bad
  | _ => M.bad
end Pu
set_option Elab.async false
set_option linter.all false
set_option maxRecDepth 100000
set_option maxHeartbeats 2000000
namespace Pu
open PySem PySem.Spec PyProof.Rows L2
def TabOne (K : PySem.W.Frag) : Prop := ∀ p ∈ tabs3 K, ∀ q ∈ tabs3 K, p.2.1 = q.2.1 → p.2.2 = q.2.2
structure TabsE (K : PySem.W.Frag) (h : Heap) : Prop where
  hd : ∀ p ∈ tabs3 K, PySem.W.codeHdIn K p.1 p.2.1 = true
  out : ∀ p ∈ tabs3 K, K.lookup p.2.1 = none
  empty : ∀ p ∈ tabs3 K, h.get? p.2.1 = some { cls := .none, data := .fields #[] }
  one : TabOne K
inductive Fy where
  | prop (C f : Str)
  | isi (C : Str)
  | kit (a b : Tg) (r : Bool)
  | tup (x : Str) (vs : List He.Dv)
  | gen (f : PySem.W.Frag → Bool)
def gA (K : PySem.W.Frag) (C f : Str) : Addr := match PySem.W.recIn K (He.ma K (He.ga K C) f) "property" with
  | some (.ref g :: _) => g
  | _ => 0
def Fy.ok (K : PySem.W.Frag) : Fy → Bool
  | .prop C f => He.eqO (PySem.W.findIn K (.ref (He.ga K C)) f) (some (some (.ref (He.ma K (He.ga K C) f)))) && (He.eqO (PySem.W.specialIn K (.ref (He.ma K (He.ga K C) f)) "__get__") (some (some (.builtin "property.__get__"))) && (decide (PySem.W.takesIn K (.ref (He.ma K (He.ga K C) f)) = some true) &&
      match PySem.W.recIn K (He.ma K (He.ga K C) f) "property" with
      | some (.ref _ :: _) => true
      | _ => false))
  | .isi C => He.eqO (PySem.W.findIn K (.ref (He.ga K C)) "__class__") (some (some (.builtin "object.__class__"))) && (He.eqO (PySem.W.specialIn K (.builtin "object.__class__") "__get__") (some (some (.builtin "getset_descriptor.__get__"))) &&
      (decide (PySem.W.takesIn K (.builtin "object.__class__") = some true) && (decide (PySem.W.mroIn K (He.ga K C) (.type "object") = some true) && (He.Fa.cls C).ok K)))
  | .kit a b r => decide (PySem.W.kitOne K (tagT K a) (tagT K b) = some r)
  | .tup x vs => He.tupB K x vs
  | .gen f => f K
def noLists (K : PySem.W.Frag) : Bool := K.all fun q => match q.2.cls with
  | .type c => c != "list"
  | _ => true
def seenT : Nat → List (Addr × Addr × Str) → Bool
  | _, [] => true
  | bs, p :: r => !(bs.testBit p.2.1) && seenT (bs ||| (1 <<< p.2.1)) r
theorem seenT_ok : ∀ {l : List (Addr × Addr × Str)} {bs : Nat}, seenT bs l = true → (∀ p ∈ l, bs.testBit p.2.1 = false) ∧ ∀ p ∈ l, ∀ q ∈ l, p.2.1 = q.2.1 → p = q
  | [], bs, _ => ⟨fun p hp => absurd hp List.not_mem_nil, fun p hp => absurd hp List.not_mem_nil⟩
  | a :: r, bs, h => by
    unfold seenT at h
    rw [Bool.and_eq_true, Bool.not_eq_true'] at h
    obtain ⟨i1, i2⟩ := seenT_ok h.2
    have no : ∀ q ∈ r, bs.testBit q.2.1 = false ∧ q.2.1 ≠ a.2.1 := fun q hq => by
      have z := i1 q hq
      rw [Nat.testBit_or, Bool.or_eq_false_iff] at z
      refine ⟨z.1, fun e => ?_⟩
      have z2 := z.2
      rw [e, Nat.testBit_shiftLeft] at z2
      simp at z2
    refine ⟨fun p hp => ?_, fun p hp q hq e => ?_⟩
    · rcases List.mem_cons.mp hp with e1 | p1
      · rw [e1]; exact h.1
      · exact (no p p1).1
    · rcases List.mem_cons.mp hp with e1 | p1
      · rcases List.mem_cons.mp hq with e2 | q1
        · rw [e1, e2]
        · rw [e1] at e; exact absurd e.symm (no q q1).2
      · rcases List.mem_cons.mp hq with e2 | q1
        · rw [e2] at e; exact absurd e (no p p1).2
        · exact i2 p p1 q q1 e
def tabsChk (g : Addr → Option Obj) (K : PySem.W.Frag) : Bool := ((tabs3 K).all fun p => PySem.W.codeHdIn K p.1 p.2.1 && (match g p.2.1 with
  | some o => He.emptyTab o
  | none => false)) && seenT 0 (tabs3 K)
theorem tabsChk_ok {as : List Addr} {h : Heap} (c : tabsChk h.get? (He.frT h.get? as) = true) : TabsE (He.frT h.get? as) h := by
  unfold tabsChk at c
  obtain ⟨c1, c2⟩ := Bool.and_eq_true_iff.mp c
  have key : ∀ p ∈ tabs3 (He.frT h.get? as), PySem.W.codeHdIn (He.frT h.get? as) p.1 p.2.1 = true ∧ ∃ o, h.get? p.2.1 = some o ∧ He.emptyTab o = true := fun p hp => by
    obtain ⟨h3, h4⟩ := Bool.and_eq_true_iff.mp (List.all_eq_true.mp c1 p hp)
    refine ⟨h3, ?_⟩
    cases q : h.get? p.2.1 with
    | none => rw [q] at h4; cases h4
    | some o => rw [q] at h4; exact ⟨o, rfl, h4⟩
  refine ⟨fun p hp => (key p hp).1, fun p hp => ?_, fun p hp => ?_, fun p hp q hq e => ?_⟩
  · obtain ⟨_, o, q, z⟩ := key p hp
    exact He.frT_none q z
  · obtain ⟨_, o, q, z⟩ := key p hp
    rw [q, He.emptyTab_eq z]
  · rw [(seenT_ok c2).2 p hp q hq e]
abbrev AlP : Type := He.AlD × Bool
def lvlB : List Addr → Nat → List Addr → (Nat → List Addr → List Addr) → List Addr
  | [], v, acc, k => k v acc
  | a :: r, v, acc, k => match v.testBit a with
    | true => lvlB r v acc k
    | false => lvlB r (v ||| (1 <<< a)) (a :: acc) k
def refsB (g : Addr → Option Obj) (a : Addr) : List Addr := match g a with
  | some o => He.refsD o
  | none => []
def asB (g : Addr → Option Obj) : Nat → Nat → List Addr → List Addr
  | 0, _, fr => fr
  | n + 1, v, fr => fr ++ lvlB (fr.flatMap (refsB g)) v [] (asB g n)
def frP (n : Nat) (g : Addr → Option Obj) : PySem.W.Frag := He.frT g (asB g n (1 <<< mainGlobals) [mainGlobals] ++ [cStatics, sysModules])
def obsP (n : Nat) (fa : List He.Fa) (fn : List He5.DefA) (fy : List Fy) (g : Addr → Option Obj) : AlP := (He5.obsA fa fn (frP n g), (fy.all fun f => f.ok (frP n g)) && (noLists (frP n g) && tabsChk g (frP n g)))
structure SaysP (fa : List He.Fa) (fn : List He5.DefA) (fy : List Fy) (K : PySem.W.Frag) : Prop where
  a : He5.SaysA fa fn K
  y : ∀ f ∈ fy, f.ok K = true
  nl : noLists K = true
def hookP (n : Nat) (fa : List He.Fa) (fn : List He5.DefA) (fy : List Fy) : PySem.W.Hook where
  α := AlP
  obs := fun s => obsP n fa fn fy s.heap.get?
  val := fun _ => (He5.valA fn, true)
  says := fun _ h => ∃ K : PySem.W.Frag, K.In h ∧ SaysP fa fn fy K ∧ TabsE K h
  of := fun _ h e => by
    have e1 := congrArg (fun z : AlP => z.1) e
    have e2 := Bool.and_eq_true_iff.mp (congrArg (fun z : AlP => z.2) e)
    have e3 := Bool.and_eq_true_iff.mp e2.2
    exact ⟨_, He.frT_in, ⟨e1, List.all_eq_true.mp e2.1, e3.1⟩, tabsChk_ok e3.2⟩
  keeps := fun _ _ _ q kp => by
    obtain ⟨K, inK, c, t⟩ := q
    exact ⟨K, PySem.W.Frag.In.keeps inK kp, c, ⟨t.hd, t.out, fun p hp => kp _ _ (t.empty p hp), t.one⟩⟩
theorem obsP_eq {n : Nat} {fa : List He.Fa} {fn : List He5.DefA} {fy : List Fy} {g : Addr → Option Obj} {s : Shared} (h : ∀ a, g a = s.heap.get? a) : obsP n fa fn fy g = (hookP n fa fn fy).obs s := by
  obtain rfl : g = s.heap.get? := funext h
  rfl
end Pu
set_option Elab.async false
set_option linter.all false
set_option maxRecDepth 100000
namespace Pu
open PySem PySem.Spec PyProof.Rows L2
structure FnB (P : Program) (w : World) (K : PySem.W.Frag) (mg : Str → Option Value) (base : Heap) (k : Nat) (d : He5.DefA) (ps : List Str) (n : Nat) (m : M RV) : Prop where
  ex : ∃ fd, FunD K d.name d.qual d.params d.body d.scope (d.dvs K) (d.kws K) (d.at_ K) fd ∧ FnG P w K mg base k (d.at_ K) fd ps (spG K n m)
structure BindD (d : He5.DefA) (ps : List Str) : Prop where
  dfl : d.dfl = []
  kwd : d.kwd = []
  all : ∀ (kV doc pm : Value) (an : Option Addr) (cdv ct : Value) (us : List Value), us.length = ps.length → bindArgs (PySem.W.fnOf d.name d.qual d.params d.body d.scope .none kV doc pm an cdv ct) ⟨us, []⟩ = pure (ps.zip us)
section
variable {P : Program} {w : World} {K : PySem.W.Frag} {mg : Str → Option Value} {base : Heap} {k j n : Nat} {d : He5.DefA} {ps : List Str} {m : M RV}
theorem FnB.up (B : FnB P w K mg base j d ps n m) (h : j ≤ k := by decide) : FnB P w K mg base k d ps n m := by
  obtain ⟨fd, D, F⟩ := B.ex
  exact ⟨fd, D, F.up h⟩
theorem FnB.parts (B : FnB P w K mg base k d ps n m) (bd : BindD d ps) : ∃ fd, FnG P w K mg base k (d.at_ K) fd ps (spG K n m) ∧ Binds K fd ps [] ∧ PySem.W.keepIn K (.ref (d.at_ K)) = true := by
  obtain ⟨fd, D, F⟩ := B.ex
  refine ⟨fd, F, ?_, D.kp⟩
  have e : d.dvs K = [] := by unfold He5.DefA.dvs; rw [bd.dfl]; rfl
  rw [e] at D
  exact D.bindsN bd.all
end
section
variable {X : Cx} {W : WX} {x : Str} {pos : Pos}
def gv : Val → He.Dv
  | .non => .non
  | .bl b => .bl b
  | .int i => .int i
  | .str x => .str x
  | .ty n => .ty n
  | .glo x => .glo x
  | _ => .non
end
end Pu
set_option Elab.async false
set_option linter.all false
set_option maxRecDepth 100000
namespace Pu.O
open PySem PySem.Spec PyProof.Rows L2 Pu
def Ok {α : Type} (m : M α) (e : Ev) (Q : α → Ev → Prop) : Prop := match m e with
  | .ok a e' => Q a e'
  | _ => False
section
variable {α β : Type} {m : M α} {e : Ev} {Q Q' : α → Ev → Prop} {R : β → Ev → Prop}
theorem Ok.mono (h : Ok m e Q) (k : ∀ a e', Q a e' → Q' a e') : Ok m e Q' := by
  unfold Ok at h ⊢
  cases q : m e with
  | ok a e' => rw [q] at h; exact k _ _ h
  | _ => rw [q] at h; exact h.elim
theorem ok_ret {a : α} : Ok (M.ret a) e Q ↔ Q a e := Iff.rfl
end
variable {e : Ev}
theorem ok_compS0 {ws : List Nat} {mt : Val → M Unit} {mc : M Bool} {me : M RV} {acc : List Val} {Q : List Val → Ev → Prop} : Ok (compS ws mt mc me [] acc) e Q ↔ Q acc e := Iff.rfl
theorem ok_compSC {ws : List Nat} {mt : Val → M Unit} {mc : M Bool} {me : M RV} {v : Val} {vs acc : List Val} {Q : List Val → Ev → Prop} : Ok (compS ws mt mc me (v :: vs) acc) e Q ↔ Ok (mt v) e fun _ e1 => Ok mc e1 fun k e2 =>
    (k = true → Ok me e2 fun x e3 => Ok (M.dt x) e3 fun w e4 => acc.length < sizeLine ∧ Ok (compS ws mt mc me vs (acc ++ [w])) (wipeE e4 ws) Q) ∧ (¬ k = true → Ok (compS ws mt mc me vs acc) (wipeE e2 ws) Q) := by
  unfold Ok
  conv => lhs; unfold compS
  cases mt v e with
  | ok u e1 =>
    dsimp only
    cases mc e1 with
    | ok k e2 => cases k with
      | true =>
        dsimp only
        simp only [true_implies, not_true_eq_false, false_implies, and_true]
        cases me e2 with
        | ok x e3 =>
          dsimp only
          cases M.dt x e3 with
          | ok w e4 =>
            dsimp only
            by_cases h : acc.length < sizeLine <;> simp [h]
          | _ => exact Iff.rfl
        | _ => exact Iff.rfl
      | false => simp
    | _ => exact Iff.rfl
  | _ => exact Iff.rfl
theorem Ok.compS {ws : List Nat} {mt : Val → M Unit} {me : M RV} (I : Ev → Prop) (P : Val → Val → Prop) : ∀ {vs acc : List Val} {e : Ev}, I e → acc.length + vs.length ≤ sizeLine →
    (∀ (v : Val) (e : Ev), v ∈ vs → I e → Ok (mt v) e fun _ e1 => Ok me e1 fun x e3 => Ok (M.dt x) e3 fun w e4 => P v w ∧ I (wipeE e4 ws)) →
    Ok (Pu.compS ws mt mYes me vs acc) e fun r e' => I e' ∧ ∃ rs, r = acc ++ rs ∧ rs.length = vs.length ∧ ∀ (j : Nat) (v w : Val), vs[j]? = some v → rs[j]? = some w → P v w
  | [], acc, e, h, _, _ => by
    rw [ok_compS0]
    exact ⟨h, [], by simp, rfl, fun j v w z => by simp at z⟩
  | v :: vs, acc, e, h, hl, st => by
    rw [ok_compSC]
    refine Ok.mono (st v e (List.mem_cons_self ..) h) fun _ e1 h1 => ?_
    show Ok (M.ret true) e1 _
    rw [ok_ret]
    refine ⟨fun _ => ?_, fun z => absurd rfl z⟩
    refine Ok.mono h1 fun x e3 h3 => Ok.mono h3 fun w e4 h4 => ?_
    rw [List.length_cons] at hl
    refine ⟨by omega, Ok.mono (Ok.compS I P (vs := vs) h4.2 (by simp; omega) fun v' e' m => st v' e' (List.mem_cons_of_mem _ m)) fun r e' q => ?_⟩
    obtain ⟨q1, rs, rfl, q3, q4⟩ := q
    refine ⟨q1, w :: rs, by simp, by simp [q3], fun j v' w' z1 z2 => ?_⟩
    cases j with
    | zero => simp at z1 z2; subst z1 z2; exact h4.1
    | succ j => exact q4 j v' w' (by simpa using z1) (by simpa using z2)
end Pu.O
namespace Pu
open PySem PySem.Spec PyProof.Rows L2
inductive Tag {α : Type} (Q : α → Ev → Prop) : Type where
  | tag
def Ok {α : Type} (m : M α) (e : Ev) (Q : α → Ev → Prop) (_u : Tag Q := .tag) : Prop := O.Ok m e Q
section
variable {α β : Type} {m : M α} {e : Ev} {Q Q' : α → Ev → Prop} {R : β → Ev → Prop}
theorem Ok.mono (h : Ok m e Q) (k : ∀ a e', Q a e' → Q' a e') : Ok m e Q' := O.Ok.mono h k
theorem ok_ret {a : α} : Ok (M.ret a) e Q ↔ Q a e := O.ok_ret
end
variable {e : Ev}
theorem ok_compS0 {ws : List Nat} {mt : Val → M Unit} {mc : M Bool} {me : M RV} {acc : List Val} {Q : List Val → Ev → Prop} : Ok (compS ws mt mc me [] acc) e Q ↔ Q acc e := O.ok_compS0
theorem ok_compSC {ws : List Nat} {mt : Val → M Unit} {mc : M Bool} {me : M RV} {v : Val} {vs acc : List Val} {Q : List Val → Ev → Prop} : Ok (compS ws mt mc me (v :: vs) acc) e Q ↔ Ok (mt v) e fun _ e1 => Ok mc e1 fun k e2 =>
    (k = true → Ok me e2 fun x e3 => Ok (M.dt x) e3 fun w e4 => acc.length < sizeLine ∧ Ok (compS ws mt mc me vs (acc ++ [w])) (wipeE e4 ws) Q) ∧ (¬ k = true → Ok (compS ws mt mc me vs acc) (wipeE e2 ws) Q) := O.ok_compSC
theorem Ok.compS {ws : List Nat} {mt : Val → M Unit} {me : M RV} (I : Ev → Prop) (P : Val → Val → Prop) : ∀ {vs acc : List Val} {e : Ev}, I e → acc.length + vs.length ≤ sizeLine →
    (∀ (v : Val) (e : Ev), v ∈ vs → I e → Ok (mt v) e fun _ e1 => Ok me e1 fun x e3 => Ok (M.dt x) e3 fun w e4 => P v w ∧ I (wipeE e4 ws)) →
    Ok (Pu.compS ws mt mYes me vs acc) e fun r e' => I e' ∧ ∃ rs, r = acc ++ rs ∧ rs.length = vs.length ∧ ∀ (j : Nat) (v w : Val), vs[j]? = some v → rs[j]? = some w → P v w := O.Ok.compS I P
end Pu
set_option Elab.async false
set_option linter.all false
set_option maxRecDepth 100000
namespace Pu
open PySem PySem.Spec PyProof.Rows L2
end Pu
set_option Elab.async false
set_option linter.all false
set_option maxRecDepth 100000
namespace Pu
open PySem PySem.Spec PyProof.Rows L2
end Pu
set_option Elab.async false
set_option linter.all false
set_option maxRecDepth 100000
set_option maxHeartbeats 2000000
namespace Pu
open PySem PySem.Spec PyProof.Rows L2
def ItB : Bool → Heap → Addr → Addr → Nat → Prop
  | true, h, it, a, i => h.IsListIter it a i
  | false, h, it, a, i => h.IsTupleIter it a i
theorem ItB.at {b : Bool} {h h' : Heap} {it a : Addr} {i : Nat} (x : ItB b h it a i) (e : ∀ o, h.get? it = some o → h'.get? it = some o) : ItB b h' it a i := by
  cases b
  · exact Heap.IsTupleIter.at x e
  · exact Heap.IsListIter.at x e
theorem ItB.obj {b : Bool} {h : Heap} {it a : Addr} {i : Nat} (x : ItB b h it a i) : ∃ o, h.get? it = some o ∧ ∀ v, o.data ≠ .cell v := by
  cases b <;> (obtain ⟨o, ho, hc, hd⟩ := x; exact ⟨o, ho, fun v q => by rw [hd] at q; cases q⟩)
end Pu
set_option Elab.async false
set_option linter.all false
set_option maxRecDepth 100000
set_option maxHeartbeats 2000000
namespace Pu
open PySem PySem.Spec PyProof.Rows L2
end Pu
set_option Elab.async false
set_option linter.all false
set_option maxRecDepth 100000
set_option maxHeartbeats 3200000
namespace Pu
open PySem PySem.Spec PyProof.Rows L2
end Pu
set_option Elab.async false
set_option linter.all false
set_option maxRecDepth 100000
set_option maxHeartbeats 2000000
namespace Pu
open PySem PySem.Spec PyProof.Rows L2
def insI (x : Int) : List Int → List Int
  | [] => [x]
  | y :: r => if x ≤ y then x :: y :: r else y :: insI x r
def sortI : List Int → List Int
  | [] => []
  | x :: r => insI x (sortI r)
def mSort (m : M RV) : M RV := m.bind fun r => (M.rd r).bind fun v => match v with
  | .lst xs => match ints? xs with
    | some ns => M.ret (.tmp (.lst ((sortI ns).map .int)))
    | none => M.bad
  | _ => M.bad
end Pu
set_option Elab.async false
set_option linter.all false
set_option maxRecDepth 100000
namespace Pu
open PySem PySem.Spec PyProof.Rows L2
end Pu
set_option Elab.async false
set_option linter.all false
set_option maxRecDepth 100000
set_option maxHeartbeats 2000000
namespace Pu
open PySem PySem.Spec PyProof.Rows L2
def noOwnE (e : Ev) : Bool := e.all fun s => match s with
  | .own _ => false
  | _ => true
theorem noOwn_get {e : Ev} (h : noOwnE e = true) {i : Nat} {v : Val} : e[i]? ≠ some (.own v) := fun q => by
  have := List.all_eq_true.mp h _ (List.mem_of_getElem? q)
  cases this
inductive InR (K : PySem.W.Frag) (B : Bg) (F H : Hp) : List (List Val) → List Addr → Prop
  | nil : InR K B F H [] []
  | cons {ys : List Val} {b : Addr} {us : List V} {xs : List (List Val)} {bs : List Addr} : H b = some (.lst us) → VRs K F ys us → F b = none → B.mine b → InR K B F H xs bs → InR K B F H (ys :: xs) (b :: bs)
structure NX (K : PySem.W.Frag) (B : Bg) (iF : Nat) (A : Addr) (bs : List Addr) (xs : List (List Val)) (F H : Hp) (e : Ev) (σ : Sig) : Prop where
  cur : Cur K B F H (e.set iF .un) σ
  no : noOwnE e = true
  x1 : e[iF]? = some (.dat (.lst (xs.map .lst)))
  x2 : σ[iF]? = some (some (.ref A))
  x3 : H A = some (.lst (bs.map .ref))
  x4 : F A = none
  x5 : B.mine A
  x6 : (A :: bs).Nodup
  x7 : InR K B F H xs bs
def NR (K : PySem.W.Frag) (B : Bg) (iF : Nat) (F H : Hp) (e : Ev) (σ : Sig) : Prop := ∃ (A : Addr) (bs : List Addr) (xs : List (List Val)), NX K B iF A bs xs F H e σ
section
variable {K : PySem.W.Frag} {W : WX} {B : Bg} {F F1 H H1 : Hp} {e e' : Ev} {σ : Sig} {iF : Nat} {A : Addr} {bs : List Addr} {xs : List (List Val)}
theorem InR.len {xs : List (List Val)} {bs : List Addr} (h : InR K B F H xs bs) : xs.length = bs.length := by
  induction h with
  | nil => rfl
  | cons _ _ _ _ _ ih => simp [ih]
theorem InR.at {xs : List (List Val)} {bs : List Addr} (h : InR K B F H xs bs) : ∀ b ∈ bs, F b = none ∧ B.mine b ∧ ∃ us, H b = some (.lst us) := by
  induction h with
  | nil => intro b hb; simp at hb
  | cons h1 h2 h3 h4 _ ih =>
    intro c hc
    rcases List.mem_cons.mp hc with rfl | hc
    · exact ⟨h3, h4, _, h1⟩
    · exact ih c hc
theorem InR.get {xs : List (List Val)} {bs : List Addr} (h : InR K B F H xs bs) : ∀ {n : Nat} {ys : List Val}, xs[n]? = some ys → ∃ b us, bs[n]? = some b ∧ H b = some (.lst us) ∧ VRs K F ys us := by
  induction h with
  | nil => intro n ys h; simp at h
  | cons h1 h2 h3 h4 _ ih =>
    intro n zs h
    cases n with
    | zero => simp at h; subst h; exact ⟨_, _, rfl, h1, h2⟩
    | succ n => simpa using ih (n := n) (by simpa using h)
theorem InR.go {xs : List (List Val)} {bs : List Addr} (h : InR K B F H xs bs) (s : Same F F1) (hH : ∀ b ∈ bs, H1 b = H b) (hF : ∀ b ∈ bs, F1 b = none) : InR K B F1 H1 xs bs := by
  induction h with
  | nil => exact .nil
  | cons h1 h2 h3 h4 _ ih => exact .cons ((hH _ List.mem_cons_self).trans h1) (h2.mono s) (hF _ List.mem_cons_self) h4 (ih (fun b hb => hH b (List.mem_cons_of_mem _ hb)) fun b hb => hF b (List.mem_cons_of_mem _ hb))
theorem InR.set {xs : List (List Val)} {bs : List Addr} (h : InR K B F H xs bs) : ∀ {n : Nat} {b : Addr} {ys : List Val} {us : List V}, bs.Nodup → bs[n]? = some b → VRs K F ys us → InR K B F (upd H b (.lst us)) (xs.set n ys) bs := by
  induction h with
  | nil => intro n b ys us _ h; simp at h
  | @cons ys0 b0 us0 xs0 bs0 h1 h2 h3 h4 t ih =>
    intro n b ys us nd h r
    obtain ⟨n1, n2⟩ := List.nodup_cons.mp nd
    cases n with
    | zero =>
      simp at h
      subst h
      exact .cons upd_same r h3 h4 (t.go (Same.refl _) (fun c hc => upd_ne fun z => n1 (by rw [← z]; exact hc)) fun c hc => (t.at c hc).1)
    | succ n =>
      have hb : bs0[n]? = some b := by simpa using h
      exact .cons ((upd_ne fun z => n1 (by rw [z]; exact List.mem_of_getElem? hb)).trans h1) h2 h3 h4 (ih n2 hb r)
theorem NX.nS (N : NX K B iF A bs xs F H e σ) : ∀ a ∈ A :: bs, F a = none := fun a ha => by
  rcases List.mem_cons.mp ha with rfl | ha
  · exact N.x4
  · exact (N.x7.at a ha).1
theorem NX.has (N : NX K B iF A bs xs F H e σ) : ∀ a ∈ A :: bs, ∃ us, H a = some (.lst us) := fun a ha => by
  rcases List.mem_cons.mp ha with rfl | ha
  · exact ⟨_, N.x3⟩
  · exact (N.x7.at a ha).2.2
theorem NX.mine (N : NX K B iF A bs xs F H e σ) : ∀ a ∈ A :: bs, B.mine a := fun a ha => by
  rcases List.mem_cons.mp ha with rfl | ha
  · exact N.x5
  · exact (N.x7.at a ha).2.1
end
end Pu
set_option Elab.async false
set_option linter.all false
set_option maxRecDepth 100000
set_option maxHeartbeats 2000000
namespace Pu
open PySem PySem.Spec PyProof.Rows L2
def AtN (K : PySem.W.Frag) (B : Bg) (iF : Nat) (F : Hp) (m : S) (e : Ev) (D : Ends) : Prop := match m e with
  | .ok .nx e' => ∀ F' H' σ', Same F F' → NR K B iF F' H' e' σ' → D.nx σ' H'
  | .ok (.rt (.dat .non)) e' => ∀ F' H' σ', Same F F' → NR K B iF F' H' e' σ' → D.rt .non H'
  | _ => False
section
variable {K : PySem.W.Frag} {B : Bg} {F H : Hp} {e e' : Ev} {σ : Sig} {iF : Nat} {D : Ends}
theorem AtN.nx {m : S} (h : AtN K B iF F m e D) (hm : m e = .ok .nx e') {σ' : Sig} {F' H' : Hp} (s : Same F F') (N : NR K B iF F' H' e' σ') : D.nx σ' H' := by
  unfold AtN at h
  rw [hm] at h
  exact h _ _ _ s N
theorem AtN.mono {m : S} {F1 : Hp} (h : AtN K B iF F m e D) (s : Same F F1) : AtN K B iF F1 m e D := by
  unfold AtN at h ⊢
  split at h
  · rename_i q; exact fun F' H' σ' s' => h F' H' σ' (s.trans s')
  · rename_i q; exact fun F' H' σ' s' => h F' H' σ' (s.trans s')
  · exact h.elim
end
section
variable {X : Cx} {iF k : Nat} {st : Stmt} {rest a b : List Stmt} {ma mb : S} {x c : Expr} {m : M RV} {mc : M Bool} {pos : Pos}
theorem NX.step {K : PySem.W.Frag} {B : Bg} {F F2 H H2 : Hp} {e : Ev} {σ : Sig} {A : Addr} {bs : List Addr} {xs : List (List Val)} (N : NX K B iF A bs xs F H e σ) (C : Cur K (bg B.np F H (e.set iF .un) σ) F2 H2 (e.set iF .un) σ) (s : Same F F2) : NX K B iF A bs xs F2 H2 e σ := by
  have noO : ∀ a, ¬ Own (e.set iF .un) σ a := fun a ⟨i, v, q, _⟩ => by
    rcases getset q with ⟨_, z, _⟩ | ⟨_, z⟩
    · cases z
    · exact noOwn_get N.no z
  have keep : ∀ a ∈ A :: bs, H2 a = H a ∧ F2 a = none := fun a ha => by
    obtain ⟨us, h⟩ := N.has a ha
    refine ⟨(C.post.fr a _ h (noO a) (fun _ z => by cases z)).trans h.symm, ?_⟩
    refine Classical.byContradiction fun q => ?_
    rcases C.post.nw a q with z | z
    · exact z (N.nS a ha)
    · rcases z with z | z
      · exact noO a z
      · have z : H a = none := z
        rw [h] at z; cases z
  have AS : A ∈ A :: bs := List.mem_cons_self
  exact ⟨N.cur.trans C, N.no, N.x1, N.x2, (keep A AS).1.trans N.x3, (keep A AS).2, N.x5, N.x6, N.x7.go s (fun b hb => (keep b (List.mem_cons_of_mem _ hb)).1) fun b hb => (keep b (List.mem_cons_of_mem _ hb)).2⟩
end
end Pu
set_option Elab.async false
set_option linter.all false
set_option maxRecDepth 100000
namespace Pu
open PySem PySem.Spec PyProof.Rows L2
namespace EE
open PySem.SeqAt MeetsSeq MeetsSeq2 MeetsSeq3 SeqRoads2
end EE
end Pu
set_option Elab.async false
set_option linter.all false
set_option maxRecDepth 100000
set_option maxHeartbeats 2000000
namespace Pu
open PySem PySem.Spec PyProof.Rows L2
end Pu
set_option Elab.async false
set_option linter.all false
set_option maxRecDepth 100000
set_option maxHeartbeats 2000000
namespace Pu
open PySem PySem.Spec PyProof.Rows L2
end Pu
set_option Elab.async false
set_option linter.all false
set_option maxRecDepth 100000
set_option maxHeartbeats 2000000
namespace Pu
open PySem PySem.Spec PyProof.Rows L2
end Pu
set_option Elab.async false
set_option linter.all false
set_option maxRecDepth 100000
set_option maxHeartbeats 2000000
namespace Pu
open PySem PySem.Spec PyProof.Rows L2
end Pu
set_option Elab.async false
set_option linter.all false
set_option maxRecDepth 100000
set_option maxHeartbeats 2000000
namespace Pu
open PySem PySem.Spec PyProof.Rows L2
end Pu
set_option Elab.async false
set_option linter.all false
set_option maxRecDepth 100000
set_option maxHeartbeats 2000000
namespace Pu
open PySem PySem.Spec PyProof.Rows L2
end Pu
set_option Elab.async false
set_option linter.all false
set_option maxRecDepth 100000
set_option maxHeartbeats 2000000
namespace Pu
open PySem PySem.Spec PyProof.Rows L2
end Pu
set_option Elab.async false
set_option linter.all false
set_option maxRecDepth 100000
set_option maxHeartbeats 4000000
namespace Pu.Q
open PySem PySem.Spec PyProof.Rows L2 Pu
def mostTurns : Nat := 100000
def top (i : Nat) : Stmt := PySem.Challenge.pw_discwarden_k07_whole_rules_compared.main.body.getD i (.Pass ⟨0, 0, 0, 0⟩)
def sub (i j : Nat) : Stmt := match top i with
  | .ClassDef _ _ _ b _ _ _ _ _ _ _ => b.getD j (.Pass ⟨0, 0, 0, 0⟩)
  | _ => .Pass ⟨0, 0, 0, 0⟩
def isT : List (Tg × Tg × Bool) := [(.inl "NoneType", .inl "int", false), (.inl "bool", .inl "int", true), (.inl "int", .inl "int", true), (.inl "str", .inl "int", false), (.inl "list", .inl "int", false), (.inl "tuple", .inl "int", false), (.inl "dict", .inl "int", false), (.inr "Rule", .inl "int", false), (.inl "NoneType", .inr "Rule", false), (.inl "bool", .inr "Rule", false), (.inl "int", .inr "Rule", false), (.inl "str", .inr "Rule", false), (.inl "list", .inr "Rule", false), (.inl "tuple", .inr "Rule", false), (.inl "dict", .inr "Rule", false), (.inr "Rule", .inr "Rule", true), (.inl "NoneType", .inl "bool", false), (.inl "bool", .inl "bool", true), (.inl "int", .inl "bool", false), (.inl "str", .inl "bool", false), (.inl "list", .inl "bool", false), (.inl "tuple", .inl "bool", false), (.inl "dict", .inl "bool", false), (.inr "Rule", .inl "bool", false), (.inl "NoneType", .inl "str", false), (.inl "bool", .inl "str", false), (.inl "int", .inl "str", false), (.inl "str", .inl "str", true), (.inl "list", .inl "str", false), (.inl "tuple", .inl "str", false), (.inl "dict", .inl "str", false), (.inr "Rule", .inl "str", false)]
abbrev s_is_integer : Stmt := top 11
def d_is_integer : He5.DefA := ⟨fun K => He.ga K "is_integer", "is_integer", "is_integer", defArgs s_is_integer, defBody s_is_integer, defScope s_is_integer, [], []⟩
def b_is_integer : S := (mRet (mAndV (mCB (fIsi isT) (mCons (mVar 0) (mCons (mV (.ty "int")) mNil))) (mNotV (mCB (fIsi isT) (mCons (mVar 0) (mCons (mV (.ty "bool")) mNil))))))
def den_is_integer : M RV := fnDen 1 1 b_is_integer
abbrev s_is_between : Stmt := top 12
def d_is_between : He5.DefA := ⟨fun K => He.ga K "is_between", "is_between", "is_between", defArgs s_is_between, defBody s_is_between, defScope s_is_between, [], []⟩
def b_is_between : S := (mRet (mAndV (mCall [false] den_is_integer (mCons (mVar 0) mNil) []) (mChain oLe oLe (mVar 1) (mVar 0) (mVar 2))))
def den_is_between : M RV := fnDen 3 3 b_is_between
abbrev s_check_number : Stmt := top 13
def d_check_number : He5.DefA := ⟨fun K => He.ga K "check_number", "check_number", "check_number", defArgs s_check_number, defBody s_check_number, defScope s_check_number, [], []⟩
def b_check_number : S := (mIf (mNot (mTru (mCall [false, false, false] den_is_between (mCons (mVar 0) (mCons (mVar 1) (mCons (mVar 2) mNil))) []))) M.bad mSkip)
def den_check_number : M RV := fnDen 3 3 b_check_number
abbrev s_Rule____init__ : Stmt := sub 22 0
def d_Rule____init__ : He5.DefA := ⟨fun K => He.ma K (He.ga K "Rule") "__init__", "__init__", "Rule.__init__", defArgs s_Rule____init__, defBody s_Rule____init__, defScope s_Rule____init__, [], []⟩
def b_Rule____init__ : S := (mSeq (mEx (mCall [false, false, false] den_check_number (mCons (mVar 1) (mCons (mV (.int 1)) (mCons (mV (.int 1000000000000)) mNil))) [])) (mSeq (mIf (mOr (mNot (mTru (mCB (fIsi isT) (mCons (mVar 2) (mCons (mV (.ty "str")) mNil))))) (mTru (mBin (oInG true) (mVar 2) (mV (.tup [(.str "next"), (.str "last"), (.str "near")]))))) M.bad mSkip) (mSeq (mEx (mCall [false, false, false] den_check_number (mCons (mVar 3) (mCons (mVar 1) (mCons (mV (.int 1000000000000000000)) mNil))) [])) (mSeq (mEx (mCall [false, false, false] den_check_number (mCons (mVar 4) (mCons (mV (.int 1)) (mCons (mV (.int 1000000000000000000)) mNil))) [])) (mSeq (mPut "Rule" "limit" (mVar 0) (mVar 3)) (mPut "Rule" "parts" (mVar 0) (mTup (mCons (mVar 1) (mCons (mVar 2) (mCons (mVar 3) (mCons (mVar 4) mNil)))))))))))
def den_Rule____init__ : M RV := fnDen 5 5 b_Rule____init__
abbrev s_check_rule : Stmt := top 23
def d_check_rule : He5.DefA := ⟨fun K => He.ga K "check_rule", "check_rule", "check_rule", defArgs s_check_rule, defBody s_check_rule, defScope s_check_rule, [], []⟩
def b_check_rule : S := (mIf (mNot (mTru (mCB (fIsi isT) (mCons (mVar 0) (mCons (mV (.glo "Rule")) mNil))))) M.bad mSkip)
def den_check_rule : M RV := fnDen 1 1 b_check_rule
abbrev s_check_both_k07 : Stmt := top 28
def d_check_both_k07 : He5.DefA := ⟨fun K => He.ga K "check_both", "check_both", "check_both", defArgs s_check_both_k07, defBody s_check_both_k07, defScope s_check_both_k07, [], []⟩
def b_check_both_k07 : S := (mSeq (mEx (mCall [false] den_check_rule (mCons (mVar 0) mNil) [])) (mEx (mCall [false] den_check_rule (mCons (mVar 1) mNil) [])))
def den_check_both_k07 : M RV := fnDen 2 2 b_check_both_k07
abbrev s_common : Stmt := top 15
def d_common : He5.DefA := ⟨fun K => He.ga K "common", "common", "common", defArgs s_common, defBody s_common, defScope s_common, [], []⟩
def b_common : S := (mSeq (whileS (mTru (mBin oGt (mVar 1) (mV (.int 0)))) (mPar true [0, 1] (mCons (mVar 1) (mCons (mBin oMod (mVar 0) (mVar 1)) mNil))) mostTurns) (mRet (mVar 0)))
def den_common : M RV := fnDen 2 2 b_common
abbrev s_Rule__step : Stmt := sub 22 2
def d_Rule__step : He5.DefA := ⟨fun K => gA K "Rule" "step", "step", "Rule.step", defArgs s_Rule__step, defBody s_Rule__step, defScope s_Rule__step, [], []⟩
def b_Rule__step : S := (mRet (mBin oIx (mGet "Rule" "parts" (mVar 0)) (mV (.int 0))))
def den_Rule__step : M RV := fnDen 1 1 b_Rule__step
abbrev s_Rule__setting : Stmt := sub 22 3
def d_Rule__setting : He5.DefA := ⟨fun K => gA K "Rule" "setting", "setting", "Rule.setting", defArgs s_Rule__setting, defBody s_Rule__setting, defScope s_Rule__setting, [], []⟩
def b_Rule__setting : S := (mRet (mBin oIx (mGet "Rule" "parts" (mVar 0)) (mV (.int 1))))
def den_Rule__setting : M RV := fnDen 1 1 b_Rule__setting
abbrev s_reach : Stmt := top 24
def d_reach : He5.DefA := ⟨fun K => He.ga K "reach", "reach", "reach", defArgs s_reach, defBody s_reach, defScope s_reach, [], []⟩
def b_reach : S := (mSeq (mIf (mTru (mBin oEq (mProp "Rule" den_Rule__setting (mVar 0)) (mV (.str "next")))) (mRet (mTup (mCons (mV (.int 0)) (mCons (mBin oSub (mProp "Rule" den_Rule__step (mVar 0)) (mV (.int 1))) mNil)))) mSkip) (mSeq (mIf (mTru (mBin oEq (mProp "Rule" den_Rule__setting (mVar 0)) (mV (.str "last")))) (mRet (mTup (mCons (mBin oSub (mV (.int 1)) (mProp "Rule" den_Rule__step (mVar 0))) (mCons (mV (.int 0)) mNil)))) mSkip) (mRet (mTup (mCons (mNeg (mBin oDiv (mBin oSub (mProp "Rule" den_Rule__step (mVar 0)) (mV (.int 1))) (mV (.int 2)))) (mCons (mBin oDiv (mProp "Rule" den_Rule__step (mVar 0)) (mV (.int 2))) mNil))))))
def den_reach : M RV := fnDen 1 1 b_reach
abbrev s_up : Stmt := top 16
def d_up : He5.DefA := ⟨fun K => He.ga K "up", "up", "up", defArgs s_up, defBody s_up, defScope s_up, [], []⟩
def b_up : S := (mRet (mNeg (mBin oDiv (mNeg (mVar 0)) (mVar 1))))
def den_up : M RV := fnDen 2 2 b_up
abbrev s_sum_of : Stmt := top 32
def d_sum_of : He5.DefA := ⟨fun K => He.ga K "sum_of", "sum_of", "sum_of", defArgs s_sum_of, defBody s_sum_of, defScope s_sum_of, [], []⟩
def b_sum_of : S := (mSeq (mSet 5 (mBin oMul (mCall [false, false] den_up (mCons (mVar 0) (mCons (mVar 2) mNil)) []) (mVar 2))) (mSeq (mIf (mTru (mBin oGt (mVar 5) (mVar 1))) (mRet (mV (.int 0))) mSkip) (mSeq (mSet 6 (mBin oAdd (mBin oDiv (mBin oSub (mVar 1) (mVar 5)) (mVar 2)) (mV (.int 1)))) (mRet (mBin oAdd (mBin oMul (mVar 3) (mVar 6)) (mBin oMul (mVar 4) (mBin oAdd (mBin oMul (mVar 6) (mVar 5)) (mBin oMul (mVar 2) (mBin oDiv (mBin oMul (mVar 6) (mBin oSub (mVar 6) (mV (.int 1)))) (mV (.int 2)))))))))))
def den_sum_of : M RV := fnDen 5 7 b_sum_of
abbrev s_how_many_k07 : Stmt := top 33
def d_how_many_k07 : He5.DefA := ⟨fun K => He.ga K "how_many", "how_many", "how_many", defArgs s_how_many_k07, defBody s_how_many_k07, defScope s_how_many_k07, [], []⟩
def b_how_many_k07 : S := (mSeq (mEx (mCall [false, false] den_check_both_k07 (mCons (mVar 0) (mCons (mVar 1) mNil)) [])) (mSeq (mEx (mCall [false, false, false] den_check_number (mCons (mVar 2) (mCons (mNeg (mV (.int 100000000000000000000))) (mCons (mV (.int 100000000000000000000)) mNil))) [])) (mSeq (mAsg (gT 3 (gsC (gT 2 (gsC (gN 9) (gsC (gN 10) gsN))) (gsC (gT 2 (gsC (gN 11) (gsC (gN 12) gsN))) (gsC (gN 4) gsN)))) (mTup (mCons (mCall [false] den_reach (mCons (mVar 0) mNil) []) (mCons (mCall [false] den_reach (mCons (mVar 1) mNil) []) (mCons (mCall [false, false] den_common (mCons (mProp "Rule" den_Rule__step (mVar 0)) (mCons (mProp "Rule" den_Rule__step (mVar 1)) mNil)) []) mNil))))) (mSeq (mPar false [5, 6] (mCons (mBin oAdd (mBin oSub (mVar 2) (mGet "Rule" "limit" (mVar 0))) (mGet "Rule" "limit" (mVar 1))) (mCons (mSort (mLst (mCons (mBin oSub (mVar 10) (mVar 12)) (mCons (mBin oSub (mVar 9) (mVar 11)) mNil)))) mNil))) (mSeq (mPar false [7, 8] (mCons (mBin oSub (mVar 9) (mVar 12)) (mCons (mBin oSub (mVar 10) (mVar 11)) mNil))) (mSeq (mSet 3 (mCall [false, false, false, false, false] den_sum_of (mCons (mCB fMax2 (mCons (mVar 5) (mCons (mVar 7) mNil))) (mCons (mBin oIx (mVar 6) (mV (.int 0))) (mCons (mVar 4) (mCons (mBin oSub (mV (.int 1)) (mVar 7)) (mCons (mV (.int 1)) mNil))))) [])) (mSeq (mAug 3 oAddI (mCall [false, false, false, false, false] den_sum_of (mCons (mCB fMax2 (mCons (mVar 5) (mCons (mBin oAdd (mBin oIx (mVar 6) (mV (.int 0))) (mV (.int 1))) mNil))) (mCons (mBin oIx (mVar 6) (mV (.int 1))) (mCons (mVar 4) (mCons (mCB fMin2 (mCons (mProp "Rule" den_Rule__step (mVar 0)) (mCons (mProp "Rule" den_Rule__step (mVar 1)) mNil))) (mCons (mV (.int 0)) mNil))))) [])) (mSeq (mAug 3 oAddI (mCall [false, false, false, false, false] den_sum_of (mCons (mCB fMax2 (mCons (mVar 5) (mCons (mBin oAdd (mBin oIx (mVar 6) (mV (.int 1))) (mV (.int 1))) mNil))) (mCons (mVar 8) (mCons (mVar 4) (mCons (mBin oAdd (mVar 8) (mV (.int 1))) (mCons (mNeg (mV (.int 1))) mNil))))) [])) (mRet (mTup (mCons (mVar 3) (mCons (mBin oMul (mBin oDiv (mProp "Rule" den_Rule__step (mVar 0)) (mVar 4)) (mProp "Rule" den_Rule__step (mVar 1))) mNil))))))))))))
def den_how_many_k07 : M RV := fnDen 3 13 b_how_many_k07
abbrev s_mark_at : Stmt := top 25
def d_mark_at : He5.DefA := ⟨fun K => He.ga K "mark_at", "mark_at", "mark_at", defArgs s_mark_at, defBody s_mark_at, defScope s_mark_at, [], []⟩
def b_mark_at : S := (mSeq (mSet 2 (mBin oIx (mCall [false] den_reach (mCons (mVar 0) mNil) []) (mV (.int 0)))) (mRet (mBin oAdd (mBin oAdd (mVar 1) (mVar 2)) (mBin oMod (mBin oSub (mNeg (mVar 1)) (mVar 2)) (mProp "Rule" den_Rule__step (mVar 0))))))
def den_mark_at : M RV := fnDen 2 3 b_mark_at
abbrev s_first_in : Stmt := top 17
def d_first_in : He5.DefA := ⟨fun K => He.ga K "first_in", "first_in", "first_in", defArgs s_first_in, defBody s_first_in, defScope s_first_in, [], []⟩
def b_first_in (rec : M RV) : S := (mSeq (mAug 0 oMod (mVar 1)) (mSeq (mIf (mTru (mBin oEq (mVar 2) (mV (.int 0)))) (mRet (mV (.int 0))) mSkip) (mSeq (mIf (mTru (mBin oEq (mVar 0) (mV (.int 0)))) (mRet (mV .non)) mSkip) (mSeq (mSet 4 (mCall [false, false] den_up (mCons (mVar 2) (mCons (mVar 0) mNil)) [])) (mSeq (mIf (mTru (mBin oLe (mBin oMul (mVar 0) (mVar 4)) (mVar 3))) (mRet (mVar 4)) mSkip) (mSeq (mSet 5 (mCall [false, false, false, false] rec (mCons (mBin oMod (mVar 1) (mVar 0)) (mCons (mVar 0) (mCons (mBin oMod (mNeg (mVar 3)) (mVar 0)) (mCons (mBin oMod (mNeg (mVar 2)) (mVar 0)) mNil)))) [])) (mRet (mIfE (mTru (mBin oIs (mVar 5) (mV .non))) (mV .non) (mCall [false, false] den_up (mCons (mBin oAdd (mVar 2) (mBin oMul (mVar 1) (mVar 5))) (mCons (mVar 0) mNil)) [])))))))))
def denN_first_in : Nat → M RV
  | 0 => M.bad
  | n + 1 => fnDen 4 6 (b_first_in (denN_first_in n))
def den_first_in : M RV := denN_first_in 100
abbrev s_first_rest : Stmt := top 18
def d_first_rest : He5.DefA := ⟨fun K => He.ga K "first_rest", "first_rest", "first_rest", defArgs s_first_rest, defBody s_first_rest, defScope s_first_rest, [], []⟩
def b_first_rest : S := (mSeq (mIf (mTru (mBin oLt (mVar 3) (mV (.int 0)))) (mRet (mV .non)) mSkip) (mSeq (mPar false [4, 5] (mCons (mBin oMod (mNeg (mVar 0)) (mVar 2)) (mCons (mBin oMod (mBin oSub (mVar 3) (mVar 0)) (mVar 2)) mNil))) (mSeq (mIf (mOr (mTru (mBin oGe (mVar 3) (mBin oSub (mVar 2) (mV (.int 1))))) (mTru (mBin oGt (mVar 4) (mVar 5)))) (mRet (mV (.int 0))) mSkip) (mRet (mCall [false, false, false, false] den_first_in (mCons (mVar 1) (mCons (mVar 2) (mCons (mVar 4) (mCons (mVar 5) mNil)))) [])))))
def den_first_rest : M RV := fnDen 4 6 b_first_rest
abbrev s_arrival_with_k07 : Stmt := top 34
def d_arrival_with_k07 : He5.DefA := ⟨fun K => He.ga K "arrival_with", "arrival_with", "arrival_with", defArgs s_arrival_with_k07, defBody s_arrival_with_k07, defScope s_arrival_with_k07, [], []⟩
def b_arrival_with_k07 : S := (mSeq (mEx (mCall [false, false] den_check_both_k07 (mCons (mVar 0) (mCons (mVar 1) mNil)) [])) (mSeq (mEx (mCall [false, false, false] den_check_number (mCons (mVar 2) (mCons (mNeg (mV (.int 100000000000000000000))) (mCons (mV (.int 100000000000000000000)) mNil))) [])) (mSeq (mPar false [5, 6, 7] (mCons (mBin oAdd (mBin oSub (mVar 2) (mGet "Rule" "limit" (mVar 0))) (mGet "Rule" "limit" (mVar 1))) (mCons (mBin oIx (mCall [false] den_reach (mCons (mVar 0) mNil) []) (mV (.int 1))) (mCons (mBin oIx (mCall [false] den_reach (mCons (mVar 1) mNil) []) (mV (.int 0))) mNil)))) (mSeq (mIf (mTru (mBin oGe (mBin oSub (mCall [false, false] den_mark_at (mCons (mVar 0) (mCons (mV (.int 0)) mNil)) []) (mCall [false, false] den_mark_at (mCons (mVar 1) (mCons (mV (.int 0)) mNil)) [])) (mVar 5))) (mRet (mV (.int 0))) mSkip) (mSeq (mSet 3 (mBin oSub (mBin oMul (mBin oAdd (mBin oDiv (mVar 6) (mProp "Rule" den_Rule__step (mVar 0))) (mV (.int 1))) (mProp "Rule" den_Rule__step (mVar 0))) (mVar 6))) (mSeq (mSet 4 (mCall [false, false, false, false] den_first_rest (mCons (mBin oSub (mNeg (mVar 3)) (mVar 7)) (mCons (mNeg (mProp "Rule" den_Rule__step (mVar 0))) (mCons (mProp "Rule" den_Rule__step (mVar 1)) (mCons (mBin oSub (mBin oSub (mVar 6) (mVar 5)) (mVar 7)) mNil)))) [])) (mRet (mIfE (mTru (mBin oIs (mVar 4) (mV .non))) (mV .non) (mBin oAdd (mVar 3) (mBin oMul (mVar 4) (mProp "Rule" den_Rule__step (mVar 0))))))))))))
def den_arrival_with_k07 : M RV := fnDen 3 8 b_arrival_with_k07
abbrev s_bounds_of : Stmt := top 29
def d_bounds_of : He5.DefA := ⟨fun K => He.ga K "bounds_of", "bounds_of", "bounds_of", defArgs s_bounds_of, defBody s_bounds_of, defScope s_bounds_of, [], []⟩
def b_bounds_of : S := (mSeq (mAsg (gT 3 (gsC (gT 2 (gsC (gN 3) (gsC (gN 4) gsN))) (gsC (gT 2 (gsC (gN 5) (gsC (gN 6) gsN))) (gsC (gN 2) gsN)))) (mTup (mCons (mCall [false] den_reach (mCons (mVar 0) mNil) []) (mCons (mCall [false] den_reach (mCons (mVar 1) mNil) []) (mCons (mCall [false, false] den_common (mCons (mProp "Rule" den_Rule__step (mVar 0)) (mCons (mProp "Rule" den_Rule__step (mVar 1)) mNil)) []) mNil))))) (mRet (mTup (mCons (mBin oMul (mCall [false, false] den_up (mCons (mBin oSub (mVar 3) (mVar 6)) (mCons (mVar 2) mNil)) []) (mVar 2)) (mCons (mBin oMul (mBin oDiv (mBin oSub (mVar 4) (mVar 5)) (mVar 2)) (mVar 2)) mNil)))))
def den_bounds_of : M RV := fnDen 2 7 b_bounds_of
abbrev s_versus_k07 : Stmt := top 30
def d_versus_k07 : He5.DefA := ⟨fun K => He.ga K "versus", "versus", "versus", defArgs s_versus_k07, defBody s_versus_k07, defScope s_versus_k07, [], []⟩
def b_versus_k07 : S := (mSeq (mEx (mCall [false, false] den_check_both_k07 (mCons (mVar 0) (mCons (mVar 1) mNil)) [])) (mSeq (mAsg (gT 2 (gsC (gN 2) (gsC (gN 3) gsN))) (mCall [false, false] den_bounds_of (mCons (mVar 0) (mCons (mVar 1) mNil)) [])) (mRet (mTup (mCons (mBin oSub (mBin oAdd (mVar 2) (mGet "Rule" "limit" (mVar 0))) (mGet "Rule" "limit" (mVar 1))) (mCons (mBin oSub (mBin oAdd (mVar 3) (mGet "Rule" "limit" (mVar 0))) (mGet "Rule" "limit" (mVar 1))) mNil))))))
def den_versus_k07 : M RV := fnDen 2 4 b_versus_k07
abbrev s_never_less_k07 : Stmt := top 31
def d_never_less_k07 : He5.DefA := ⟨fun K => He.ga K "never_less", "never_less", "never_less", defArgs s_never_less_k07, defBody s_never_less_k07, defScope s_never_less_k07, [], []⟩
def b_never_less_k07 : S := (mRet (mBin oGe (mBin oIx (mCall [false, false] den_versus_k07 (mCons (mVar 0) (mCons (mVar 1) mNil)) []) (mV (.int 0))) (mV (.int 0))))
def den_never_less_k07 : M RV := fnDen 2 2 b_never_less_k07
abbrev s__law_sip : Stmt := top 37
def d__law_sip : He5.DefA := ⟨fun K => He.ga K "_law_sip", "_law_sip", "_law_sip", defArgs s__law_sip, defBody s__law_sip, defScope s__law_sip, [], []⟩
def b__law_sip : S := (mSeq (mAsg (gSb (mVar 0) (mV (.int 2))) (mBin oAdd (mBin oIx (mVar 0) (mV (.int 2))) (mV (.int 1)))) (mSeq (mIf (mTru (mBin oGt (mBin oIx (mVar 0) (mV (.int 0))) (mV (.int 0)))) (mSeq (mSet 2 (mBin oMod (mCB fInt (mCons (mBin oIx (mVar 0) (mV (.int 0))) mNil)) (mVar 1))) (mSeq (mAsg (gSb (mVar 0) (mV (.int 0))) (mBin oDiv (mCB fInt (mCons (mBin oIx (mVar 0) (mV (.int 0))) mNil)) (mVar 1))) (mRet (mVar 2)))) mSkip) (mSeq (mAsg (gSb (mVar 0) (mV (.int 1))) (mBin oMod (mCB fInt (mCons (mBin oAdd (mBin oAdd (mBin oMul (mBin oIx (mVar 0) (mV (.int 1))) (mV (.int 40692))) (mBin oMul (mV (.int 1009)) (mBin oIx (mVar 0) (mV (.int 2))))) (mV (.int 37))) mNil)) (mV (.int 2147483399)))) (mRet (mBin oMod (mCB fInt (mCons (mBin oDiv (mBin oIx (mVar 0) (mV (.int 1))) (mV (.int 64))) mNil)) (mVar 1))))))
def den__law_sip : M RV := fnDen 2 3 b__law_sip
abbrev s__law_pick : Stmt := top 38
def d__law_pick : He5.DefA := ⟨fun K => He.ga K "_law_pick", "_law_pick", "_law_pick", defArgs s__law_pick, defBody s__law_pick, defScope s__law_pick, [], []⟩
def b__law_pick : S := (mRet (mBin oIx (mVar 1) (mCall [true, false] den__law_sip (mCons (mVar 0) (mCons (mCB fLen (mCons (mVar 1) mNil)) mNil)) [])))
def den__law_pick : M RV := fnDen 2 2 b__law_pick
abbrev s__law_far : Stmt := top 39
def d__law_far : He5.DefA := ⟨fun K => He.ga K "_law_far", "_law_far", "_law_far", defArgs s__law_far, defBody s__law_far, defScope s__law_far, [], []⟩
def b__law_far : S := (mSeq (mIf (mTru (mBin oLe (mVar 1) (mBin oPow (mV (.int 10)) (mV (.int 6))))) (mRet (mBin oAdd (mV (.int 1)) (mCall [true, false] den__law_sip (mCons (mVar 0) (mCons (mVar 1) mNil)) []))) mSkip) (mSeq (mSet 2 (mCall [true, false] den__law_pick (mCons (mVar 0) (mCons (mLst (mCons (mV (.int 1)) (mCons (mV (.int 7)) (mCons (mBin oPow (mV (.int 10)) (mV (.int 3))) (mCons (mBin oPow (mV (.int 10)) (mV (.int 6))) (mCons (mBin oPow (mV (.int 10)) (mV (.int 9))) (mCons (mBin oPow (mV (.int 10)) (mV (.int 14))) (mCons (mBin oPow (mV (.int 10)) (mV (.int 21))) (mCons (mBin oPow (mV (.int 10)) (mV (.int 24))) mNil))))))))) mNil)) [])) (mRet (mBin oAdd (mV (.int 1)) (mBin oMod (mCB fInt (mCons (mBin oAdd (mBin oMul (mCall [true, false] den__law_sip (mCons (mVar 0) (mCons (mBin oPow (mV (.int 10)) (mV (.int 6))) mNil)) []) (mVar 2)) (mCall [true, false] den__law_sip (mCons (mVar 0) (mCons (mV (.int 997)) mNil)) [])) mNil)) (mVar 1))))))
def den__law_far : M RV := fnDen 2 3 b__law_far
abbrev s__law_plan : Stmt := top 40
def d__law_plan : He5.DefA := ⟨fun K => He.ga K "_law_plan", "_law_plan", "_law_plan", defArgs s__law_plan, defBody s__law_plan, defScope s__law_plan, [], []⟩
def b__law_plan : S := (mSeq (mSet 2 (mCall [true, false] den__law_pick (mCons (mVar 0) (mCons (mLst (mCons (mV (.int 1)) (mCons (mV (.int 2)) (mCons (mV (.int 3)) (mCons (mV (.int 5)) (mCons (mCall [true, false] den__law_far (mCons (mVar 0) (mCons (mVar 1) mNil)) []) mNil)))))) mNil)) [])) (mSeq (mSet 3 (mBin oAdd (mVar 2) (mCall [true, false] den__law_pick (mCons (mVar 0) (mCons (mLst (mCons (mV (.int 0)) (mCons (mV (.int 1)) (mCons (mV (.int 2)) (mCons (mV (.int 7)) (mCons (mCall [true, false] den__law_sip (mCons (mVar 0) (mCons (mBin oAdd (mBin oMul (mV (.int 3)) (mCB fMin2 (mCons (mVar 2) (mCons (mBin oPow (mV (.int 10)) (mV (.int 6))) mNil)))) (mV (.int 1))) mNil)) []) mNil)))))) mNil)) []))) (mRet (mLst (mCons (mVar 2) (mCons (mCall [true, false] den__law_pick (mCons (mVar 0) (mCons (mLst (mCons (mV (.str "next")) (mCons (mV (.str "last")) (mCons (mV (.str "near")) mNil)))) mNil)) []) (mCons (mVar 3) (mCons (mCall [true, false] den__law_pick (mCons (mVar 0) (mCons (mLst (mCons (mV (.int 1)) (mCons (mV (.int 1)) (mCons (mV (.int 2)) (mCons (mV (.int 3)) (mCons (mV (.int 8)) mNil)))))) mNil)) []) mNil))))))))
def den__law_plan : M RV := fnDen 2 4 b__law_plan
abbrev s__law_round : Stmt := top 43
def d__law_round : He5.DefA := ⟨fun K => He.ga K "_law_round", "_law_round", "_law_round", defArgs s__law_round, defBody s__law_round, defScope s__law_round, [], []⟩
def b__law_round : S := (mSeq (mSet 2 (mCB fMax2 (mCons (mBin oIx (mVar 0) (mV (.int 0))) (mCons (mBin oIx (mVar 1) (mV (.int 0))) mNil)))) (mSeq (whileS (mOr (mTru (mBin oNe (mBin oMod (mCB fInt (mCons (mVar 2) mNil)) (mBin oIx (mVar 0) (mV (.int 0)))) (mV (.int 0)))) (mTru (mBin oNe (mBin oMod (mCB fInt (mCons (mVar 2) mNil)) (mBin oIx (mVar 1) (mV (.int 0)))) (mV (.int 0))))) (mSet 2 (mBin oAdd (mVar 2) (mV (.int 1)))) mostTurns) (mRet (mVar 2))))
def den__law_round : M RV := fnDen 2 3 b__law_round
abbrev s__law_made : Stmt := top 41
def d__law_made : He5.DefA := ⟨fun K => He.ga K "_law_made", "_law_made", "_law_made", defArgs s__law_made, defBody s__law_made, defScope s__law_made, [], []⟩
def b__law_made : S := (mRet (mMake "Rule" [false, false, false, false] den_Rule____init__ (mCons (mBin oIx (mVar 0) (mV (.int 0))) (mCons (mBin oIx (mVar 0) (mV (.int 1))) (mCons (mBin oIx (mVar 0) (mV (.int 2))) (mCons (mBin oIx (mVar 0) (mV (.int 3))) mNil)))) []))
def den__law_made : M RV := fnDen 1 1 b__law_made
abbrev s__law_mark : Stmt := top 42
def d__law_mark : He5.DefA := ⟨fun K => He.ga K "_law_mark", "_law_mark", "_law_mark", defArgs s__law_mark, defBody s__law_mark, defScope s__law_mark, [], []⟩
def b__law_mark : S := (mSeq (mSet 2 (mBin oSub (mVar 1) (mBin oMod (mCB fInt (mCons (mVar 1) mNil)) (mBin oIx (mVar 0) (mV (.int 0)))))) (mSeq (mIf (mOr (mTru (mBin oEq (mVar 2) (mVar 1))) (mTru (mBin oEq (mBin oIx (mVar 0) (mV (.int 1))) (mV (.str "last"))))) (mRet (mVar 2)) mSkip) (mSeq (mIf (mOr (mTru (mBin oEq (mBin oIx (mVar 0) (mV (.int 1))) (mV (.str "next")))) (mTru (mBin oGe (mBin oMul (mV (.int 2)) (mBin oSub (mVar 1) (mVar 2))) (mBin oIx (mVar 0) (mV (.int 0)))))) (mRet (mBin oAdd (mVar 2) (mBin oIx (mVar 0) (mV (.int 0))))) mSkip) (mRet (mVar 2)))))
def den__law_mark : M RV := fnDen 2 3 b__law_mark
abbrev s__law_right_k07 : Stmt := top 44
def d__law_right_k07 : He5.DefA := ⟨fun K => He.ga K "_law_right", "_law_right", "_law_right", defArgs s__law_right_k07, defBody s__law_right_k07, defScope s__law_right_k07, [], []⟩
def b__law_right_k07 : S := (mSeq (mFor (mRng1 (mV (.int 3))) (gN 1) (mSeq (mAsg (gT 2 (gsC (gN 4) (gsC (gN 5) gsN))) (mTup (mCons (mCall [true, false] den__law_plan (mCons (mVar 0) (mCons (mV (.int 24)) mNil)) []) (mCons (mCall [true, false] den__law_plan (mCons (mVar 0) (mCons (mV (.int 24)) mNil)) []) mNil)))) (mSeq (mPar false [6, 7, 8] (mCons (mCall [false] den__law_made (mCons (mVar 4) mNil) []) (mCons (mCall [false] den__law_made (mCons (mVar 5) mNil) []) (mCons (mCall [false, false] den__law_round (mCons (mVar 4) (mCons (mVar 5) mNil)) []) mNil)))) (mSeq (mSet 2 (mComp [11] (mRng1 (mVar 8)) (gN 11) mYes (mBin oSub (mBin oSub (mBin oAdd (mCall [false, false] den__law_mark (mCons (mVar 4) (mCons (mVar 11) mNil)) []) (mBin oIx (mVar 4) (mV (.int 2)))) (mCall [false, false] den__law_mark (mCons (mVar 5) (mCons (mVar 11) mNil)) [])) (mBin oIx (mVar 5) (mV (.int 2)))))) (mSeq (mIf (mTru (mBin oNe (mCB fRepr (mCons (mLst (mCons (mCall [false, false] den_versus_k07 (mCons (mVar 6) (mCons (mVar 7) mNil)) []) (mCons (mCallK [false, false] den_versus_k07 mNil (mCons (mVar 7) (mCons (mVar 6) mNil)) 0 2 [1, 0]) mNil))) mNil)) (mCB fRepr (mCons (mRep (mLst (mCons (mTup (mCons (mCB fMinL (mCons (mVar 2) mNil)) (mCons (mCB fMaxL (mCons (mVar 2) mNil)) mNil))) mNil)) (mV (.int 2))) mNil)))) (mRet (mV (.bl false))) mSkip) (mSeq (mIf (mOr (mTru (mBin oNe (mCall [false, false] den_versus_k07 (mCons (mVar 7) (mCons (mVar 6) mNil)) []) (mTup (mCons (mNeg (mCB fMaxL (mCons (mVar 2) mNil))) (mCons (mNeg (mCB fMinL (mCons (mVar 2) mNil))) mNil))))) (mOr (mTru (mBin oNe (mCall [false, false] den_never_less_k07 (mCons (mVar 6) (mCons (mVar 7) mNil)) []) (mBin oGe (mCB fMinL (mCons (mVar 2) mNil)) (mV (.int 0))))) (mTru (mBin oNe (mCallK [false, false] den_never_less_k07 mNil (mCons (mVar 6) (mCons (mVar 7) mNil)) 0 2 [1, 0]) (mBin oLe (mCB fMaxL (mCons (mVar 2) mNil)) (mV (.int 0))))))) (mRet (mV (.bl false))) mSkip) (mFor (mItems (mLst (mCons (mCB fMinL (mCons (mVar 2) mNil)) (mCons (mCB fMaxL (mCons (mVar 2) mNil)) (mCons (mBin oAdd (mCB fMaxL (mCons (mVar 2) mNil)) (mV (.int 1))) (mCons (mV (.int 0)) (mCons (mCall [true, false] den__law_pick (mCons (mVar 0) (mCons (mVar 2) mNil)) []) (mCons (mBin oAdd (mCall [true, false] den__law_pick (mCons (mVar 0) (mCons (mVar 2) mNil)) []) (mV (.int 1))) (mCons (mBin oSub (mCB fMinL (mCons (mVar 2) mNil)) (mV (.int 5))) mNil))))))))) (gN 3) (mSeq (mSet 9 (mComp [11] (mRng1 (mVar 8)) (gN 11) (mTru (mBin oGe (mBin oIx (mVar 2) (mVar 11)) (mVar 3))) (mVar 11))) (mSeq (mIf (mTru (mBin oNe (mCB fRepr (mCons (mLst (mCons (mCall [false, false, false] den_how_many_k07 (mCons (mVar 6) (mCons (mVar 7) (mCons (mVar 3) mNil))) []) (mCons (mCallK [false, false, false] den_how_many_k07 mNil (mCons (mVar 3) (mCons (mVar 7) (mCons (mVar 6) mNil))) 0 3 [2, 1, 0]) mNil))) mNil)) (mCB fRepr (mCons (mRep (mLst (mCons (mTup (mCons (mCB fLen (mCons (mVar 9) mNil)) (mCons (mVar 8) mNil))) mNil)) (mV (.int 2))) mNil)))) (mRet (mV (.bl false))) mSkip) (mSeq (mSet 10 (mIfE (mTru (mBin oNe (mVar 9) (mLst mNil))) (mBin oIx (mVar 9) (mV (.int 0))) (mV .non))) (mIf (mTru (mBin oNe (mCB fRepr (mCons (mLst (mCons (mCall [false, false, false] den_arrival_with_k07 (mCons (mVar 6) (mCons (mVar 7) (mCons (mVar 3) mNil))) []) (mCons (mCallK [false, false, false] den_arrival_with_k07 mNil (mCons (mVar 3) (mCons (mVar 7) (mCons (mVar 6) mNil))) 0 3 [2, 1, 0]) mNil))) mNil)) (mCB fRepr (mCons (mLst (mCons (mVar 10) (mCons (mVar 10) mNil))) mNil)))) (mRet (mV (.bl false))) mSkip))))))))))) (mRet (mV (.bl true))))
def den__law_right_k07 : M RV := fnDen 1 12 b__law_right_k07
abbrev s__law_flask : Stmt := top 36
def d__law_flask : He5.DefA := ⟨fun K => He.ga K "_law_flask", "_law_flask", "_law_flask", defArgs s__law_flask, defBody s__law_flask, defScope s__law_flask, [], []⟩
def b__law_flask : S := (mSeq (mSet 2 (mIfE (mTru (mBin oLt (mVar 1) (mCB fLen (mCons (mVar 0) mNil)))) (mCB fInt (mCons (mBin oIx (mVar 0) (mVar 1)) mNil)) (mBin oAdd (mBin oMul (mV (.int 67)) (mVar 1)) (mV (.int 19))))) (mSeq (mSet 3 (mBin oAdd (mV (.int 40009)) (mBin oMul (mV (.int 907)) (mVar 1)))) (mSeq (mFor (mItems (mSl (mVar 0) mNoP (mPt (mV (.int 8))))) (gN 4) (mSet 3 (mBin oMod (mCB fInt (mCons (mBin oAdd (mBin oAdd (mBin oMul (mVar 3) (mV (.int 40692))) (mBin oMod (mCB fInt (mCons (mVar 4) mNil)) (mV (.int 999953)))) (mVar 1)) mNil)) (mV (.int 2147483399))))) (mSeq (mSet 3 (mBin oMod (mCB fInt (mCons (mBin oAdd (mBin oMul (mVar 3) (mV (.int 40692))) (mBin oMod (mCB fInt (mCons (mVar 2) mNil)) (mV (.int 999953)))) mNil)) (mV (.int 2147483399)))) (mRet (mLst (mCons (mIfE (mTru (mBin oGe (mCB fAbs (mCons (mVar 2) mNil)) (mBin oPow (mV (.int 10)) (mV (.int 18))))) (mCB fAbs (mCons (mVar 2) mNil)) (mV (.int 0))) (mCons (mVar 3) (mCons (mV (.int 0)) mNil)))))))))
def den__law_flask : M RV := fnDen 2 5 b__law_flask
abbrev s_law_k07 : Stmt := top 45
def d_law_k07 : He5.DefA := ⟨fun K => He.ga K "law", "law", "law", defArgs s_law_k07, defBody s_law_k07, defScope s_law_k07, [], []⟩
def b_law_k07 : S := (mSeq (mPar false [1, 2, 3] (mCons (mMake "Rule" [false, false, false, false] den_Rule____init__ (mCons (mV (.int 30)) (mCons (mV (.str "next")) (mCons (mV (.int 120)) (mCons (mV (.int 15)) mNil)))) []) (mCons (mMake "Rule" [false, false, false, false] den_Rule____init__ (mCons (mV (.int 60)) (mCons (mV (.str "last")) (mCons (mV (.int 150)) (mCons (mV (.int 15)) mNil)))) []) (mCons (mMake "Rule" [false, false, false, false] den_Rule____init__ (mCons (mV (.int 30)) (mCons (mV (.str "near")) (mCons (mV (.int 120)) (mCons (mV (.int 15)) mNil)))) []) mNil)))) (mSeq (mIf (mTru (mBin oNe (mLst (mCons (mCall [false, false] den_versus_k07 (mCons (mVar 1) (mCons (mVar 2) mNil)) []) (mCons (mCall [false, false] den_never_less_k07 (mCons (mVar 1) (mCons (mVar 3) mNil)) []) (mCons (mCall [false, false, false] den_how_many_k07 (mCons (mVar 1) (mCons (mVar 2) (mCons (mV (.int 30)) mNil))) []) (mCons (mCall [false, false, false] den_arrival_with_k07 (mCons (mVar 1) (mCons (mVar 2) (mCons (mV (.int 30)) mNil))) []) (mCons (mCall [false, false, false] den_how_many_k07 (mCons (mVar 1) (mCons (mVar 3) (mCons (mV (.int 1)) mNil))) []) mNil)))))) (mLst (mCons (mTup (mCons (mNeg (mV (.int 30))) (mCons (mV (.int 30)) mNil))) (mCons (mV (.bl true)) (mCons (mTup (mCons (mV (.int 29)) (mCons (mV (.int 60)) mNil))) (mCons (mV (.int 31)) (mCons (mTup (mCons (mV (.int 14)) (mCons (mV (.int 30)) mNil))) mNil)))))))) (mRet (mV (.bl false))) mSkip) (mRet (mCB fAll (mCons (mComp [4] (mRng1 (mCB fMax2 (mCons (mV (.int 2)) (mCons (mCB fMin2 (mCons (mCB fLen (mCons (mVar 0) mNil)) (mCons (mV (.int 4)) mNil))) mNil)))) (gN 4) mYes (mCall [true] den__law_right_k07 (mCons (mCall [false, false] den__law_flask (mCons (mVar 0) (mCons (mVar 4) mNil)) []) mNil) [])) mNil)))))
def den_law_k07 : M RV := fnDen 1 5 b_law_k07
def fa : List He.Fa := [.free "int", .free "isinstance", .free "bool", .glo "is_integer", .glo "is_between", .glo "check_number", .int "MOST_STEP" 1000000000000, .free "str", .glo "SETTINGS", .int "MOST_LIMIT" 1000000000000000000, .cls "Rule", .noat "Rule" "limit", .noat "Rule" "parts", .mkr "Rule", .glo "Rule", .glo "check_rule", .glo "check_both", .int "MOST_LEAST" 100000000000000000000, .glo "common", .glo "reach", .free "sorted", .glo "up", .glo "sum_of", .free "max", .free "min", .glo "how_many", .glo "mark_at", .glo "first_in", .glo "first_rest", .glo "arrival_with", .glo "bounds_of", .glo "versus", .glo "never_less", .free "len", .free "range", .glo "_law_sip", .glo "_law_pick", .glo "_law_far", .glo "_law_plan", .glo "_law_round", .glo "_law_made", .glo "_law_mark", .free "repr", .glo "_law_right", .free "abs", .glo "_law_flask", .free "all", .glo "law"]
def fy : List Fy := [.tup "SETTINGS" (([(.str "next"), (.str "last"), (.str "near")] : List Val).map gv), .prop "Rule" "step", .prop "Rule" "setting", .isi "Rule", .kit (.inl "NoneType") (.inl "int") false, .kit (.inl "bool") (.inl "int") true, .kit (.inl "int") (.inl "int") true, .kit (.inl "str") (.inl "int") false, .kit (.inl "list") (.inl "int") false, .kit (.inl "tuple") (.inl "int") false, .kit (.inl "dict") (.inl "int") false, .kit (.inr "Rule") (.inl "int") false, .kit (.inl "NoneType") (.inr "Rule") false, .kit (.inl "bool") (.inr "Rule") false, .kit (.inl "int") (.inr "Rule") false, .kit (.inl "str") (.inr "Rule") false, .kit (.inl "list") (.inr "Rule") false, .kit (.inl "tuple") (.inr "Rule") false, .kit (.inl "dict") (.inr "Rule") false, .kit (.inr "Rule") (.inr "Rule") true, .kit (.inl "NoneType") (.inl "bool") false, .kit (.inl "bool") (.inl "bool") true, .kit (.inl "int") (.inl "bool") false, .kit (.inl "str") (.inl "bool") false, .kit (.inl "list") (.inl "bool") false, .kit (.inl "tuple") (.inl "bool") false, .kit (.inl "dict") (.inl "bool") false, .kit (.inr "Rule") (.inl "bool") false, .kit (.inl "NoneType") (.inl "str") false, .kit (.inl "bool") (.inl "str") false, .kit (.inl "int") (.inl "str") false, .kit (.inl "str") (.inl "str") true, .kit (.inl "list") (.inl "str") false, .kit (.inl "tuple") (.inl "str") false, .kit (.inl "dict") (.inl "str") false, .kit (.inr "Rule") (.inl "str") false]
def fn : List He5.DefA := [d_is_integer, d_is_between, d_check_number, d_Rule____init__, d_check_rule, d_check_both_k07, d_common, d_Rule__step, d_Rule__setting, d_reach, d_up, d_sum_of, d_how_many_k07, d_mark_at, d_first_in, d_first_rest, d_arrival_with_k07, d_bounds_of, d_versus_k07, d_never_less_k07, d__law_sip, d__law_pick, d__law_far, d__law_plan, d__law_round, d__law_made, d__law_mark, d__law_right_k07, d__law_flask, d_law_k07]
end Pu.Q
set_option Elab.async false
set_option linter.all false
set_option maxRecDepth 100000
set_option maxHeartbeats 0
namespace Pu.Q
open PySem PySem.Spec PyProof.Rows L2 Pu
abbrev R : PySem.W.OpenRow := PySem.W.OpenLaw.row PySem.Challenge.rw_discwarden_k07_whole_rules_compared
abbrev hk : PySem.W.Hook := hookP 5 fa fn fy
def ob (s : PySem.W.SharedT) : AlP := obsP 5 fa fn fy (HandSHeadRun.getT s)
theorem ob_eq (s : PySem.W.SharedT) : ob s = hk.obs s.abs := obsP_eq (HandSHeadRun.getT_eq s)
def loose : List Str := [("NotRight" : Str), ("InvalidText" : Str), ("InvalidNumber" : Str), ("InvalidSetting" : Str), ("NotARule" : Str), ("MOST_STEP" : Str), ("MOST_LIMIT" : Str), ("FIGURES" : Str), ("MOST_FIGURES" : Str), ("is_integer" : Str), ("is_between" : Str), ("check_number" : Str), ("number_in" : Str), ("common" : Str), ("up" : Str), ("first_in" : Str), ("first_rest" : Str), ("SETTINGS" : Str), ("WORDS" : Str), ("Rule" : Str), ("check_rule" : Str), ("reach" : Str), ("mark_at" : Str), ("MOST_LEAST" : Str), ("check_both" : Str), ("bounds_of" : Str), ("versus" : Str), ("never_less" : Str), ("sum_of" : Str), ("how_many" : Str), ("arrival_with" : Str), ("_law_flask" : Str), ("_law_sip" : Str), ("_law_pick" : Str), ("_law_far" : Str), ("_law_plan" : Str), ("_law_made" : Str), ("_law_mark" : Str), ("_law_round" : Str), ("_law_right" : Str)]
theorem run (w : World) : HandSHeadRun.RunEq R (PySem.W.view R.prog [45]) hk ob 20000 loose w := by
  intro os
  kernel_rfl
end Pu.Q
set_option maxHeartbeats 4000000
set_option Elab.async false
set_option linter.all false
set_option maxRecDepth 100000
namespace Pu
open PySem PySem.Spec PyProof.Rows L2
section
variable {K : PySem.W.Frag} {F F' H H' : Hp}
theorem VRs.get' {vs : List Val} {us : List V} : VRs K F vs us → ∀ {i : Nat} {u : V}, us[i]? = some u → ∃ v, vs[i]? = some v ∧ VR K F v u
  | .nil, i, v, h => by simp at h
  | .cons r t, 0, v, h => by simp at h; subst h; exact ⟨_, rfl, r⟩
  | .cons r t, i + 1, v, h => by
    obtain ⟨u, h1, h2⟩ := t.get' (i := i) (u := v) (by simpa using h)
    exact ⟨u, by simpa using h1, h2⟩
theorem VRs.append {vs ws : List Val} {us xs : List V} : VRs K F vs us → VRs K F ws xs → VRs K F (vs ++ ws) (us ++ xs)
  | .nil, h => h
  | .cons r t, h => .cons r (VRs.append t h)
end
theorem plainO_tbl {o : HO} (h : plainO o = true) (ps : Array Value) : o ≠ .tbl ps := fun z => by subst z; cases h
theorem Tabs.put {T : List (Addr × Str)} {H : Hp} {a : Addr} {o o' : HO} (t : LamX.Tabs T H) (h : H a = some o) (p : plainO o = true) : LamX.Tabs T (upd H a o') := fun q hq => by
  obtain ⟨ps, h1, h2, h3⟩ := t q hq
  have ne : ∀ {b : Addr} {u : HO}, H b = some u → plainO u = false → b ≠ a := fun {b u} e g z => by
    subst z
    rw [h] at e
    cases e
    rw [p] at g; cases g
  refine ⟨ps, by rw [upd_ne (ne h1 rfl)]; exact h1, h2, fun pos cv hc => ?_⟩
  obtain ⟨c, e1, e2⟩ := h3 pos cv hc
  exact ⟨c, e1, by rw [upd_ne (ne e2 rfl)]; exact e2⟩
theorem Tabs.new {T : List (Addr × Str)} {H : Hp} {a : Addr} {o : HO} (t : LamX.Tabs T H) (h : H a = none) : LamX.Tabs T (upd H a o) := t.ext fun b u e => by rw [upd_ne (ne_of_none e h)]; exact e
abbrev tE (K : PySem.W.Frag) (W : WX) (m : M RV) : TE := tM K W (RR K) m
abbrev tT (K : PySem.W.Frag) (W : WX) (m : M Bool) : TT := tM K W (fun _ _ _ _ _ (b c : Bool) => b = c) m
abbrev tA (K : PySem.W.Frag) (W : WX) (m : M (List RV)) : TA := tM K W (RRs K) m
class Carry {α β : Type} (K : PySem.W.Frag) (R : Bg → Hp → Hp → Ev → Sig → α → β → Prop) : Prop where
  out : ∀ {B : Bg} {F0 H0 F H : Hp} {e0 e : Ev} {σ : Sig} {a : α} {b : β}, Cur K B F0 H0 e0 σ → R (bg B.np F0 H0 e0 σ) F H e σ a b → R B F H e σ a b
instance {K : PySem.W.Frag} : Carry K (RR K) := ⟨RR.out⟩
instance {K : PySem.W.Frag} : Carry K (RRs K) := ⟨fun C h => by
  induction h with
  | nil => exact .nil
  | cons r d _ ih => exact .cons (r.out C) d ih⟩
instance {K : PySem.W.Frag} : Carry K (fun _ _ _ _ _ (b c : Bool) => b = c) := ⟨fun _ h => h⟩
section
variable {K : PySem.W.Frag} {W : WX} {α β α' β' : Type} {R1 : Bg → Hp → Hp → Ev → Sig → α → β → Prop} {R2 : Bg → Hp → Hp → Ev → Sig → α' → β' → Prop} {B : Bg} {F H : Hp} {e : Ev} {σ : Sig}
theorem use [Carry K R1] {m : M α} {f : α → M α'} {Q : β' → Hp → Prop} {G : β → Hp → Prop} (C : Cur K B F H e σ) (h : At K W R2 B (m.bind f) F e σ H Q)
    (k : ∀ r e1 F1 H1 x, Cur K B F1 H1 e1 σ → R1 B F1 H1 e1 σ r x → Cur K (bg B.np F H e σ) F1 H1 e1 σ → At K W R2 B (f r) F1 e1 σ H1 Q → G x H1) : tM K W R1 m σ H G := by
  refine ⟨B.np, F, e, C.rel, ?_⟩
  unfold At M.bind at h
  unfold At
  cases hm : m e with
  | bad => rw [hm] at h; exact h
  | rs x e' =>
    rw [hm] at h
    intro F' H' cls d C' X'
    exact h F' H' cls d (C.trans C') X'
  | ok r e' =>
    rw [hm] at h
    intro F' H' u C' r'
    exact k r e' F' H' u (C.trans C') (Carry.out C r') C' h
theorem useS {m : M α} {f : α → M α'} {Q : β' → Hp → Prop} {G : β → Hp → Prop} (C : Cur K B F H e σ) (h : At K W R2 B (m.bind f) F e σ H Q)
    (k : ∀ r e1 F1 H1 x, Cur K B F1 H1 e1 σ → R1 (bg B.np F H e σ) F1 H1 e1 σ r x → Cur K (bg B.np F H e σ) F1 H1 e1 σ → At K W R2 B (f r) F1 e1 σ H1 Q → G x H1) : tM K W R1 m σ H G := by
  refine ⟨B.np, F, e, C.rel, ?_⟩
  unfold At M.bind at h
  unfold At
  cases hm : m e with
  | bad => rw [hm] at h; exact h
  | rs x e' =>
    rw [hm] at h
    intro F' H' cls d C' X'
    exact h F' H' cls d (C.trans C') X'
  | ok r e' =>
    rw [hm] at h
    intro F' H' u C' r'
    exact k r e' F' H' u (C.trans C') r' C' h
theorem use1 [Carry K R1] {m : M α} {Q : β → Hp → Prop} (C : Cur K B F H e σ) (h : At K W R1 B m F e σ H Q) : tM K W R1 m σ H Q := by
  refine ⟨B.np, F, e, C.rel, ?_⟩
  unfold At at h ⊢
  cases hm : m e with
  | bad => rw [hm] at h; exact h
  | rs x e' =>
    rw [hm] at h
    exact fun F' H' cls d C' X' => h F' H' cls d (C.trans C') X'
  | ok r e' =>
    rw [hm] at h
    exact fun F' H' u C' r' => h F' H' u (C.trans C') (Carry.out C r')
end
end Pu
set_option Elab.async false
set_option linter.all false
set_option maxRecDepth 100000
namespace Pu
open PySem PySem.Spec PyProof.Rows L2
theorem guards_deeper {A : Around} {env : Env} (h : A.guards = some []) : (A.deeper env).guards = some [] := by
  first
    | exact h
    | simpa [Around.deeper] using h
theorem guards_make {A : Around} {C : Addr} {us : List Value} {kw : List (Str × Value)} (h : A.guards = some []) : (A.under (.builtin "type.__call__" ⟨.ref C :: us, kw⟩)).guards = some [] := by
  first
    | exact h
    | simpa [Around.under, pushGuards, Code.guards, Code.isGuard, guardIds] using h
section
variable {P : Program} {w : World} {K : PySem.W.Frag} {mg : Str → Option Value} {base : Heap}
theorem fnG_of {x qual : Str} {params : Arguments} {body : List Stmt} {scope : Scope} {dvs : List V} {kws : List (Str × V)} {f : Addr} {fd : FuncData} {N ps : List Str} {k : Nat} {sp : Sp}
    (D : FunD K x qual params body scope dvs kws f fd) (S : FnScope N ps scope) (many : ∀ vs H Q E, sp vs H Q E → vs.length = ps.length)
    (hb : ∀ (cdv : Value) (A : Around) (outer : List Env) (s : Shared) (H : Hp) (vs : List V) (Q : VK) (E : XK), Room k (A.deeper (envOfC qual scope s.heap.objs.size f cdv)) → A.guards = some [] → sp vs H Q E →
      ∃ t, PSs (cxOf (L2N.CX P w) P w K mg base N qual scope f cdv A outer s H E) body t ∧
        t { nx := fun _ H' => Q .non H', rt := Q } (start N vs) H) : FnG P w K mg base (k + 1) f fd ps sp := by
  obtain ⟨c0, c1, dV, kV, c2, c3, c4, cdv, c5, c6, rfl, look, cin, -, -⟩ := D.ex
  refine ⟨many, ?_⟩
  intro A outer s H args us vs Q E hr hG e0 bt rel hsp
  have nlen := many _ _ _ _ hsp
  have stay : ∀ b o, base.get? b = some o → s.heap.get? b = some o := fun b o h => (e0.bs b o h).1
  have inK : K.In s.heap := e0.mod.kin.keeps stay
  have nolim : s.heap.NoLimit := e0.mod.nolimit.keeps stay
  have kinds : ∀ y ∈ ps.zip us, scope.names.lookup y.1 = some .local ∨
      (scope.names.lookup y.1 = some .cell ∧ ((cellsFrom (s.heap.objs.size + 1) scope.names []).lookup y.1).isSome = true) := by
    intro y hy
    obtain ⟨n, v⟩ := y
    cases S.par n (List.of_mem_zip hy).1 with
    | inl q => exact .inl q
    | inr q => exact .inr ⟨q, PySem.W.cellsFrom_some _ _ _ (.inl q)⟩
  refine codeAny_call_function hr.depth (inK _ _ look) rfl S.co S.gen rfl (PySem.W.codeRec_of inK cin) (bt _ _ _ _ ?_)
  refine wpAny_newFunctionEnv_cells S.kind kinds ?_
  intro env same s1 made
  subst same
  refine ⟨nolim.keeps made.toInCall.keep, codeAny_func ?_⟩
  obtain ⟨t, runs, wish⟩ := hb cdv A outer s H vs Q E (hr.deeper _) hG hsp
  have J := inv_start (CX := L2N.CX P w) (E := E) (cd := cdv) S hr.hd e0 nlen rel made
  refine wpAny_mono (runs.run [] s1 (start N vs) H _ J wish) (fun fl s' got => ?_) (fun _ _ z => z)
  cases fl with
  | brk => obtain ⟨_, _, _, no⟩ := got; exact no.elim
  | cont => obtain ⟨_, _, _, no⟩ := got; exact no.elim
  | next =>
    obtain ⟨σ', H', I', q⟩ := got
    exact ⟨.non, H', I'.os, I'.bare, I'.base, I'.hok, rfl, q⟩
  | ret u =>
    obtain ⟨v, σ', H', I', rv, q⟩ := got
    exact ⟨v, H', I'.os, I'.bare, I'.base, I'.hok, rv, q⟩
end
section
variable {X : Cx} {k : Nat} {f C : Addr} {fd : FuncData} {ps : List Str} {sp : Sp} {W : WX} {x m : Str} {p pos apos : Pos} {e o : Expr} {es : List Expr} {ta : TE} {t : TA}
theorem end_of {pins : List (Addr × Obj)} {σ : Sig} {H : Hp} {s s' : Shared} {Q : VK} {r : Result} (tk : L2N.Takes X W) (I : Inv X pins σ H s)
    (h : CR (L2N.CX X.prog X.w) X.stack X.prog X.w H s Q (WE W σ) r s') : match r with
      | .ok (.ret u) => EP X pins σ Q u s'
      | .ok _ => False
      | .error z => X.xe z s' := by
  cases r with
  | error z => exact L2N.passAt tk σ pins H s z s' I h
  | ok fl => cases fl with
    | ret u => exact I.after h
    | next => exact h
    | brk => exact h
    | cont => exact h
theorem goG {pins : List (Addr × Obj)} {σ : Sig} {H : Hp} {s : Shared} {Q : VK} {us zs : List Value} {kw : List (Str × Value)} {vs : List V} (F : FnG X.prog X.w X.K X.mg X.base k f fd ps sp) (hr : Room k X.A) (hG : X.A.guards = some []) (tk : L2N.Takes X W)
    (I : Inv X pins σ H s) (bt : BindsTo s fd ⟨us, kw⟩ (ps.zip zs)) (r : Vals vs zs) (h : sp vs H Q (WE W σ)) : wpAny (model X.prog X.w) X.A (call (.ref f) us kw) (EP X pins σ Q) X.xe s := by
  refine wpAny_call (codeAny_mono (F.goes X.A X.stack s H ⟨us, kw⟩ zs vs Q (WE W σ) hr hG I.env0 bt r h) fun res s' got => ?_)
  have q := end_of tk I got
  cases res with
  | error z => exact q
  | ok fl => cases fl with
    | ret u => exact q
    | next => exact q.elim
    | brk => exact q.elim
    | cont => exact q.elim
def BindG (K : PySem.W.Frag) (fd : FuncData) (ps : List Str) (ds : List Value) : Prop := Binds K fd ps ds
def cG (sp : Sp) (W : WX) (dvs : List V) (t : TA) : TE := fun σ H Q => t σ H fun vs H1 => sp (vs ++ dvs) H1 Q (WE W σ)
theorem pg_call {dvs : List V} {ds : List Value} (F : FnG X.prog X.w X.K X.mg X.base k f fd ps sp) (hr : Room k X.A) (hG : X.A.guards = some []) (tk : L2N.Takes X W) (gl : Gl X x) (at_ : X.mg x = some (.ref f)) (kp : PySem.W.keepIn X.K (.ref f) = true)
    (hb : Binds X.K fd ps ds) (hd : Vals dvs ds) (ha : PA X (e :: es) t) (n1 : (x == ("__debug__" : Str)) = false := by decide)
    (n2 : starEach (e :: es) X.env = (false, eval e X.env) :: starEach es X.env := by rfl) (n3 : (backTo pos (starEach es X.env)).any (·.1) = false := by rfl) :
    PE X (.Call (.Name x p) (e :: es) [] pos) (cG sp W dvs t) := by
  constructor
  intro pins s σ H Q I h
  refine wpAny_Call_Name_kw (ld_glob I gl at_ ?_ n1)
  refine PySem.W.callWith_K (h₀ := X.base) I.ok.mod.kin kp (thn (ha.run pos pins s σ H _ I h) ?_) n2 n3
  rintro us s1 ⟨vs, H1, I1, r, q⟩
  refine ⟨I1.kIn, ?_⟩
  have rd := r.append hd
  exact goG F hr hG tk I1 (hb s1 us I1.kIn (rd.length.symm.trans (F.many _ _ _ _ q))) rd q
theorem pg_call0 {dvs : List V} {ds : List Value} (F : FnG X.prog X.w X.K X.mg X.base k f fd ps sp) (hr : Room k X.A) (hG : X.A.guards = some []) (tk : L2N.Takes X W) (gl : Gl X x) (at_ : X.mg x = some (.ref f)) (kp : PySem.W.keepIn X.K (.ref f) = true)
    (hb : Binds X.K fd ps ds) (hd : Vals dvs ds) (n1 : (x == ("__debug__" : Str)) = false := by decide) : PE X (.Call (.Name x p) [] [] pos) (cG sp W dvs tNil) := by
  constructor
  intro pins s σ H Q I h
  have rd : Vals ([] ++ dvs) ([] ++ ds) := hd
  refine wpAny_Call_Name_kw (ld_glob I gl at_ (PySem.W.callWith_K0 I.kIn kp ?_) n1)
  exact goG F hr hG tk I (hb s [] I.kIn (rd.length.symm.trans (F.many _ _ _ _ h))) rd h
def cGK (sp : Sp) (W : WX) (gV : List V → List V → List V) (t u : TA) : TE := fun σ H Q => t σ H fun vs H1 => u σ H1 fun zs H2 => sp (gV vs zs) H2 Q (WE W σ)
theorem pg_callK {kws : List Keyword} {u : TA} {ks : List Str} {g : List Value → List Value → List Value} {gV : List V → List V → List V} (F : FnG X.prog X.w X.K X.mg X.base k f fd ps sp) (hr : Room k X.A) (hG : X.A.guards = some []) (tk : L2N.Takes X W) (gl : Gl X x)
    (at_ : X.mg x = some (.ref f)) (kp : PySem.W.keepIn X.K (.ref f) = true) (hb : KBinds X.K fd ps ks g gV) (ha : PA X (e :: es) t) (hk : PK X kws u)
    (k1 : (backToKw pos (keywordEach kws X.env)).all (·.1.isSome) = true := by rfl) (k2 : (backToKw pos (keywordEach kws X.env)).filterMap (·.1) = ks := by rfl) (n1 : (x == ("__debug__" : Str)) = false := by decide)
    (n2 : starEach (e :: es) X.env = (false, eval e X.env) :: starEach es X.env := by rfl)
    (n3 : ((backTo pos (starEach (e :: es) X.env)).any (·.1) || (backToKw pos (keywordEach kws X.env)).any (·.1.isNone)) = false := by rfl) : PE X (.Call (.Name x p) (e :: es) kws pos) (cGK sp W gV t u) := by
  constructor
  intro pins s σ H Q I h
  refine wpAny_Call_Name_kw (ld_glob I gl at_ ?_ n1)
  refine PySem.W.callWith_KW (h₀ := X.base) I.ok.mod.kin kp k1 (thn (ha.run pos pins s σ H _ I h) ?_) n3 n2
  rintro us s1 ⟨vs, H1, I1, r, q⟩
  refine thn (hk.run pos pins s1 σ H1 _ I1 q) ?_
  rintro ws s2 ⟨zs, H2, I2, rz, q2⟩
  refine ⟨I2.kIn, ?_⟩
  rw [k2]
  have rd := hb.rel r rz
  exact goG F hr hG tk I2 (hb.to s2 us ws I2.kIn (rd.length.symm.trans (F.many _ _ _ _ q2))) rd q2
def mG (C : Addr) (m : Str) (sp : Sp) (W : WX) (dvs : List V) (ta : TE) (t : TA) : TE := fun σ H Q => ta σ H fun y H1 => ∃ a dx fs, y = .ref a ∧ H1 a = some (.ins C dx fs) ∧ fs.lookup m = none ∧
  t σ H1 fun vs H2 => sp (y :: (vs ++ dvs)) H2 Q (WE W σ)
theorem pg_meth {pl : Sem Bool} {dvs : List V} {ds : List Value} (he : PE X o ta) (c : Cls X.K C) (hm : Meth X.K C m f) (F : FnG X.prog X.w X.K X.mg X.base k f fd ps sp) (hr : Room k X.A) (hG : X.A.guards = some []) (tk : L2N.Takes X W)
    (hb : Binds X.K fd ps ds) (hd : Vals dvs ds) (ha : PA X (e :: es) t) (n2 : starEach (e :: es) X.env = (false, eval e X.env) :: starEach es X.env := by rfl) (n3 : (backTo pos (starEach es X.env)).any (·.1) = false := by rfl)
    (look : eval (.Call (.Attribute o m apos) (e :: es) [] pos) X.env = (do
      let ov ← eval o X.env
      standAt apos.atName
      let (f, first) ← holding [ov] (getMethod ov m pl)
      callWith pos f first (backTo pos (starEach (e :: es) X.env)) (backToKw pos (keywordEach [] X.env))) := by rfl) : PE X (.Call (.Attribute o m apos) (e :: es) [] pos) (mG C m sp W dvs ta t) := by
  constructor
  intro pins s σ H Q I h
  refine PySem.W.methodCall_KW (pl := pl) (thn (he.run pins s σ H _ I h) ?_) look
  rintro v s1 ⟨y, H1, I1, ry, a, dx, fs, rfl, ia, nl, q⟩
  obtain rfl : v = Value.ref a := ry
  refine getmeth_ok I1 ia c hm nl ?_
  refine PySem.W.callWith_K (first := [.ref a]) (h₀ := X.base) I.ok.mod.kin hm.kp (thn (ha.run pos pins s1 σ H1 _ I1 q) ?_) n2 n3
  rintro us s2 ⟨vs, H2, I2, r, q2⟩
  refine ⟨I2.kIn, ?_⟩
  have rd : Vals (V.ref a :: (vs ++ dvs)) (Value.ref a :: (us ++ ds)) := .cons rfl (r.append hd)
  exact goG F hr hG tk I2 (hb s2 (.ref a :: us) I2.kIn (rd.length.symm.trans (F.many _ _ _ _ q2))) rd q2
theorem pg_meth0 {pl : Sem Bool} {dvs : List V} {ds : List Value} (he : PE X o ta) (c : Cls X.K C) (hm : Meth X.K C m f) (F : FnG X.prog X.w X.K X.mg X.base k f fd ps sp) (hr : Room k X.A) (hG : X.A.guards = some []) (tk : L2N.Takes X W)
    (hb : Binds X.K fd ps ds) (hd : Vals dvs ds)
    (look : eval (.Call (.Attribute o m apos) [] [] pos) X.env = (do
      let ov ← eval o X.env
      standAt apos.atName
      let (f, first) ← holding [ov] (getMethod ov m pl)
      callWith pos f first (backTo pos (starEach [] X.env)) (backToKw pos (keywordEach [] X.env))) := by rfl) : PE X (.Call (.Attribute o m apos) [] [] pos) (mG C m sp W dvs ta tNil) := by
  constructor
  intro pins s σ H Q I h
  refine PySem.W.methodCall_KW (pl := pl) (thn (he.run pins s σ H _ I h) ?_) look
  rintro v s1 ⟨y, H1, I1, ry, a, dx, fs, rfl, ia, nl, q⟩
  obtain rfl : v = Value.ref a := ry
  refine getmeth_ok I1 ia c hm nl (PySem.W.callWith_K0 (first := [.ref a]) I1.kIn hm.kp ?_)
  have rd : Vals (V.ref a :: ([] ++ dvs)) (Value.ref a :: ([] ++ ds)) := .cons rfl hd
  exact goG F hr hG tk I1 (hb s1 [.ref a] I1.kIn (rd.length.symm.trans (F.many _ _ _ _ q))) rd q
def nG (C : Addr) (sp : Sp) (W : WX) (dvs : List V) (t : TA) : TE := fun σ H Q => t σ H fun vs H1 => ∀ y dx, H1 y = none → H1 dx = none → dx ≠ y →
  sp (.ref y :: (vs ++ dvs)) (upd (upd H1 dx (.own y)) y (.ins C dx [])) (fun v H2 => v = .non ∧ Q (.ref y) H2) (WE W σ)
theorem goMake {pins : List (Addr × Obj)} {σ : Sig} {H : Hp} {s : Shared} {Q : VK} {us : List Value} {vs dvs : List V} {ds : List Value} (Mk : Mk X.K C f) (F : FnG X.prog X.w X.K X.mg X.base k f fd ps sp) (hr : Room (k + 1) X.A) (hG : X.A.guards = some []) (tk : L2N.Takes X W)
    (hb : Binds X.K fd ps ds) (hd : Vals dvs ds) (I : Inv X pins σ H s) (r : Vals vs us)
    (h : ∀ y dx, H y = none → H dx = none → dx ≠ y → sp (.ref y :: (vs ++ dvs)) (upd (upd H dx (.own y)) y (.ins C dx [])) (fun v H2 => v = .non ∧ Q (.ref y) H2) (WE W σ)) :
    wpAny (model X.prog X.w) X.A (call (.ref C) us) (EP X pins σ Q) X.xe s := by
  have wish := h (s.heap.objs.size + 1) s.heap.objs.size (I.hok.fresh (Nat.le_succ _)) (I.hok.fresh (Nat.le_refl _)) (Nat.ne_of_lt (Nat.lt_succ_self _))
  have J := Inv.made (C := C) I
  have rd : Vals (V.ref (s.heap.objs.size + 1) :: (vs ++ dvs)) (Value.ref (s.heap.objs.size + 1) :: (us ++ ds)) := .cons rfl (r.append hd)
  have bt := hb _ (Value.ref (s.heap.objs.size + 1) :: us) J.kIn (rd.length.symm.trans (F.many _ _ _ _ wish))
  have runs := F.goes _ X.stack _ _ ⟨Value.ref (s.heap.objs.size + 1) :: us, []⟩ _ _ _ (WE W σ) (hr.make C us []) (guards_make hG) (J.env0.make C us []) bt rd wish
  refine wpAny_call (make_map (f := f) I.kIn Mk.makes Mk.init (beq_iff_eq.mp Mk.fn) (codeAny_mono runs fun res s' got => ?_))
  have q := end_of tk J got
  cases res with
  | error z => exact q
  | ok fl => cases fl with
    | ret u =>
      obtain ⟨v, H', I3, rv, ev, q3⟩ := q
      subst ev
      exact ⟨rv, V.ref (s.heap.objs.size + 1), H', I3, rfl, q3⟩
    | next => exact q.elim
    | brk => exact q.elim
    | cont => exact q.elim
theorem pg_make {dvs : List V} {ds : List Value} (Mk : Mk X.K C f) (F : FnG X.prog X.w X.K X.mg X.base k f fd ps sp) (hr : Room (k + 1) X.A) (hG : X.A.guards = some []) (tk : L2N.Takes X W) (gl : Gl X x) (at_ : X.mg x = some (.ref C)) (hb : Binds X.K fd ps ds) (hd : Vals dvs ds)
    (ha : PA X (e :: es) t) (n1 : (x == ("__debug__" : Str)) = false := by decide) (n2 : starEach (e :: es) X.env = (false, eval e X.env) :: starEach es X.env := by rfl)
    (n3 : (backTo pos (starEach es X.env)).any (·.1) = false := by rfl) : PE X (.Call (.Name x p) (e :: es) [] pos) (nG C sp W dvs t) := by
  constructor
  intro pins s σ H Q I h
  refine wpAny_Call_Name_kw (ld_glob I gl at_ ?_ n1)
  refine PySem.W.callWith_K (h₀ := X.base) I.ok.mod.kin Mk.kp (thn (ha.run pos pins s σ H _ I h) ?_) n2 n3
  rintro us s1 ⟨vs, H1, I1, r, q⟩
  exact ⟨I1.kIn, goMake Mk F hr hG tk hb hd I1 r q⟩
end
end Pu
set_option Elab.async false
set_option linter.all false
set_option maxRecDepth 100000
namespace Pu
open PySem PySem.Spec PyProof.Rows L2
theorem Slot.un_ne : ∀ w, Slot.un ≠ .own w := fun _ z => nomatch z
theorem M.ret_bind {α β : Type} (a : α) (f : α → M β) : (M.ret a).bind f = f a := rfl
section
variable {K : PySem.W.Frag} {W : WX} {B : Bg} {F F' H H' : Hp} {e : Ev} {σ : Sig}
theorem Own.unset {i : Nat} {s : Slot} {a : Addr} {o : Option V} (hs : ∀ v, s ≠ .own v) (h : Own (e.set i s) (σ.set i o) a) : Own e σ a := by
  obtain ⟨j, v, h1, h2⟩ := h
  rcases getset h1 with ⟨_, z, _⟩ | ⟨z, h1⟩
  · exact absurd z.symm (hs v)
  · rw [List.getElem?_set_ne z] at h2
    exact ⟨j, v, h1, h2⟩
theorem Cur.setDat {i : Nat} {v : Val} {u : V} (C : Cur K B F H e σ) (r : VR K F v u) : Cur K B F H (e.set i (.dat v)) (σ.set i (some u)) := by
  refine ⟨C.post, ⟨C.rel.sub, by rw [List.length_set, List.length_set]; exact C.rel.len, fun j q o a1 a2 => ?_, fun j k v' w a h1 h2 h3 h4 => ?_, C.rel.tb, C.rel.nt⟩, fun a q => C.own a (q.unset Slot.dat_ne), by rw [List.length_set]; exact C.ln, fun j v' hj h => ?_⟩
  · rcases getset a1 with ⟨z, z2, _⟩ | ⟨z, a1⟩
    · subst z z2
      rcases getset a2 with ⟨_, z2, _⟩ | ⟨z, _⟩
      · exact ⟨u, z2, r⟩
      · exact absurd rfl z
    · rw [List.getElem?_set_ne z] at a2
      exact C.rel.slot j q o a1 a2
  · rcases getset h1 with ⟨_, z, _⟩ | ⟨z1, h1⟩
    · cases z
    · rcases getset h2 with ⟨_, z, _⟩ | ⟨z2, h2⟩
      · cases z
      · rw [List.getElem?_set_ne z1] at h3
        rw [List.getElem?_set_ne z2] at h4
        exact C.rel.inj j k v' w a h1 h2 h3 h4
  · rcases getset h with ⟨_, z, _⟩ | ⟨z, h⟩
    · cases z
    · rw [List.getElem?_set_ne z]
      exact C.par j v' hj h
theorem Cur.setOwn {i : Nat} {v : Val} {t : Addr} (C : Cur K B F H e σ) (h1 : F t = none) (h2 : CellR K F H v t) (h3 : ¬ Own e σ t) (h4 : B.mine t) (hp : B.np ≤ i) : Cur K B F H (e.set i (.own v)) (σ.set i (some (.ref t))) := by
  have other : ∀ {j : Nat} {w : Val} {a : Addr}, (e.set i (.own v))[j]? = some (.own w) → (σ.set i (some (.ref t)))[j]? = some (some (.ref a)) → (i = j ∧ a = t) ∨ (i ≠ j ∧ e[j]? = some (.own w) ∧ σ[j]? = some (some (.ref a))) := fun {j w a} a1 a2 => by
    rcases getset a1 with ⟨z, _, _⟩ | ⟨z, a1⟩
    · rcases getset a2 with ⟨_, z2, _⟩ | ⟨z', _⟩
      · cases z2; exact .inl ⟨z, rfl⟩
      · exact absurd z z'
    · rw [List.getElem?_set_ne z] at a2
      exact .inr ⟨z, a1, a2⟩
  refine ⟨C.post, ⟨C.rel.sub, by rw [List.length_set, List.length_set]; exact C.rel.len, fun j q o a1 a2 => ?_, fun j k v' w a a1 a2 a3 a4 => ?_, C.rel.tb, C.rel.nt⟩, fun a q => ?_, by rw [List.length_set]; exact C.ln, fun j v' hj h => ?_⟩
  · rcases getset a1 with ⟨z, z2, _⟩ | ⟨z, a1⟩
    · subst z z2
      rcases getset a2 with ⟨_, z2, _⟩ | ⟨z, _⟩
      · exact ⟨t, z2, h1, h2⟩
      · exact absurd rfl z
    · rw [List.getElem?_set_ne z] at a2
      exact C.rel.slot j q o a1 a2
  · rcases other a1 a3 with ⟨z1, z2⟩ | ⟨z1, b1, b2⟩
    · rcases other a2 a4 with ⟨z3, _⟩ | ⟨_, c1, c2⟩
      · exact z1.symm.trans z3
      · exact absurd ⟨k, w, c1, z2 ▸ c2⟩ h3
    · rcases other a2 a4 with ⟨_, z4⟩ | ⟨_, c1, c2⟩
      · exact absurd ⟨j, v', b1, z4 ▸ b2⟩ h3
      · exact C.rel.inj j k v' w a b1 c1 b2 c2
  · obtain ⟨j, w, a1, a2⟩ := q
    rcases other a1 a2 with ⟨_, z2⟩ | ⟨_, b1, b2⟩
    · rw [z2]; exact h4
    · exact C.own a ⟨j, w, b1, b2⟩
  · rcases getset h with ⟨z, _, _⟩ | ⟨z, h⟩
    · omega
    · rw [List.getElem?_set_ne z]
      exact C.par j v' hj h
theorem RR.carry {F0 H0 : Hp} {e0 : Ev} {r : RV} {u : V} (h : RR K B F0 H0 e0 σ r u) {np : Nat} (c : Cur K (bg np F0 H0 e0 σ) F H e σ) : RR K B F H e σ r u := by
  cases r with
  | dat v => exact VR.mono c.post.sub h
  | bor i => exact h
  | tmp v =>
    obtain ⟨t, h1, h2, h3, h4, h5⟩ := h
    obtain ⟨o, ho, hp⟩ := h3.someP
    have no : ¬ (bg np F0 H0 e0 σ).mine t := fun z => by
      rcases z with z | z
      · exact h4 z
      · have z' : H0 t = none := z
        rw [ho] at z'; cases z'
    have hF : F t = none := by
      cases q : F t with
      | none => rfl
      | some x =>
        rcases c.post.nw t (by rw [q]; simp) with z | z
        · exact absurd h2 z
        · exact absurd z no
    exact ⟨t, h1, hF, h3.mono c.post.sub ((c.post.fr t o ho h4 (plainO_tbl hp)).trans ho.symm), fun z => no (c.own t z), h5⟩
end
end Pu
set_option Elab.async false
set_option linter.all false
set_option maxRecDepth 100000
namespace Pu
open PySem PySem.Spec PyProof.Rows L2
theorem PE.imp {X : Cx} {e : Expr} {t t' : TE} (h : PE X e t) (q : ∀ σ H Q, t' σ H Q → t σ H Q) : PE X e t' := ⟨fun pins s σ H Q I z => h.run pins s σ H Q I (q σ H Q z)⟩
theorem PT.imp {X : Cx} {e : Expr} {t t' : TT} (h : PT X e t) (q : ∀ σ H Q, t' σ H Q → t σ H Q) : PT X e t' := ⟨fun pins s σ H Q I z => h.run pins s σ H Q I (q σ H Q z)⟩
theorem PW.imp {X : Cx} {e : Expr} {t t' : TT} (h : PW X e t) (q : ∀ σ H Q, t' σ H Q → t σ H Q) : PW X e t' := ⟨fun w pins s σ H Q I z => h.run w pins s σ H Q I (q σ H Q z)⟩
theorem PA.imp {X : Cx} {es : List Expr} {t t' : TA} (h : PA X es t) (q : ∀ σ H Q, t' σ H Q → t σ H Q) : PA X es t' := ⟨fun p pins s σ H Q I z => h.run p pins s σ H Q I (q σ H Q z)⟩
theorem PS.imp {X : Cx} {st : Stmt} {t t' : TS} (h : PS X st t) (q : ∀ D σ H, t' D σ H → t D σ H) : PS X st t' := ⟨fun pins s σ H D I z => h.run pins s σ H D I (q D σ H z)⟩
theorem PSs.imp {X : Cx} {st : List Stmt} {t t' : TS} (h : PSs X st t) (q : ∀ D σ H, t' D σ H → t D σ H) : PSs X st t' := ⟨fun pins s σ H D I z => h.run pins s σ H D I (q D σ H z)⟩
abbrev SE (X : Cx) (W : WX) (e : Expr) (m : M RV) : Prop := PE X e (tE X.K W m)
abbrev ST (X : Cx) (W : WX) (e : Expr) (m : M Bool) : Prop := PT X e (tT X.K W m)
abbrev SW (X : Cx) (W : WX) (e : Expr) (m : M Bool) : Prop := PW X e (tT X.K W m)
abbrev SA (X : Cx) (W : WX) (es : List Expr) (m : M (List RV)) : Prop := PA X es (tA X.K W m)
section
variable {K : PySem.W.Frag} {W : WX} {B : Bg} {F F' H H' : Hp} {e : Ev} {σ : Sig} {u : V}
theorem Cur.grow {o : HO} {a : Addr} (C : Cur K B F H e σ) (h : H a = none) : Cur K B F (upd H a o) e σ ∧ ¬ Own e σ a ∧ F a = none ∧ B.mine a := by
  have hF : F a = none := by
    cases q : F a with
    | none => rfl
    | some x => rw [C.rel.sub a x q] at h; cases h
  have hO : ¬ Own e σ a := fun ⟨i, v, a1, a2⟩ => by
    obtain ⟨b, h1, h2, h3⟩ := C.rel.slot i _ _ a1 a2
    obtain ⟨o', h4⟩ := h3.some
    have e1 : V.ref a = V.ref b := Option.some.inj h1
    cases e1
    rw [h] at h4; cases h4
  refine ⟨⟨⟨C.post.sub, fun b o' q n t => ?_, C.post.nw, fun b q => ?_⟩, ⟨fun b o' q => ?_, C.rel.len, fun i s o' a1 a2 => ?_, C.rel.inj, Tabs.new C.rel.tb h, C.rel.nt⟩, C.own, C.ln, C.par⟩, hO, hF, .inr (C.post.kp a h)⟩
  · have z := C.post.fr b o' q n t
    rw [upd_ne (ne_of_none z h)]
    exact z
  · by_cases hb : b = a
    · rw [hb, upd_same] at q; cases q
    · rw [upd_ne hb] at q; exact C.post.kp b q
  · have z := C.rel.sub b o' q
    rw [upd_ne (ne_of_none z h)]
    exact z
  · have z := C.rel.slot i s o' a1 a2
    cases s with
    | un => trivial
    | dat v => exact z
    | own v =>
      obtain ⟨b, h1, h2, h3⟩ := z
      obtain ⟨o2, h4⟩ := h3.some
      exact ⟨b, h1, h2, h3.mono (Same.refl _) (upd_ne (ne_of_none h4 h))⟩
theorem Cur.growF {o : HO} {a : Addr} (C : Cur K B F H e σ) (h : H a = none) (ho : plainO o = true := by rfl) : Cur K B (Pu.frz F (upd H a o) a) (upd H a o) e σ ∧ Same F (Pu.frz F (upd H a o) a) ∧ Pu.frz F (upd H a o) a a = some o := by
  obtain ⟨C1, h1, h2, h3⟩ := C.grow (o := o) h
  exact ⟨C1.frz h2 h1 h3 (fun ps z => by rw [upd_same] at z; cases z; cases ho), frz_sub h2, by rw [frz_same, upd_same]⟩
end
section
variable {X : Cx} {W : WX}
theorem se_var (i : Nat) {x : Str} {pos : Pos} (hN : X.N[i]? = some x := by rfl) (hv : Vis X.env.scope x := by first | exact Or.inl rfl | exact Or.inr (Or.inl rfl) | exact Or.inr (Or.inr rfl)) (hd : (x == ("__debug__" : Str)) = false := by decide)
    (hcd : (x == ("__classdict__" : Str)) = false := by decide) : SE X W (.Name x pos) (mVar i) := by
  refine PE.imp (pe_var hN hv hd hcd) fun σ H Q h => ?_
  obtain ⟨np, F, e, R, h⟩ := h
  cases z : e[i]? with
  | none => unfold At mVar at h; simp only [z] at h
  | some s =>
    have il : i < σ.length := R.len ▸ (List.getElem?_eq_some_iff.mp z).1
    have ho : σ[i]? = some σ[i] := List.getElem?_eq_getElem il
    cases s with
    | un => unfold At mVar at h; simp only [z] at h
    | dat v =>
      obtain ⟨u, h1, h2⟩ := R.slot i _ _ z ho
      have C := Cur.refl (np := np) R
      exact ⟨u, by rw [ho, h1], h.ok (e' := e) (r := RV.dat v) (by unfold mVar; simp only [z]) C h2⟩
    | own v =>
      obtain ⟨a, h1, h2, h3⟩ := R.slot i _ _ z ho
      have C := Cur.refl (np := np) R
      exact ⟨.ref a, by rw [ho, h1], h.ok (e' := e) (r := RV.bor i) (by unfold mVar; simp only [z]) C (show σ[i]? = some (some (V.ref a)) by rw [ho, h1])⟩
theorem at_ret {v : Val} {u : V} {σ : Sig} {H : Hp} {Q : VK} (h : tE X.K W (mV v) σ H Q) (r : ∀ F, VR X.K F v u) : Q u H := by
  obtain ⟨np, F, e, R, h⟩ := h
  exact h.ok rfl (Cur.refl R) (r F)
theorem se_int {i : Int} {j pos} : SE X W (.Constant (.int i) j pos) (mV (.int i)) := PE.imp pe_int fun _ _ _ h => at_ret h fun _ => .int i
theorem se_bl {b : Bool} {j pos} : SE X W (.Constant (.bool b) j pos) (mV (.bl b)) := PE.imp pe_bl fun _ _ _ h => at_ret h fun _ => .bl b
theorem se_non {j pos} : SE X W (.Constant .none j pos) (mV .non) := PE.imp pe_non fun _ _ _ h => at_ret h fun _ => .non
theorem se_str {x : Str} {j pos} : SE X W (.Constant (.str x) j pos) (mV (.str x)) := PE.imp pe_str fun _ _ _ h => at_ret h fun _ => .str x
theorem se_glo {x : Str} {pos : Pos} (gl : Gl X x) (at_ : X.mg x = some (.ref (He.ga X.K x))) (hd : (x == ("__debug__" : Str)) = false := by decide) : SE X W (.Name x pos) (mV (.glo x)) :=
  PE.imp (pe_glob gl at_ (v := .ref (He.ga X.K x)) rfl hd) fun _ _ _ h => at_ret h fun _ => .glo x
theorem se_gloV {x : Str} {pos : Pos} {v : Val} {u : V} {w : Value} (gl : Gl X x) (at_ : X.mg x = some w) (r : RelV u w) (q : ∀ F, VR X.K F v u) (hd : (x == ("__debug__" : Str)) = false := by decide) : SE X W (.Name x pos) (mV v) :=
  PE.imp (pe_glob gl at_ r hd) fun _ _ _ h => at_ret h q
theorem se_ty {x : Str} {n : String} {pos : Pos} (gl : Gl X x) (fr : X.mg x = none) (hv : bootBuiltins x = some (.type n) := by decide +kernel) (hn : x ≠ "__name__" := by decide) (hd : (x == ("__debug__" : Str)) = false := by decide) : SE X W (.Name x pos) (mV (.ty n)) :=
  PE.imp (pe_bltn gl fr hv (v := .ty n) rfl hn hd) fun _ _ _ h => at_ret h fun _ => .ty n
end
def OpV (K : PySem.W.Frag) (W : WX) (f : Val → Val → M RV) (r : R2) : Prop := ∀ {B : Bg} {F H : Hp} {e : Ev} {σ : Sig} {v w : Val} {x y : V} {Q : VK}, Cur K B F H e σ → RdR K F H v x → RdR K F H w y → At K W (RR K) B (f v w) F e σ H Q → r x y H Q
section
variable {X : Cx} {W : WX} {a b c : Expr} {ma mb mc : M RV} {pos : Pos} {f g : Val → Val → M RV} {r : R2}
theorem two {K : PySem.W.Frag} (hv : OpV K W f r) {σ : Sig} {H : Hp} {Q : VK} (h : tE K W (mBin f ma mb) σ H Q) : tOp r (tE K W ma) (tE K W mb) σ H Q := by
  obtain ⟨np, F, e, R, h⟩ := h
  refine use (Cur.refl R) h fun r1 e1 F1 H1 x C1 q1 _ h1 => ?_
  refine use C1 h1 fun r2 e2 F2 H2 y C2 q2 c2 h2 => ?_
  obtain ⟨v, rv, h3⟩ := At.rd C2.rel (q1.carry c2) h2
  obtain ⟨w, rw_, h4⟩ := At.rd C2.rel q2 h3
  exact hv C2 rv rw_ h4
theorem se_bin {op : Operator} (ho : OpR X (binaryOp op) r) (hv : OpV X.K W f r) (ha : SE X W a ma) (hb : SE X W b mb) : SE X W (.BinOp a op b pos) (mBin f ma mb) :=
  PE.imp (pe_op ho ha hb) fun _ _ _ h => two hv h
theorem se_cmp {op : CmpOp} (ho : OpR X (compareOp op) r) (hv : OpV X.K W f r) (ha : SE X W a ma) (hb : SE X W b mb) (hm : behindInMarks op b = false := by first | exact nomark _ | rfl) : SE X W (.Compare a [op] [b] pos) (mBin f ma mb) :=
  PE.imp (pe_cmpR ho ha hb hm) fun _ _ _ h => two hv h
theorem tru_of {K : PySem.W.Frag} {B : Bg} {F H : Hp} {e : Ev} {σ : Sig} {v : Val} {x : V} {Q : Bool → Hp → Prop} (C : Cur K B F H e σ) (rv : RdR K F H v x) (h : At K W (fun _ _ _ _ _ (b c : Bool) => b = c) B (truV v) F e σ H Q) : ∃ k, TruV K x H k ∧ Q k H := by
  cases v with
  | bl b => rw [rv.bl]; exact ⟨b, rfl, h.ok rfl C rfl⟩
  | int i => rw [rv.int]; exact ⟨_, rfl, h.ok rfl C rfl⟩
  | non => rw [rv.non]; exact ⟨_, rfl, h.ok rfl C rfl⟩
  | str z =>
    rw [rv.str]
    by_cases hz : z.length ≤ sizeLine
    · exact ⟨_, ⟨hz, rfl⟩, h.ok (by unfold truV; simp only [hz, if_true]) C rfl⟩
    · unfold At truV at h; simp only [hz, if_false] at h
  | lst xs =>
    obtain ⟨p, us, rfl, h1, h2⟩ := rv.lst C.rel.sub
    exact ⟨_, .inl ⟨us, .inl h1, rfl⟩, h.ok rfl C (by rw [h2.empty])⟩
  | tup xs =>
    obtain ⟨p, us, rfl, h1, h2⟩ := rv.tup C.rel.sub
    exact ⟨_, .inr (.inl ⟨us, h1, rfl⟩), h.ok rfl C (by rw [h2.empty])⟩
  | _ => exact h.elim
theorem st_val (ha : SE X W a ma) (he : ∀ whole, isTrue a X.env whole = (do let v ← whole; standAt a.pos; holding [v] (truthy v)) := by intro _; rfl) : ST X W a (mTru ma) := by
  refine PT.imp (pt_truth ha he) fun σ H Q h => ?_
  obtain ⟨np, F, e, R, h⟩ := h
  refine use (Cur.refl R) h fun r1 e1 F1 H1 x C1 q1 _ h1 => ?_
  obtain ⟨v, rv, h2⟩ := At.rd C1.rel q1 h1
  exact tru_of C1 rv h2
theorem st_cmp {op : CmpOp} (ho : OpR X (compareOp op) r) (hv : OpV X.K W f r) (hb2 : ∀ v w e r' e', f v w e = .ok r' e' → ∃ b, r' = .dat (.bl b)) (ha : SE X W a ma) (hb : SE X W b mb) (hm : behindInMarks op b = false := by first | exact nomark _ | rfl) : ST X W (.Compare a [op] [b] pos) (mTru (mBin f ma mb)) := by
  refine PT.imp (pt_cmpR ho ha hb hm) fun σ H Q h => ?_
  refine two (r := r) (f := f) hv ?_
  obtain ⟨np, F, e, R, h⟩ := h
  refine ⟨np, F, e, R, ?_⟩
  unfold At mTru M.bind at h
  unfold At
  cases z : mBin f ma mb e with
  | bad => rw [z] at h; exact h
  | rs x e' => rw [z] at h; exact h
  | ok r' e' =>
    rw [z] at h
    intro F' H' u C q
    have hr : ∃ b, r' = .dat (.bl b) := by
      unfold mBin M.bind M.rd at z
      cases z1 : ma e with
      | ok r1 e1 =>
        simp only [z1] at z
        cases z2 : mb e1 with
        | ok r2 e2 =>
          simp only [z2] at z
          cases z3 : Pu.rd r1 e2 with
          | none => simp only [z3] at z; cases z
          | some v =>
            simp only [z3] at z
            cases z4 : Pu.rd r2 e2 with
            | none => simp only [z4] at z; cases z
            | some w =>
              simp only [z4] at z
              exact hb2 _ _ _ _ _ z
        | rs _ _ => simp only [z2] at z; cases z
        | bad => simp only [z2] at z; cases z
      | rs _ _ => simp only [z1] at z; cases z
      | bad => simp only [z1] at z; cases z
    obtain ⟨b, rfl⟩ := hr
    have eu : u = .bl b := by cases q; rfl
    subst eu
    exact ⟨b, rfl, h F' H' b C rfl⟩
end
def mAnd (a b : M Bool) : M Bool := a.bind fun c => if c = true then b else M.ret false
def mOrV (a b : M RV) : M RV := a.bind fun r => (M.rd r).bind fun v => match v with
  | .bl c => if c = true then mV (.bl true) else b
  | _ => M.bad
section
variable {X : Cx} {W : WX} {a b c : Expr} {rest : List Expr} {ma mb : M RV} {ta tb : M Bool} {pos : Pos}
theorem sw_and1 (ha : ST X W a ta) : SW X W (.BoolOp .And [a] pos) ta := pw_and1 ha
theorem sw_or1 (ha : ST X W a ta) : SW X W (.BoolOp .Or [a] pos) ta := pw_or1 ha
theorem sw_and (ha : ST X W a ta) (hb : SW X W (.BoolOp .And (b :: rest) pos) tb) : SW X W (.BoolOp .And (a :: b :: rest) pos) (mAnd ta tb) := by
  refine PW.imp (pw_and ha hb) fun σ H Q h => ?_
  obtain ⟨np, F, e, R, h⟩ := h
  refine use (Cur.refl R) h fun k e1 F1 H1 k' C1 q1 _ h1 => ?_
  have ek : k = k' := q1
  subst ek
  cases k with
  | true => exact use1 C1 h1
  | false => exact h1.ok rfl C1 rfl
theorem sw_or (ha : ST X W a ta) (hb : SW X W (.BoolOp .Or (b :: rest) pos) tb) : SW X W (.BoolOp .Or (a :: b :: rest) pos) (mOr ta tb) := by
  refine PW.imp (pw_or ha hb) fun σ H Q h => ?_
  obtain ⟨np, F, e, R, h⟩ := h
  refine use (Cur.refl R) h fun k e1 F1 H1 k' C1 q1 _ h1 => ?_
  have ek : k = k' := q1
  subst ek
  cases k with
  | false => exact use1 C1 h1
  | true => exact h1.ok rfl C1 rfl
theorem st_w {t : M Bool} (h : SW X W a t) : ST X W a t := h.pt
theorem st_not (ha : ST X W a ta) : ST X W (.UnaryOp .Not a pos) (mNot ta) := by
  refine PT.imp (pt_not ha) fun σ H Q h => ?_
  obtain ⟨np, F, e, R, h⟩ := h
  refine use (Cur.refl R) h fun k e1 F1 H1 k' C1 q1 _ h1 => ?_
  have ek : k = k' := q1
  subst ek
  exact h1.ok rfl C1 rfl
theorem se_ifE (hc : ST X W c ta) (ha : SE X W a ma) (hb : SE X W b mb) : SE X W (.IfExp c a b pos) (mIfE ta ma mb) := by
  refine PE.imp (pe_ifExp hc ha hb) fun σ H Q h => ?_
  obtain ⟨np, F, e, R, h⟩ := h
  refine use (Cur.refl R) h fun k e1 F1 H1 k' C1 q1 _ h1 => ?_
  have ek : k = k' := q1
  subst ek
  cases k with
  | true => exact use1 C1 h1
  | false => exact use1 C1 h1
theorem se_one {op} (ha : SE X W a ma) : SE X W (.BoolOp op [a] pos) ma := pe_one ha
theorem se_and (ha : SE X W a ma) (hb : SE X W (.BoolOp .And (b :: rest) pos) mb) : SE X W (.BoolOp .And (a :: b :: rest) pos) (mAndV ma mb) := by
  refine PE.imp (pe_and ha hb) fun σ H Q h => ?_
  obtain ⟨np, F, e, R, h⟩ := h
  refine use (Cur.refl R) h fun r1 e1 F1 H1 x C1 q1 _ h1 => ?_
  obtain ⟨v, rv, h2⟩ := At.rd C1.rel q1 h1
  cases v with
  | bl k =>
    refine ⟨k, rv.bl, ?_⟩
    cases k with
    | true => exact use1 C1 h2
    | false => exact h2.ok rfl C1 (VR.bl false)
  | _ => exact h2.elim
theorem se_or (ha : SE X W a ma) (hb : SE X W (.BoolOp .Or (b :: rest) pos) mb) : SE X W (.BoolOp .Or (a :: b :: rest) pos) (mOrV ma mb) := by
  refine PE.imp (pe_or ha hb) fun σ H Q h => ?_
  obtain ⟨np, F, e, R, h⟩ := h
  refine use (Cur.refl R) h fun r1 e1 F1 H1 x C1 q1 _ h1 => ?_
  obtain ⟨v, rv, h2⟩ := At.rd C1.rel q1 h1
  cases v with
  | bl k =>
    refine ⟨k, rv.bl, ?_⟩
    cases k with
    | false => exact use1 C1 h2
    | true => exact h2.ok rfl C1 (VR.bl true)
  | _ => exact h2.elim
theorem se_not (ha : SE X W a ma) : SE X W (.UnaryOp .Not a pos) (mNotV ma) := by
  refine PE.imp (pe_not ha) fun σ H Q h => ?_
  obtain ⟨np, F, e, R, h⟩ := h
  refine use (Cur.refl R) h fun r1 e1 F1 H1 x C1 q1 _ h1 => ?_
  obtain ⟨v, rv, h2⟩ := At.rd C1.rel q1 h1
  cases v with
  | bl k => exact ⟨k, rv.bl, h2.ok rfl C1 (VR.bl _)⟩
  | _ => exact h2.elim
end
section
variable {X : Cx} {W : WX} {a : Expr} {es : List Expr} {ma : M RV} {mr : M (List RV)} {pos : Pos}
theorem sa_nil : SA X W [] mNil := PA.imp pa_nil fun σ H Q h => by
  obtain ⟨np, F, e, R, h⟩ := h
  exact h.ok rfl (Cur.refl R) .nil
theorem RRs.mem_tmp {K : PySem.W.Frag} {B : Bg} {F H : Hp} {e : Ev} {σ : Sig} {rs : List RV} {us : List V} (h : RRs K B F H e σ rs us) : ∀ {j : Nat} {w : Val} {u : V}, rs[j]? = some (.tmp w) → us[j]? = some u → RR K B F H e σ (.tmp w) u := by
  induction h with
  | nil => intro j w u a; simp at a
  | cons r d t ih =>
    intro j w u a b
    cases j with
    | zero => simp at a b; subst a b; exact r
    | succ j => exact ih (by simpa using a) (by simpa using b)
theorem sa_cons (ha : SE X W a ma) (hr : SA X W es mr) (hs : starEach (a :: es) X.env = (false, eval a X.env) :: starEach es X.env := by rfl) : SA X W (a :: es) (mCons ma mr) := by
  refine PA.imp (pa_cons ha hr hs) fun σ H Q h => ?_
  obtain ⟨np, F, e, R, h⟩ := h
  refine use (Cur.refl R) h fun r1 e1 F1 H1 x C1 q1 _ h1 => ?_
  refine useS (R1 := RRs X.K) C1 h1 fun rs e2 F2 H2 xs C2 q2 c2 h2 => ?_
  refine h2.ok rfl C2 (.cons (q1.carry c2) (fun v e3 j w e4 e5 => ?_) (Carry.out C1 q2))
  subst e3
  obtain ⟨t, z1, z2, z3, z4, z5⟩ := q1
  obtain ⟨o, z6⟩ := z3.some
  subst z1
  obtain ⟨t', y1, y2, y3, y4, y5⟩ := q2.mem_tmp e4 e5
  cases y1
  rcases y5 with y5 | y5
  · exact z4 y5
  · have y6 : H1 t = none := y5
    rw [z6] at y6; cases y6
theorem se_tup {k} (hr : SA X W es mr) : SE X W (.Tuple es k pos) (mTup mr) := by
  refine PE.imp (pe_tup hr) fun σ H Q h => ?_
  obtain ⟨np, F, e, R, h⟩ := h
  refine use (Cur.refl R) h fun rs e1 F1 H1 xs C1 q1 _ h1 => ?_
  obtain ⟨F2, e2, vs, C2, _, r2, h2⟩ := At.dts C1 q1 h1
  by_cases hz : vs.length ≤ sizeLine
  · rw [if_pos hz] at h2
    refine ⟨r2.length ▸ hz, fun p hp => ?_⟩
    obtain ⟨C3, s3, e3⟩ := C2.growF (o := .tup xs) hp
    exact h2.ok rfl C3 (VR.tup (SqT.of e3) (r2.mono s3))
  · rw [if_neg hz] at h2
    exact h2.elim
theorem se_lst (hr : SA X W es mr) : SE X W (.List es pos) (mLst mr) := by
  refine PE.imp (pe_lst hr) fun σ H Q h => ?_
  obtain ⟨np, F, e, R, h⟩ := h
  refine use (Cur.refl R) h fun rs e1 F1 H1 xs C1 q1 _ h1 => ?_
  obtain ⟨F2, e2, vs, C2, _, r2, h2⟩ := At.dts C1 q1 h1
  by_cases hz : vs.length ≤ sizeLine
  · rw [if_pos hz] at h2
    refine ⟨r2.length ▸ hz, fun p hp => ?_⟩
    obtain ⟨C3, n3, f3, m3⟩ := C2.grow (o := .lst xs) hp
    exact h2.ok (r := RV.tmp (.lst vs)) rfl C3 ⟨p, rfl, f3, ⟨xs, upd_same, r2⟩, n3, m3⟩
  · rw [if_neg hz] at h2
    exact h2.elim
end
end Pu
set_option Elab.async false
set_option linter.all false
set_option maxRecDepth 100000
namespace Pu
open PySem PySem.Spec PyProof.Rows L2
def big : Int := 1606938044258990275541962092341162602522202993782792835301376
section
variable {K : PySem.W.Frag} {W : WX}
theorem opv_I {g : Int → Int → Val} {g' : Int → Int → V} (hg : ∀ F i j, VR K F (g i j) (g' i j)) : OpV K W (oI g) (rI0 g') := by
  intro B F H e σ v w x y Q C rv rw_ h
  unfold oI at h
  split at h
  · exact ⟨_, _, rv.int, rw_.int, h.ok rfl C (hg _ _ _)⟩
  · exact h.elim
theorem opv_IC {c : Int → Int → Prop} [∀ i j, Decidable (c i j)] {d : Int → Int → Prop} {g : Int → Int → Val} {g' : Int → Int → V} (hc : ∀ i j, c i j → d i j) (hg : ∀ F i j, VR K F (g i j) (g' i j)) : OpV K W (oIC c g) (rI d g') := by
  intro B F H e σ v w x y Q C rv rw_ h
  unfold oIC at h
  split at h
  · rename_i i j
    by_cases hh : c i j
    · rw [if_pos hh] at h
      exact ⟨_, _, rv.int, rw_.int, hc _ _ hh, h.ok rfl C (hg _ _ _)⟩
    · rw [if_neg hh] at h
      exact h.elim
  · exact h.elim
theorem natAbs_lt {i : Int} {n : Nat} (a : -(n : Int) < i) (b : i < (n : Int)) : i.natAbs < n := by omega
theorem mulD {i j : Int} (h : cMul i j) : CMul i j ∨ CMulW i j := by
  rcases h with h | h | ⟨⟨h1, h2⟩, h3, h4⟩
  · exact .inl (.inl h)
  · exact .inl (.inr h)
  · exact .inr (wide_mul (a := 200) (b := 200) (natAbs_lt (by simpa using h1) (by simpa using h2)) (natAbs_lt (by simpa using h3) (by simpa using h4)) (by decide) (by decide) (by decide))
theorem op_mulP {X : Cx} : OpR X (binaryOp .Mult) (rI (fun i j => CMul i j ∨ CMulW i j) fun i j => .int (i * j)) := by
  intro pins s σ H x y v u Q I rx ry h
  obtain ⟨i, j, rfl, rfl, c, q⟩ := h
  rcases c with c | c
  · exact op_mul pins s σ H _ _ v u Q I rx ry ⟨i, j, rfl, rfl, c, q⟩
  · exact op_mulW pins s σ H _ _ v u Q I rx ry ⟨i, j, rfl, rfl, c, q⟩
theorem divD {i j : Int} (h : cDiv i j) : CDivW i j := wide_div h.1 (b := 200) (natAbs_lt (by have := h.1; simp; omega) (by simpa using h.2)) (by decide) (by decide)
theorem v_sub : OpV K W oSub (rI0 fun i j => .int (i - j)) := opv_I fun _ _ _ => .int _
theorem v_mul : OpV K W oMul (rI (fun i j => CMul i j ∨ CMulW i j) fun i j => .int (i * j)) := opv_IC (fun _ _ h => mulD h) fun _ _ _ => .int _
theorem v_div : OpV K W oDiv (rI CDivW fun i j => .int (i / j)) := opv_IC (fun _ _ h => divD h) fun _ _ _ => .int _
theorem v_mod : OpV K W oMod (rI (fun _ j => 0 < j) fun i j => .int (i % j)) := opv_IC (fun _ _ h => h) fun _ _ _ => .int _
theorem powD {i j : Int} (h : cPow i j) : CPow i j := ⟨h.1, by have := h.2.1; omega, natAbs_lt (by simpa using h.2.2.1) (by simpa using h.2.2.2)⟩
theorem v_pow : OpV K W oPow (rI CPow fun i j => .int (i ^ j.toNat)) := opv_IC (fun _ _ h => powD h) fun _ _ _ => .int _
theorem v_lt : OpV K W oLt (rI0 fun i j => .bl (decide (i < j))) := opv_I fun _ _ _ => .bl _
theorem v_le : OpV K W oLe (rI0 fun i j => .bl (decide (i ≤ j))) := opv_I fun _ _ _ => .bl _
theorem v_gt : OpV K W oGt (rI0 fun i j => .bl (decide (j < i))) := opv_I fun _ _ _ => .bl _
theorem v_ge : OpV K W oGe (rI0 fun i j => .bl (decide (j ≤ i))) := opv_I fun _ _ _ => .bl _
theorem b_I {p : Int → Int → Bool} : ∀ v w e r' e', oI (fun i j => .bl (p i j)) v w e = .ok r' e' → ∃ b, r' = .dat (.bl b) := by
  intro v w e r' e' h
  unfold oI at h
  split at h
  · unfold mV M.ret at h; cases h; exact ⟨_, rfl⟩
  · cases h
def rCatR : R2 := fun x y H Q => ∃ l b xs zs, x = .ref l ∧ y = .ref b ∧ Rd H l (.lst xs) ∧ Rd H b (.lst zs) ∧ xs.length + zs.length ≤ sizeLine ∧ ∀ p, H p = none → Q (.ref p) (upd H p (.lst (xs ++ zs)))
theorem op_catR {X : Cx} : OpR X (binaryOp .Add) rCatR := by
  intro pins s σ H x y v u Q I rx ry h
  obtain ⟨l, b, xs, zs, rfl, rfl, h1, h2, hz, q⟩ := h
  obtain rfl : v = Value.ref l := rx
  obtain rfl : u = Value.ref b := ry
  obtain ⟨z1, its, n, r, e1⟩ := h1.ok I.hok
  obtain ⟨z2, jts, m, r2, e2⟩ := h2.ok I.hok
  have l1 := r.length
  have l2 := r2.length
  refine PySem.P.add_list e1 e2 ?_ (by simp only [List.size_toArray]; omega)
  have ea : its.toArray ++ jts.toArray = (its ++ jts).toArray := by simp
  rw [ea]
  refine ⟨.ref s.heap.objs.size, _, I.laid (t' := s.toks) (o := .lst (xs ++ zs)) (fun _ _ z => Heap.get?_push_of_some _ z) (Nat.le_refl _) ?_, rfl, q _ (I.hok.fresh (Nat.le_refl _))⟩
  exact ⟨by rw [List.length_append]; exact hz, its ++ jts, 0, r.append r2, Heap.get?_push_size _ rfl⟩
def rAddA (K : PySem.W.Frag) : R2 := fun x y H Q => (rI0 fun i j => .int (i + j)) x y H Q ∨ (∃ i j, x = .str i ∧ y = .str j ∧ i.length + j.length ≤ sizeLine ∧ Q (.str (i ++ j)) H) ∨ rCatR x y H Q ∨ rCatA K x y H Q
theorem op_addA {X : Cx} : OpR X (binaryOp .Add) (rAddA X.K) := OpR.or op_add (OpR.or op_add_str (OpR.or op_catR op_catA))
theorem v_add : OpV K W oAdd (rAddA K) := by
  intro B F H e σ v w x y Q C rv rw_ h
  unfold oAdd at h
  split at h
  · exact .inl ⟨_, _, rv.int, rw_.int, h.ok rfl C (VR.int _)⟩
  · rename_i a b
    by_cases hz : a.length + b.length ≤ sizeLine
    · rw [if_pos hz] at h
      exact .inr (.inl ⟨_, _, rv.str, rw_.str, hz, h.ok rfl C (VR.str _)⟩)
    · rw [if_neg hz] at h
      exact h.elim
  · rename_i a b
    by_cases hz : a.length + b.length ≤ sizeLine
    · rw [if_pos hz] at h
      obtain ⟨p, us, rfl, h1, h2⟩ := rv.lst C.rel.sub
      obtain ⟨q, ws, rfl, h3, h4⟩ := rw_.lst C.rel.sub
      refine .inr (.inr (.inl ⟨p, q, us, ws, rfl, rfl, h1, h3, by rw [← h2.length, ← h4.length]; exact hz, fun t ht => ?_⟩))
      obtain ⟨C3, n3, f3, m3⟩ := C.grow (o := .lst (us ++ ws)) ht
      exact h.ok (r := RV.tmp (.lst (a ++ b))) rfl C3 ⟨t, rfl, f3, ⟨_, upd_same, h2.append h4⟩, n3, m3⟩
    · rw [if_neg hz] at h
      exact h.elim
  · rename_i a b
    by_cases hz : a.length + b.length ≤ sizeLine
    · rw [if_pos hz] at h
      obtain ⟨p, us, rfl, h1, h2⟩ := rv.tup C.rel.sub
      obtain ⟨q, ws, rfl, h3, h4⟩ := rw_.tup C.rel.sub
      refine .inr (.inr (.inr ⟨p, q, us, ws, rfl, rfl, h1, h3, by rw [← h2.length, ← h4.length]; exact hz, fun z => ?_, fun _ z => ?_, fun _ _ t ht => ?_⟩))
      · have ea : a = [] := h2.ne.mp z
        subst ea
        rw [List.nil_append] at h
        refine h.ok rfl C ?_
        rcases rw_ with rw_ | ⟨t, _, z⟩
        · exact rw_
        · exact z.elim
      · have eb : b = [] := h4.ne.mp z
        subst eb
        rw [List.append_nil] at h
        refine h.ok rfl C ?_
        rcases rv with rv | ⟨t, _, z⟩
        · exact rv
        · exact z.elim
      · obtain ⟨C3, s3, e3⟩ := C.growF (o := .tup (us ++ ws)) ht
        exact h.ok rfl C3 (VR.tup (SqT.of e3) ((h2.append h4).mono s3))
    · rw [if_neg hz] at h
      exact h.elim
  · exact h.elim
end
end Pu
set_option Elab.async false
set_option linter.all false
set_option maxRecDepth 100000
namespace Pu
open PySem PySem.Spec PyProof.Rows L2
mutual
theorem canLay_of : ∀ v : Val, isD v = true → PyData.canLay0 (toP v) = true
  | .non, _ => rfl
  | .bl _, _ => rfl
  | .int _, _ => rfl
  | .str x, h => by simpa [isD, toP, PyData.canLay0] using h
  | .tup xs, h => by simpa [toP, PyData.canLay0] using canLays_of xs (by simpa [isD] using h)
  | .lst xs, h => by simpa [toP, PyData.canLay0] using canLays_of xs (by simpa [isD] using h)
  | .ty _, h => by simp [isD] at h
  | .glo _, h => by simp [isD] at h
  | .obj _ _ _, h => by simp [isD] at h
  | .dct _ _, h => by simp [isD] at h
theorem canLays_of : ∀ xs : List Val, isDs xs = true → PyData.canLayAll0 (toPs xs) = true
  | [], _ => rfl
  | x :: xs, h => by
    have h' : isD x = true ∧ isDs xs = true := by simpa [isDs] using h
    simp [toPs, PyData.canLayAll0, canLay_of x h'.1, canLays_of xs h'.2]
end
mutual
theorem depth_of : ∀ v : Val, (toP v).depth = dep v
  | .non => by simp [toP, PyData.depth, dep]
  | .bl _ => by simp [toP, PyData.depth, dep]
  | .int _ => by simp [toP, PyData.depth, dep]
  | .str x => by simp [toP, PyData.depth, dep]
  | .tup xs => by simp [toP, PyData.depth, dep, depths_of xs]
  | .lst xs => by simp [toP, PyData.depth, dep, depths_of xs]
  | .ty _ => by simp [toP, PyData.depth, dep]
  | .glo _ => by simp [toP, PyData.depth, dep]
  | .obj _ _ _ => by simp [toP, PyData.depth, dep]
  | .dct _ _ => by simp [toP, PyData.depth, PyData.depthKv, dep]
theorem depths_of : ∀ xs : List Val, PyData.depthAll (toPs xs) = deps xs
  | [] => by simp [toPs, PyData.depthAll, deps]
  | x :: xs => by simp [toPs, PyData.depthAll, deps, depth_of x, depths_of xs]
end
theorem shaped_of {v : Val} (h : isD v = true) (d : dep v ≤ 60) : SeqAt.shaped (toP v) = true := by
  unfold SeqAt.shaped
  rw [canLay_of v h, depth_of v]
  simp; omega
section
variable {K : PySem.W.Frag} {W : WX} {B : Bg} {F H : Hp} {e : Ev} {σ : Sig}
mutual
theorem VR.dp (s : Same F H) : ∀ (v : Val) (u : V), VR K F v u → isD v = true → Dp K H u (toP v)
  | .non, _, h, _ => by cases h; exact .non
  | .bl b, _, h, _ => by cases h; exact .bl b
  | .int i, _, h, _ => by cases h; exact .int i
  | .str x, _, h, _ => by cases h; exact .str x
  | .tup xs, _, h, d => by
    cases h with
    | tup h1 h2 => exact .tup (sqT_mono s h1) (VRs.dp s xs _ h2 (by simpa [isD] using d))
  | .lst xs, _, h, d => by
    cases h with
    | lst h1 h2 => exact .lst (.inl (rd_mono s h1)) (VRs.dp s xs _ h2 (by simpa [isD] using d))
  | .ty _, _, _, d => by simp [isD] at d
  | .glo _, _, _, d => by simp [isD] at d
  | .obj _ _ _, _, _, d => by simp [isD] at d
  | .dct _ _, _, _, d => by simp [isD] at d
theorem VRs.dp (s : Same F H) : ∀ (xs : List Val) (us : List V), VRs K F xs us → isDs xs = true → DpAll K H us (toPs xs)
  | [], _, h, _ => by cases h; exact .nil
  | x :: xs, _, h, d => by
    have h' : isD x = true ∧ isDs xs = true := by simpa [isDs] using d
    cases h with
    | cons h1 h2 => exact .cons (VR.dp s x _ h1 h'.1) (VRs.dp s xs _ h2 h'.2)
end
theorem RdR.dp {v : Val} {u : V} (s : Same F H) (h : RdR K F H v u) (d : isD v = true) : Dp K H u (toP v) := by
  rcases h with h | ⟨t, e, h⟩
  · exact VR.dp s v u h d
  · subst e
    cases v with
    | lst xs =>
      obtain ⟨us, h1, h2⟩ := h
      exact .lst (.inl (.inl h1)) (VRs.dp s xs _ h2 (by simpa [isD] using d))
    | obj _ _ _ => simp [isD] at d
    | dct _ _ => simp [isD] at d
    | _ => exact h.elim
def rEqA (K : PySem.W.Frag) : R2 := fun x y H Q => rEqD K x y H Q ∨ rEq x y H Q
def rNeA (K : PySem.W.Frag) : R2 := fun x y H Q => rNeD K x y H Q ∨ rNe x y H Q
theorem op_eqA {X : Cx} (hu : X.A.units + 64 < cLine) : OpR X (compareOp .Eq) (rEqA X.K) := OpR.or (op_eqD hu) op_eq
theorem op_neA {X : Cx} (hu : X.A.units + 64 < cLine) : OpR X (compareOp .NotEq) (rNeA X.K) := OpR.or (op_neD hu) op_ne
theorem str_dec {a b : Str} : decide (V.str a = V.str b) = decide (a = b) := by
  by_cases h : a = b
  · rw [decide_eq_true h, decide_eq_true (by rw [h])]
  · rw [decide_eq_false h, decide_eq_false (fun z => h (by cases z; rfl))]
theorem v_eq : OpV K W oEq (rEqA K) := by
  intro B F H e σ v w x y Q C rv rw_ h
  unfold oEq at h
  split at h
  · rename_i a b
    refine .inr ?_
    rw [rv.str, rw_.str]
    exact ⟨rfl, h.ok rfl C (by rw [str_dec]; exact VR.bl _)⟩
  · by_cases hh : (dOk v && dOk w) = true
    · rw [if_pos hh] at h
      simp only [dOk, Bool.and_eq_true, decide_eq_true_eq] at hh
      exact .inl ⟨toP v, toP w, rv.dp C.rel.sub hh.1.1, rw_.dp C.rel.sub hh.2.1, shaped_of hh.1.1 hh.1.2, shaped_of hh.2.1 hh.2.2, h.ok rfl C (VR.bl _)⟩
    · rw [if_neg hh] at h
      exact h.elim
theorem v_ne : OpV K W oNe (rNeA K) := by
  intro B F H e σ v w x y Q C rv rw_ h
  unfold oNe at h
  split at h
  · rename_i a b
    refine .inr ?_
    rw [rv.str, rw_.str]
    exact ⟨rfl, h.ok rfl C (by rw [str_dec]; exact VR.bl _)⟩
  · by_cases hh : (dOk v && dOk w) = true
    · rw [if_pos hh] at h
      simp only [dOk, Bool.and_eq_true, decide_eq_true_eq] at hh
      exact .inl ⟨toP v, toP w, rv.dp C.rel.sub hh.1.1, rw_.dp C.rel.sub hh.2.1, shaped_of hh.1.1 hh.1.2, shaped_of hh.2.1 hh.2.2, h.ok rfl C (VR.bl _)⟩
    · rw [if_neg hh] at h
      exact h.elim
theorem b_eq : ∀ v w e r' e', oEq v w e = .ok r' e' → ∃ b, r' = .dat (.bl b) := by
  intro v w e r' e' h
  unfold oEq at h
  split at h
  · cases h; exact ⟨_, rfl⟩
  · split at h
    · unfold mV M.ret at h; cases h; exact ⟨_, rfl⟩
    · cases h
theorem b_ne : ∀ v w e r' e', oNe v w e = .ok r' e' → ∃ b, r' = .dat (.bl b) := by
  intro v w e r' e' h
  unfold oNe at h
  split at h
  · cases h; exact ⟨_, rfl⟩
  · split at h
    · unfold mV M.ret at h; cases h; exact ⟨_, rfl⟩
    · cases h
def oIsN (x y : Val) : M RV := if isNon y then mV (.bl (!isNon x)) else M.bad
theorem isNon_of {v : Val} {x : V} (r : RdR K F H v x) : decide (x = .non) = isNon v := by
  rcases r with r | ⟨t, e, _⟩
  · cases r <;> simp [isNon]
  · rename_i h
    subst e
    cases v <;> first | exact h.elim | rfl
theorem v_is : OpV K W oIs (fun x y H Q => y = .non ∧ Q (.bl (decide (x = .non))) H) := by
  intro B F H e σ v w x y Q C rv rw_ h
  unfold oIs at h
  cases w with
  | non =>
    have h : At K W (RR K) B (mV (.bl (isNon v))) F e σ H Q := h
    exact ⟨rw_.non, h.ok rfl C (by rw [isNon_of rv]; exact VR.bl _)⟩
  | _ => exact h.elim
theorem v_isN : OpV K W oIsN (fun x y H Q => y = .non ∧ Q (.bl (!decide (x = .non))) H) := by
  intro B F H e σ v w x y Q C rv rw_ h
  unfold oIsN at h
  cases w with
  | non =>
    have h : At K W (RR K) B (mV (.bl (!isNon v))) F e σ H Q := h
    exact ⟨rw_.non, h.ok rfl C (by rw [isNon_of rv]; exact VR.bl _)⟩
  | _ => exact h.elim
theorem b_is : ∀ v w e r' e', oIs v w e = .ok r' e' → ∃ b, r' = .dat (.bl b) := by
  intro v w e r' e' h
  unfold oIs at h
  split at h
  · unfold mV M.ret at h; cases h; exact ⟨_, rfl⟩
  · cases h
theorem b_isN : ∀ v w e r' e', oIsN v w e = .ok r' e' → ∃ b, r' = .dat (.bl b) := by
  intro v w e r' e' h
  unfold oIsN at h
  split at h
  · unfold mV M.ret at h; cases h; exact ⟨_, rfl⟩
  · cases h
def items? : Val → Option (List Val)
  | .lst xs => some xs
  | .tup xs => some xs
  | _ => none
theorem flat_of {v : Val} {u : V} (r : VR K F v u) (f : flat v = true) : flatV u = true := by cases r <;> first | rfl | (exfalso; simp [flat] at f; done)
theorem eqV_of {v w : Val} {x y : V} (r : VR K F v x) (q : VR K F w y) (f : flat v = true) (g : flat w = true) : eqV x y = veq v w := by
  cases r <;> cases q <;> first | rfl | (exfalso; simp [flat] at f; done) | (exfalso; simp [flat] at g; done)
theorem flats_of {vs : List Val} {us : List V} (r : VRs K F vs us) (f : vs.all flat = true) : us.all flatV = true := by
  induction vs generalizing us with
  | nil => cases r; rfl
  | cons v vs ih =>
    cases r with
    | cons a b =>
      simp only [List.all_cons, Bool.and_eq_true] at f ⊢
      exact ⟨flat_of a f.1, ih b f.2⟩
theorem inV_of {v : Val} {x : V} (r : VR K F v x) (g : flat v = true) {vs : List Val} {us : List V} (q : VRs K F vs us) (f : vs.all flat = true) : inV x us = inF v vs := by
  unfold inV inF
  induction vs generalizing us with
  | nil => cases q; rfl
  | cons w vs ih =>
    cases q with
    | cons a b =>
      simp only [List.all_cons, Bool.and_eq_true] at f
      rw [List.any_cons, List.any_cons, eqV_of a r f.1 g, ih b f.2]
theorem v_in (n : Bool) : OpV K W (oInG n) (rIn K n) := by
  intro B F H e σ v w x y Q C rv rw_ h
  unfold oInG at h
  split at h
  · rename_i xs
    by_cases hh : (Pu.flat v && xs.all Pu.flat) = true
    · rw [if_pos hh] at h
      rw [Bool.and_eq_true] at hh
      obtain ⟨p, us, rfl, h1, h2⟩ := rw_.lst C.rel.sub
      have q := rv.flat hh.1
      refine ⟨p, us, rfl, .inl (.inl h1), flat_of q hh.1, flats_of h2 hh.2, h.ok rfl C ?_⟩
      rw [inV_of q hh.1 h2 hh.2]
      exact VR.bl _
    · rw [if_neg hh] at h
      exact h.elim
  · rename_i xs
    by_cases hh : (Pu.flat v && xs.all Pu.flat) = true
    · rw [if_pos hh] at h
      rw [Bool.and_eq_true] at hh
      obtain ⟨p, us, rfl, h1, h2⟩ := rw_.tup C.rel.sub
      have q := rv.flat hh.1
      refine ⟨p, us, rfl, .inr h1, flat_of q hh.1, flats_of h2 hh.2, h.ok rfl C ?_⟩
      rw [inV_of q hh.1 h2 hh.2]
      exact VR.bl _
    · rw [if_neg hh] at h
      exact h.elim
  · exact h.elim
theorem b_in {n : Bool} : ∀ v w e r' e', oInG n v w e = .ok r' e' → ∃ b, r' = .dat (.bl b) := by
  intro v w e r' e' h
  unfold oInG at h
  split at h
  · split at h
    · unfold mV M.ret at h; cases h; exact ⟨_, rfl⟩
    · cases h
  · split at h
    · unfold mV M.ret at h; cases h; exact ⟨_, rfl⟩
    · cases h
  · cases h
theorem atI_of {vs : List Val} {us : List V} (r : VRs K F vs us) {i : Int} {v : Val} (h : atI vs i = some v) : ∃ u, atI us i = some u ∧ VR K F v u := by
  unfold atI at h ⊢
  rw [← r.length]
  cases q : ixN vs.length i with
  | none => rw [q] at h; cases h
  | some j =>
    rw [q] at h
    exact r.get h
theorem v_ix : OpV K W oIx (rIx K) := by
  intro B F H e σ v w x y Q C rv rw_ h
  unfold oIx at h
  split at h
  · rename_i xs i
    split at h
    · rename_i z hz
      obtain ⟨p, us, rfl, h1, h2⟩ := rv.lst C.rel.sub
      obtain ⟨u, h3, h4⟩ := atI_of h2 hz
      exact .inl ⟨p, us, i, u, rfl, rw_.int, .inl h1, h3, h.ok rfl C h4⟩
    · exact h.elim
  · rename_i xs i
    split at h
    · rename_i z hz
      obtain ⟨p, us, rfl, h1, h2⟩ := rv.tup C.rel.sub
      obtain ⟨u, h3, h4⟩ := atI_of h2 hz
      exact .inr (.inl ⟨p, us, i, u, rfl, rw_.int, h1, h3, h.ok rfl C h4⟩)
    · exact h.elim
  · rename_i z i
    by_cases hz : z.length ≤ sizeLine
    · rw [if_pos hz] at h
      split at h
      · rename_i c hc
        exact .inr (.inr ⟨z, i, c, rv.str, rw_.int, hz, hc, h.ok rfl C (VR.str _)⟩)
      · exact h.elim
    · rw [if_neg hz] at h
      exact h.elim
  · exact h.elim
end
section
variable {X : Cx} {W : WX} {a b : Expr} {ma mb : M RV} {pos : Pos}
theorem se_ix (ha : SE X W a ma) (hb : SE X W b mb) (hs : PlainIx b := by exact fun _ _ => rfl) : SE X W (.Subscript a b pos) (mBin oIx ma mb) :=
  PE.imp (pe_ix ix_seq ha hb hs) fun _ _ _ h => two v_ix h
end
end Pu
set_option Elab.async false
set_option linter.all false
set_option maxRecDepth 100000
namespace Pu
open PySem PySem.Spec PyProof.Rows L2
theorem CallR.or {X : Cx} {f : Value} {r r' : List V → Hp → VK → Prop} (h : CallR X f r) (h' : CallR X f r') : CallR X f (fun xs H Q => r xs H Q ∨ r' xs H Q) := by
  intro pins s σ H xs us Q I rs q
  rcases q with q | q
  · exact h pins s σ H xs us Q I rs q
  · exact h' pins s σ H xs us Q I rs q
def FnV (K : PySem.W.Frag) (W : WX) (f : List Val → M RV) (r : List V → Hp → VK → Prop) : Prop := ∀ {B : Bg} {F H : Hp} {e : Ev} {σ : Sig} {vs : List Val} {us : List V} {Q : VK}, Cur K B F H e σ → RdRs K F H vs us → At K W (RR K) B (f vs) F e σ H Q → r us H Q
section
variable {X : Cx} {W : WX} {a : Expr} {es : List Expr} {ms : M (List RV)} {x : Str} {p pos : Pos} {f : List Val → M RV} {r : List V → Hp → VK → Prop} {id T : String}
theorem cb {K : PySem.W.Frag} (hv : FnV K W f r) {σ : Sig} {H : Hp} {Q : VK} (h : tE K W (mCB f ms) σ H Q) : tCB r (tA K W ms) σ H Q := by
  obtain ⟨np, F, e, R, h⟩ := h
  refine use (Cur.refl R) h fun rs e1 F1 H1 us C1 q1 _ h1 => ?_
  obtain ⟨vs, rv, h2⟩ := At.rds C1.rel q1 h1
  exact hv C1 rv h2
theorem se_callB (hc : CallR X (.builtin id) r) (hv : FnV X.K W f r) (gl : Gl X x) (fr : X.mg x = none) (ha : SA X W (a :: es) ms) (hb : bootBuiltins x = some (.builtin id) := by decide +kernel) (hn : x ≠ "__name__" := by decide) (hd : (x == ("__debug__" : Str)) = false := by decide)
    (h1 : starEach (a :: es) X.env = (false, eval a X.env) :: starEach es X.env := by rfl) (h2 : (backTo pos (starEach es X.env)).any (·.1) = false := by rfl) : SE X W (.Call (.Name x p) (a :: es) [] pos) (mCB f ms) :=
  PE.imp (pe_callB hc gl fr hb ha hn hd h1 h2) fun _ _ _ h => cb hv h
theorem se_callT (hc : CallR X (.type T) r) (hv : FnV X.K W f r) (gl : Gl X x) (fr : X.mg x = none) (ha : SA X W (a :: es) ms) (hb : bootBuiltins x = some (.type T) := by decide +kernel) (hn : x ≠ "__name__" := by decide) (hd : (x == ("__debug__" : Str)) = false := by decide)
    (h1 : starEach (a :: es) X.env = (false, eval a X.env) :: starEach es X.env := by rfl) (h2 : (backTo pos (starEach es X.env)).any (·.1) = false := by rfl) : SE X W (.Call (.Name x p) (a :: es) [] pos) (mCB f ms) :=
  PE.imp (pe_callTy hc gl fr hb ha hn hd h1 h2) fun _ _ _ h => cb hv h
end
def fSum (vs : List Val) : M RV := match vs with
  | [.lst xs] => match ints? xs with
    | some is => mV (.int is.sum)
    | _ => M.bad
  | _ => M.bad
def fAny (vs : List Val) : M RV := match vs with
  | [.lst xs] => match bls? xs with
    | some bs => mV (.bl (bs.any id))
    | _ => M.bad
  | _ => M.bad
def fTup (vs : List Val) : M RV := match vs with
  | [.lst xs] => mV (.tup xs)
  | [.tup xs] => mV (.tup xs)
  | _ => M.bad
def fLst (vs : List Val) : M RV := match vs with
  | [.lst xs] => M.ret (.tmp (.lst xs))
  | [.tup xs] => M.ret (.tmp (.lst xs))
  | _ => M.bad
def fBool (vs : List Val) : M RV := match vs with
  | [.int i] => mV (.bl (i != 0))
  | [.bl b] => mV (.bl b)
  | _ => M.bad
section
variable {K : PySem.W.Frag} {W : WX}
theorem RdRs.two {F H : Hp} {v w : Val} {us : List V} (h : RdRs K F H [v, w] us) : ∃ u z, us = [u, z] ∧ RdR K F H v u ∧ RdR K F H w z := by
  cases h with
  | cons a b => cases b with
    | cons c d => cases d; exact ⟨_, _, rfl, a, c⟩
theorem ints_of : ∀ {xs : List Val} {is : List Int} {F : Hp} {us : List V}, ints? xs = some is → VRs K F xs us → us = is.map V.int
  | [], is, F, us, h, r => by
    cases r
    cases h
    rfl
  | v :: xs, is, F, us, h, r => by
    cases v with
    | int i =>
      cases q : ints? xs with
      | none => simp only [ints?, q] at h; cases h
      | some js =>
        simp only [ints?, q] at h
        cases h
        cases r with
        | cons a b =>
          cases a
          rw [ints_of q b]
          rfl
    | _ => cases h
theorem bls_of : ∀ {xs : List Val} {is : List Bool} {F : Hp} {us : List V}, bls? xs = some is → VRs K F xs us → us = is.map V.bl
  | [], is, F, us, h, r => by
    cases r
    cases h
    rfl
  | v :: xs, is, F, us, h, r => by
    cases v with
    | bl i =>
      cases q : bls? xs with
      | none => simp only [bls?, q] at h; cases h
      | some js =>
        simp only [bls?, q] at h
        cases h
        cases r with
        | cons a b =>
          cases a
          rw [bls_of q b]
          rfl
    | _ => cases h
theorem maxL_eq : ∀ (i : Int) (is : List Int) (m : Int), m ∈ i :: is → (∀ y, y ∈ i :: is → y ≤ m) → maxL (i :: is) = m
  | i, [], m, h, g => by
    have e : m = i := by simpa using h
    rw [e]; rfl
  | i, j :: r, m, h, g => by
    have e : maxL (i :: j :: r) = max i (maxL (j :: r)) := rfl
    rw [e]
    have up : ∀ (k : Int) (l : List Int), maxL (k :: l) ∈ k :: l := by
      intro k l
      induction l generalizing k with
      | nil => simp [maxL]
      | cons a l ih =>
        have e : maxL (k :: a :: l) = max k (maxL (a :: l)) := rfl
        rw [e]
        have q := ih a
        rcases Int.le_total k (maxL (a :: l)) with z | z
        · rw [Int.max_eq_right z]; exact List.mem_cons_of_mem _ q
        · rw [Int.max_eq_left z]; exact List.mem_cons_self
    rcases List.mem_cons.mp h with h | h
    · subst h
      exact Int.max_eq_left (g _ (List.mem_cons_of_mem _ (up j r)))
    · rw [maxL_eq j r m h fun y hy => g y (List.mem_cons_of_mem _ hy)]
      exact Int.max_eq_right (g i List.mem_cons_self)
theorem minL_eq : ∀ (i : Int) (is : List Int) (m : Int), m ∈ i :: is → (∀ y, y ∈ i :: is → m ≤ y) → minL (i :: is) = m
  | i, [], m, h, g => by
    have e : m = i := by simpa using h
    rw [e]; rfl
  | i, j :: r, m, h, g => by
    have e : minL (i :: j :: r) = min i (minL (j :: r)) := rfl
    rw [e]
    have up : ∀ (k : Int) (l : List Int), minL (k :: l) ∈ k :: l := by
      intro k l
      induction l generalizing k with
      | nil => simp [minL]
      | cons a l ih =>
        have e : minL (k :: a :: l) = min k (minL (a :: l)) := rfl
        rw [e]
        have q := ih a
        rcases Int.le_total k (minL (a :: l)) with z | z
        · rw [Int.min_eq_left z]; exact List.mem_cons_self
        · rw [Int.min_eq_right z]; exact List.mem_cons_of_mem _ q
    rcases List.mem_cons.mp h with h | h
    · subst h
      exact Int.min_eq_left (g _ (List.mem_cons_of_mem _ (up j r)))
    · rw [minL_eq j r m h fun y hy => g y (List.mem_cons_of_mem _ hy)]
      exact Int.min_eq_right (g i List.mem_cons_self)
abbrev rLenA (K : PySem.W.Frag) : List V → Hp → VK → Prop := fun xs H Q => (∃ p ys, xs = [.ref p] ∧ (SqL K H p ys ∨ SqT K H p ys) ∧ Q (.int ys.length) H) ∨ (∃ z, xs = [.str z] ∧ z.length ≤ sizeLine ∧ Q (.int z.length) H)
theorem c_len {X : Cx} : CallR X (.builtin "len") (rLenA X.K) := CallR.or call_len_seq call_len_str
theorem v_len : FnV K W fLen (rLenA K) := by
  intro B F H e σ vs us Q C r h
  unfold fLen at h
  split at h
  · obtain ⟨u, rfl, q⟩ := r.one
    obtain ⟨a, us, rfl, h1, h2⟩ := q.lst C.rel.sub
    exact .inl ⟨a, us, rfl, .inl (.inl h1), h.ok rfl C (by rw [← h2.length]; exact VR.int _)⟩
  · obtain ⟨u, rfl, q⟩ := r.one
    obtain ⟨a, us, rfl, h1, h2⟩ := q.tup C.rel.sub
    exact .inl ⟨a, us, rfl, .inr h1, h.ok rfl C (by rw [← h2.length]; exact VR.int _)⟩
  · rename_i x
    obtain ⟨u, rfl, q⟩ := r.one
    by_cases hz : x.length ≤ sizeLine
    · rw [if_pos hz] at h
      exact .inr ⟨x, by rw [q.str], hz, h.ok rfl C (VR.int _)⟩
    · rw [if_neg hz] at h
      exact h.elim
  · exact h.elim
theorem v_abs : FnV K W fAbs (fun xs H Q => ∃ i, xs = [.int i] ∧ Q (.int (if i < 0 then -i else i)) H) := by
  intro B F H e σ vs us Q C r h
  unfold fAbs at h
  split at h
  · obtain ⟨u, rfl, q⟩ := r.one
    exact ⟨_, by rw [q.int], h.ok rfl C (VR.int _)⟩
  · exact h.elim
theorem v_int : FnV K W fInt (fun xs H Q => (∃ i, xs = [.int i] ∧ Q (.int i) H) ∨ ∃ k, xs = [.bl k] ∧ Q (.int (if k then 1 else 0)) H) := by
  intro B F H e σ vs us Q C r h
  unfold fInt at h
  split at h
  · obtain ⟨u, rfl, q⟩ := r.one
    exact .inl ⟨_, by rw [q.int], h.ok rfl C (VR.int _)⟩
  · obtain ⟨u, rfl, q⟩ := r.one
    exact .inr ⟨_, by rw [q.bl], h.ok rfl C (VR.int _)⟩
  · exact h.elim
theorem v_bool : FnV K W fBool (fun xs H Q => (∃ i, xs = [.int i] ∧ Q (.bl (i != 0)) H) ∨ ∃ k, xs = [.bl k] ∧ Q (.bl k) H) := by
  intro B F H e σ vs us Q C r h
  unfold fBool at h
  split at h
  · obtain ⟨u, rfl, q⟩ := r.one
    exact .inl ⟨_, by rw [q.int], h.ok rfl C (VR.bl _)⟩
  · obtain ⟨u, rfl, q⟩ := r.one
    exact .inr ⟨_, by rw [q.bl], h.ok rfl C (VR.bl _)⟩
  · exact h.elim
theorem v_max2 : FnV K W fMax2 (fun xs H Q => ∃ i j, xs = [.int i, .int j] ∧ Q (.int (if j > i then j else i)) H) := by
  intro B F H e σ vs us Q C r h
  unfold fMax2 at h
  split at h
  · obtain ⟨u, z, rfl, q1, q2⟩ := r.two
    exact ⟨_, _, by rw [q1.int, q2.int], h.ok rfl C (VR.int _)⟩
  · exact h.elim
theorem v_min2 : FnV K W fMin2 (fun xs H Q => ∃ i j, xs = [.int i, .int j] ∧ Q (.int (if j < i then j else i)) H) := by
  intro B F H e σ vs us Q C r h
  unfold fMin2 at h
  split at h
  · obtain ⟨u, z, rfl, q1, q2⟩ := r.two
    exact ⟨_, _, by rw [q1.int, q2.int], h.ok rfl C (VR.int _)⟩
  · exact h.elim
theorem v_maxL : FnV K W fMaxL (rMax K) := by
  intro B F H e σ vs us Q C r h
  unfold fMaxL at h
  split at h
  · split at h
    · rename_i xs i is hq
      obtain ⟨u, rfl, q⟩ := r.one
      obtain ⟨a, us, rfl, h1, h2⟩ := q.lst C.rel.sub
      refine ⟨a, i :: is, rfl, .inl (by rw [← ints_of hq h2]; exact h1), by simp, fun m h3 h4 => ?_⟩
      rw [← maxL_eq i is m h3 h4]
      exact h.ok rfl C (VR.int _)
    · exact h.elim
  · exact h.elim
theorem v_minL : FnV K W fMinL (rMin K) := by
  intro B F H e σ vs us Q C r h
  unfold fMinL at h
  split at h
  · split at h
    · rename_i xs i is hq
      obtain ⟨u, rfl, q⟩ := r.one
      obtain ⟨a, us, rfl, h1, h2⟩ := q.lst C.rel.sub
      refine ⟨a, i :: is, rfl, .inl (by rw [← ints_of hq h2]; exact h1), by simp, fun m h3 h4 => ?_⟩
      rw [← minL_eq i is m h3 h4]
      exact h.ok rfl C (VR.int _)
    · exact h.elim
  · exact h.elim
theorem v_sum : FnV K W fSum (rSum K) := by
  intro B F H e σ vs us Q C r h
  unfold fSum at h
  split at h
  · split at h
    · rename_i xs is hq
      obtain ⟨u, rfl, q⟩ := r.one
      obtain ⟨a, us, rfl, h1, h2⟩ := q.lst C.rel.sub
      exact ⟨a, is, rfl, .inl (by rw [← ints_of hq h2]; exact h1), h.ok rfl C (VR.int _)⟩
    · exact h.elim
  · exact h.elim
theorem v_all : FnV K W fAll (rAll K) := by
  intro B F H e σ vs us Q C r h
  unfold fAll at h
  split at h
  · split at h
    · rename_i xs is hq
      obtain ⟨u, rfl, q⟩ := r.one
      obtain ⟨a, us, rfl, h1, h2⟩ := q.lst C.rel.sub
      exact ⟨a, is, rfl, .inl (by rw [← bls_of hq h2]; exact h1), h.ok rfl C (VR.bl _)⟩
    · exact h.elim
  · exact h.elim
theorem v_any : FnV K W fAny (rAny K) := by
  intro B F H e σ vs us Q C r h
  unfold fAny at h
  split at h
  · split at h
    · rename_i xs is hq
      obtain ⟨u, rfl, q⟩ := r.one
      obtain ⟨a, us, rfl, h1, h2⟩ := q.lst C.rel.sub
      exact ⟨a, is, rfl, .inl (by rw [← bls_of hq h2]; exact h1), h.ok rfl C (VR.bl _)⟩
    · exact h.elim
  · exact h.elim
theorem v_tup : FnV K W fTup (fun xs H Q => ∃ p ys, xs = [.ref p] ∧ ((SqL K H p ys ∧ ∀ l, H l = none → Q (.ref l) (upd H l (.tup ys))) ∨ (SqT K H p ys ∧ Q (.ref p) H))) := by
  intro B F H e σ vs us Q C r h
  unfold fTup at h
  split at h
  · obtain ⟨u, rfl, q⟩ := r.one
    obtain ⟨a, us, rfl, h1, h2⟩ := q.lst C.rel.sub
    refine ⟨a, us, rfl, .inl ⟨.inl h1, fun l hl => ?_⟩⟩
    obtain ⟨C3, s3, e3⟩ := C.growF (o := .tup us) hl
    exact h.ok rfl C3 (VR.tup (SqT.of e3) (h2.mono s3))
  · obtain ⟨u, rfl, q⟩ := r.one
    have q' := q
    obtain ⟨a, us, rfl, h1, h2⟩ := q.tup C.rel.sub
    refine ⟨a, us, rfl, .inr ⟨h1, h.ok rfl C ?_⟩⟩
    rcases q' with z | ⟨_, _, z⟩
    · exact z
    · exact z.elim
  · exact h.elim
theorem v_lst : FnV K W fLst (fun xs H Q => ∃ p ys, xs = [.ref p] ∧ (SqL K H p ys ∨ SqT K H p ys) ∧ ∀ l, H l = none → Q (.ref l) (upd H l (.lst ys))) := by
  intro B F H e σ vs us Q C r h
  unfold fLst at h
  split at h
  · rename_i xs
    obtain ⟨u, rfl, q⟩ := r.one
    obtain ⟨a, us, rfl, h1, h2⟩ := q.lst C.rel.sub
    refine ⟨a, us, rfl, .inl (.inl h1), fun l hl => ?_⟩
    obtain ⟨C3, n3, f3, m3⟩ := C.grow (o := .lst us) hl
    exact h.ok (r := RV.tmp (.lst xs)) rfl C3 ⟨l, rfl, f3, ⟨us, upd_same, h2⟩, n3, m3⟩
  · rename_i xs
    obtain ⟨u, rfl, q⟩ := r.one
    obtain ⟨a, us, rfl, h1, h2⟩ := q.tup C.rel.sub
    refine ⟨a, us, rfl, .inr h1, fun l hl => ?_⟩
    obtain ⟨C3, n3, f3, m3⟩ := C.grow (o := .lst us) hl
    exact h.ok (r := RV.tmp (.lst xs)) rfl C3 ⟨l, rfl, f3, ⟨us, upd_same, h2⟩, n3, m3⟩
  · exact h.elim
end
theorem int_small {i : Int} (h : -1606938044258990275541962092341162602522202993782792835301376 < i ∧ i < 1606938044258990275541962092341162602522202993782792835301376) : i.natAbs.log2 < 200 :=
  PySem.Flt.log2_lt_of (by decide) (show i.natAbs < 2 ^ 200 from natAbs_lt (by simpa using h.1) (by simpa using h.2))
mutual
theorem show_ok : ∀ v : Val, isD v = true → iOk v = true → (toP v).showable = true ∧ (toP v).hasDict = false ∧ (toP v).shown.length ≤ rsz v
  | .non, _, _ => ⟨by simp [toP, PyData.showable], by simp [toP, PyData.hasDict], by simp only [toP, PyData.shown, rsz]; decide⟩
  | .bl b, _, _ => ⟨by simp [toP, PyData.showable], by simp [toP, PyData.hasDict], by simp only [toP, PyData.shown, rsz]; cases b <;> decide⟩
  | .int i, _, h => by
    have h' : i.natAbs.log2 < 200 := int_small (by simpa [iOk] using h)
    refine ⟨by simp only [toP, PyData.showable, decide_eq_true_eq]; omega, by simp [toP, PyData.hasDict], ?_⟩
    simp only [toP, PyData.shown, rsz]
    have q := int_text_length_le (a := i) (k := 200) (by decide) h'
    have e : (Str.ofString (toString i)).length = (toString i).length := PySem.ofString_length _
    show (Str.ofString (toString i)).length ≤ 202
    omega
  | .str x, d, _ => by
    refine ⟨by simp [toP, PyData.showable], by simp [toP, PyData.hasDict], ?_⟩
    simp only [toP, PyData.shown, rsz]
    refine StrLaws.reprText_len x fun c hc => ?_
    have d' : x.cps.all (· < 0x110000) = true := d
    rw [Array.all_eq_true_iff_forall_mem] at d'
    have q := d' c (Array.mem_toList_iff.mp hc)
    simp at q
    omega
  | .tup xs, d, h => by
    obtain ⟨a, b, c, e⟩ := shows_ok xs (by simpa [isD] using d) (by simpa [iOk] using h)
    refine ⟨by simpa [toP, PyData.showable] using a, by simpa [toP, PyData.hasDict] using b, ?_⟩
    simp only [toP, PyData.shown, rsz]
    have q := tupleText_len_le (PyData.shownAll (toPs xs))
    omega
  | .lst xs, d, h => by
    obtain ⟨a, b, c, e⟩ := shows_ok xs (by simpa [isD] using d) (by simpa [iOk] using h)
    refine ⟨by simpa [toP, PyData.showable] using a, by simpa [toP, PyData.hasDict] using b, ?_⟩
    simp only [toP, PyData.shown, rsz]
    have q := listText_len_le (PyData.shownAll (toPs xs))
    omega
  | .ty _, d, _ => by simp [isD] at d
  | .glo _, d, _ => by simp [isD] at d
  | .obj _ _ _, d, _ => by simp [isD] at d
  | .dct _ _, d, _ => by simp [isD] at d
theorem shows_ok : ∀ xs : List Val, isDs xs = true → iOks xs = true → PyData.showableAll (toPs xs) = true ∧ PyData.hasDictAll (toPs xs) = false ∧ ((PyData.shownAll (toPs xs)).map (·.length)).sum + 2 * (PyData.shownAll (toPs xs)).length ≤ rszs xs ∧ True
  | [], _, _ => ⟨by simp [toPs, PyData.showableAll], by simp [toPs, PyData.hasDictAll], by simp [toPs, PyData.shownAll, rszs], trivial⟩
  | x :: xs, d, h => by
    have d' : isD x = true ∧ isDs xs = true := by simpa [isDs] using d
    have h' : iOk x = true ∧ iOks xs = true := by simpa [iOks] using h
    obtain ⟨a1, b1, c1⟩ := show_ok x d'.1 h'.1
    obtain ⟨a2, b2, c2, _⟩ := shows_ok xs d'.2 h'.2
    refine ⟨by simp [toPs, PyData.showableAll, a1, a2], by simp [toPs, PyData.hasDictAll, b1, b2], ?_, trivial⟩
    simp only [toPs, PyData.shownAll, List.map_cons, List.sum_cons, List.length_cons, rszs]
    omega
end
def rRepr (K : PySem.W.Frag) : List V → Hp → VK → Prop := fun xs H Q => ∃ x d, xs = [x] ∧ Dp K H x d ∧ d.showable = true ∧ d.hasDict = false ∧ d.depth ≤ 60 ∧ d.shown.length ≤ sizeLine ∧ Q (.str d.shown) H
theorem c_repr {X : Cx} {k : Nat} (hr : Room k X.A) (hG : X.A.guards = some []) : CallR X (.builtin "repr") (rRepr X.K) := by
  intro pins s σ H xs us Q I rs h
  obtain ⟨x, d, rfl, hd, h1, h2, h3, h4, q⟩ := h
  obtain ⟨u, rfl, ru⟩ := vals1 rs
  obtain ⟨as, hreads⟩ := Dp.reads I d x u hd ru
  have un := hr.units
  cases hd with
  | non =>
    cases ru
    exact PySem.P.repr_of_none ⟨V.str _, H, I.tok _, ⟨_, rfl⟩, q⟩
  | bl b =>
    cases ru
    exact PySem.P.repr_of_bool ⟨V.str _, H, I.tok _, ⟨_, by cases b <;> rfl⟩, q⟩
  | int i =>
    obtain ⟨t, rfl⟩ := ru
    exact PySem.P.repr_of_int (by simpa [PyData.showable] using h1) ⟨V.str _, H, I.tok _, ⟨_, rfl⟩, q⟩
  | str y =>
    obtain ⟨t, rfl⟩ := ru
    exact PySem.P.repr_of_str ⟨V.str _, H, I.tok _, ⟨_, rfl⟩, q⟩ h4
  | lst hs ha =>
    cases ru
    exact repr_of_reads' hreads h1 (fun z => by rw [h2] at z; cases z) hG (by omega) (fun _ _ e => e) (fun h' u tk kk => ⟨V.str _, H, I.kept kk, ⟨_, rfl⟩, q⟩) h4
  | tup hs ha =>
    cases ru
    exact repr_of_reads' hreads h1 (fun z => by rw [h2] at z; cases z) hG (by omega) (fun _ _ e => e) (fun h' u tk kk => ⟨V.str _, H, I.kept kk, ⟨_, rfl⟩, q⟩) h4
theorem v_repr {K : PySem.W.Frag} {W : WX} : FnV K W fRepr (rRepr K) := by
  intro B F H e σ vs us Q C r h
  unfold fRepr at h
  split at h
  · rename_i v
    obtain ⟨u, rfl, q⟩ := r.one
    by_cases hh : rOk v = true
    · rw [if_pos hh] at h
      simp only [rOk, Bool.and_eq_true, decide_eq_true_eq] at hh
      obtain ⟨⟨⟨h1, h2⟩, h3⟩, h4⟩ := hh
      obtain ⟨a, b, c⟩ := show_ok v h1 h3
      exact ⟨u, toP v, rfl, q.dp C.rel.sub h1, a, b, by rw [depth_of]; exact h2, by rw [sizeLine_eq]; omega, h.ok rfl C (VR.str _)⟩
    · rw [if_neg hh] at h
      exact h.elim
  · exact h.elim
end Pu
set_option Elab.async false
set_option linter.all false
set_option maxRecDepth 100000
namespace Pu
open PySem PySem.Spec PyProof.Rows L2
def tS (K : PySem.W.Frag) (W : WX) (np : Nat) (m : S) : TS := fun D σ H => ∃ F e, Rel K F H e σ ∧ AtS K W (bg np F H e σ) m F e σ H D
abbrev SS (X : Cx) (W : WX) (np : Nat) (st : Stmt) (m : S) : Prop := PS X st (tS X.K W np m)
abbrev SB (X : Cx) (W : WX) (np : Nat) (b : List Stmt) (m : S) : Prop := PSs X b (tS X.K W np m)
section
variable {K : PySem.W.Frag} {W : WX} {α β : Type} {R1 : Bg → Hp → Hp → Ev → Sig → α → β → Prop} {B : Bg} {F F' H H' : Hp} {e e' : Ev} {σ σ' : Sig} {D : Ends}
theorem useX [Carry K R1] {m : M α} {f : α → S} {G : β → Hp → Prop} (C : Cur K B F H e σ) (h : AtS K W B (m.bind f) F e σ H D)
    (k : ∀ r e1 F1 H1 x, Cur K B F1 H1 e1 σ → R1 B F1 H1 e1 σ r x → Cur K (bg B.np F H e σ) F1 H1 e1 σ → AtS K W B (f r) F1 e1 σ H1 D → G x H1) : tM K W R1 m σ H G := by
  refine ⟨B.np, F, e, C.rel, ?_⟩
  unfold AtS M.bind at h
  unfold At
  cases hm : m e with
  | bad => rw [hm] at h; exact h
  | rs x e' =>
    rw [hm] at h
    intro F' H' cls d C' X'
    exact h F' H' σ cls d (C.trans C') X'
  | ok r e' =>
    rw [hm] at h
    intro F' H' u C' r'
    exact k r e' F' H' u (C.trans C') (Carry.out C r') C' h
theorem AtS.to {m : S} (C : Cur K B F H e σ) (h : AtS K W B m F e σ H D) : tS K W B.np m D σ H := ⟨F, e, C.rel, h.base C⟩
end
end Pu
set_option Elab.async false
set_option linter.all false
set_option maxRecDepth 100000
namespace Pu
open PySem PySem.Spec PyProof.Rows L2
structure Good (X : Cx) (k : Nat) (W : WX) : Prop where
  nd : X.N.Nodup
  calm : X.calm = true
  room : Room k X.A
  gd : X.A.guards = some []
  tk : L2N.Takes X W
  po : PassesOwn (model X.prog X.w) X.A X.env X.xe
def mRetN : S := fun e => .ok (.rt (.dat .non)) e
def mBk : S := fun e => .ok .bk e
def mCt : S := fun e => .ok .ct e
def mSetP (i : Nat) (m : M RV) : S := m.bind fun r => (M.dt r).bind fun v => fun e => .ok .nx (e.set i (.dat v))
section
variable {K : PySem.W.Frag} {W : WX} {B : Bg} {F F' H H' : Hp} {e e' : Ev} {σ σ' : Sig} {D : Ends}
theorem st_ok {i : Nat} {r : RV} {u : V} (hp : B.np ≤ i) (C : Cur K B F H e σ) (q : RR K B F H e σ r u) (h : AtS K W B (stR i r) F e σ H D) : D.nx (σ.set i (some u)) H := by
  cases r with
  | dat v => exact h.nx rfl (C.setDat q)
  | tmp v =>
    obtain ⟨t, rfl, h2, h3, h4, h5⟩ := q
    exact h.nx rfl (C.setOwn h2 h3 h4 h5 hp)
  | bor j =>
    obtain ⟨F1, e1, v, C1, _, r1, h1, _⟩ := AtS.dt C q h
    exact h1.nx rfl (C1.setDat r1)
end
section
variable {X : Cx} {W : WX} {np k : Nat} {st : Stmt} {rest a b : List Stmt} {ma mb : S} {x c : Expr} {m : M RV} {mc : M Bool} {pos : Pos}
theorem sb_nil : SB X W np [] mSkip := PSs.imp pss_nil fun D σ H ⟨F, e, R, h⟩ => h.nx rfl (Cur.refl R)
theorem sb_one (h : SS X W np st ma) : SB X W np [st] ma := pss_one h
theorem sb_cons (h1 : SS X W np st ma) (h2 : SB X W np rest mb) : SB X W np (st :: rest) (mSeq ma mb) := by
  refine PSs.imp (pss_cons h1 h2) fun D σ H h => ?_
  obtain ⟨F, e, R, h⟩ := h
  refine ⟨F, e, R, ?_⟩
  unfold AtS mSeq at h
  unfold AtS
  cases z : ma e with
  | bad => rw [z] at h; exact h
  | rs x e' => rw [z] at h; exact h
  | ok o e' =>
    rw [z] at h
    cases o with
    | nx =>
      intro F' H' σ' C
      exact AtS.to C (show AtS X.K W (bg np F H e σ) mb F' e' σ' H' D from h)
    | bk => exact h
    | ct => exact h
    | rt r => exact h
theorem ss_expr (hm : SE X W x m) (hs : swapsWith x none pos.line X.env = pure false := by rfl) : SS X W np (.Expr x pos) (mEx m) := by
  refine PS.imp (ps_expr hm hs) fun D σ H h => ?_
  obtain ⟨F, e, R, h⟩ := h
  exact useX (R1 := RR X.K) (Cur.refl R) h fun r e1 F1 H1 u C1 q1 _ h1 => h1.nx rfl C1
theorem ss_ret (hm : SE X W x m) : SS X W np (.Return (some x) pos) (mRet m) := by
  refine PS.imp (ps_ret hm) fun D σ H h => ?_
  obtain ⟨F, e, R, h⟩ := h
  exact useX (R1 := RR X.K) (Cur.refl R) h fun r e1 F1 H1 u C1 q1 _ h1 => h1.rt rfl C1 q1
theorem ss_retN : SS X W np (.Return none pos) mRetN := PS.imp ps_retN fun D σ H ⟨F, e, R, h⟩ => h.rt rfl (Cur.refl R) VR.non
theorem ss_pass : SS X W np (.Pass pos) mSkip := PS.imp ps_pass fun D σ H ⟨F, e, R, h⟩ => h.nx rfl (Cur.refl R)
theorem ss_doc {z j pos'} : SS X W np (.Expr (.Constant (.str z) j pos) pos') mSkip := PS.imp ps_doc fun D σ H ⟨F, e, R, h⟩ => h.nx rfl (Cur.refl R)
theorem ss_brk : SS X W np (.Break pos) mBk := PS.imp ps_break fun D σ H ⟨F, e, R, h⟩ => by
  unfold AtS mBk at h
  exact h F H σ (Cur.refl R)
theorem ss_ct : SS X W np (.Continue pos) mCt := PS.imp ps_continue fun D σ H ⟨F, e, R, h⟩ => by
  unfold AtS mCt at h
  exact h F H σ (Cur.refl R)
theorem ss_if (hc : ST X W c mc) (ha : SB X W np a ma) (hb : SB X W np b mb) : SS X W np (.If c a b pos) (mIf mc ma mb) := by
  refine PS.imp (ps_if hc ha hb) fun D σ H h => ?_
  obtain ⟨F, e, R, h⟩ := h
  refine useX (R1 := fun _ _ _ _ _ (b c : Bool) => b = c) (Cur.refl R) h fun r e1 F1 H1 u C1 q1 _ h1 => ?_
  have eu : r = u := q1
  subst eu
  cases r with
  | true => exact AtS.to C1 h1
  | false => exact AtS.to C1 h1
theorem ss_set (i : Nat) {y : Str} {pos' : Pos} (G : Good X k W) (hm : SE X W x m) (hp : np ≤ i := by decide) (hi : X.N[i]? = some y := by rfl) (hx : Loc X.env.scope y := by first | exact Or.inl rfl | exact Or.inr rfl) (hs : swapsWith x (some (.Name y pos')) pos.line X.env = pure false := by rfl)
    (hf : X.fn y = true ∨ X.env.scope.names.lookup y = some .local := by first | exact .inl rfl | exact .inr rfl) : SS X W np (.Assign [.Name y pos'] x pos) (mSet i m) := by
  refine PS.imp (ps_set G.nd hi hx hm hs hf) fun D σ H h => ?_
  obtain ⟨F, e, R, h⟩ := h
  exact useX (R1 := RR X.K) (Cur.refl R) h fun r e1 F1 H1 u C1 q1 _ h1 => st_ok hp C1 q1 h1
theorem ss_setP (i : Nat) {y : Str} {pos' : Pos} (G : Good X k W) (hm : SE X W x m) (hi : X.N[i]? = some y := by rfl) (hx : Loc X.env.scope y := by first | exact Or.inl rfl | exact Or.inr rfl) (hs : swapsWith x (some (.Name y pos')) pos.line X.env = pure false := by rfl)
    (hf : X.fn y = true ∨ X.env.scope.names.lookup y = some .local := by first | exact .inl rfl | exact .inr rfl) : SS X W np (.Assign [.Name y pos'] x pos) (mSetP i m) := by
  refine PS.imp (ps_set G.nd hi hx hm hs hf) fun D σ H h => ?_
  obtain ⟨F, e, R, h⟩ := h
  refine useX (R1 := RR X.K) (Cur.refl R) h fun r e1 F1 H1 u C1 q1 _ h1 => ?_
  obtain ⟨F2, e2, v, C2, _, r2, h2, _⟩ := AtS.dt C1 q1 h1
  exact h2.nx rfl (C2.setDat r2)
end
def tG (K : PySem.W.Frag) (W : WX) (ws : List Nat) (m : Val → M Unit) : TG := fun u σ H Q => ∃ np F e v, Rel K F H e σ ∧ VR K F v u ∧ AtG K W ws (bg np F H e σ) (m v) e σ Q
def tGs (K : PySem.W.Frag) (W : WX) (ws : List Nat) (m : List Val → M Unit) : TGs := fun us σ H Q => ∃ np F e vs, Rel K F H e σ ∧ VRs K F vs us ∧ AtG K W ws (bg np F H e σ) (m vs) e σ Q
abbrev SG (X : Cx) (W : WX) (ws : List Nat) (tg : Expr) (m : Val → M Unit) : Prop := PG X tg (tG X.K W ws m)
abbrev SGs (X : Cx) (W : WX) (ws : List Nat) (tg : List Expr) (m : List Val → M Unit) : Prop := PGs X tg (tGs X.K W ws m)
def gL (n : Nat) (ms : List Val → M Unit) (v : Val) : M Unit := match v with
  | .lst xs => if xs.length = n then ms xs else M.bad
  | _ => M.bad
theorem PG.imp {X : Cx} {e : Expr} {t t' : TG} (h : PG X e t) (q : ∀ u σ H Q, t' u σ H Q → t u σ H Q) : PG X e t' := ⟨fun pins s σ H v u Q I r z => h.run pins s σ H v u Q I r (q v σ H Q z)⟩
theorem PGs.imp {X : Cx} {e : List Expr} {t t' : TGs} (h : PGs X e t) (q : ∀ u σ H Q, t' u σ H Q → t u σ H Q) : PGs X e t' := ⟨fun pins s σ H v u Q I r z => h.run pins s σ H v u Q I r (q v σ H Q z)⟩
section
variable {X : Cx} {W : WX} {ws : List Nat} {np k : Nat} {x : Expr} {es : List Expr} {mg : Val → M Unit} {ms : List Val → M Unit} {pos : Pos} {m : M RV}
theorem sg_name (i : Nat) {y : Str} (nd : X.N.Nodup) (hw : i ∈ ws := by decide) (hi : X.N[i]? = some y := by rfl) (hx : Loc X.env.scope y := by first | exact Or.inl rfl | exact Or.inr rfl) (hf : X.fn y = true ∨ X.env.scope.names.lookup y = some .local := by first | exact .inl rfl | exact .inr rfl) : SG X W ws (.Name y pos) (gN i) :=
  PG.imp (pg_name nd hi hx hf) fun u σ H Q ⟨np, F, e, v, R, r, h⟩ => h.go rfl ((Cur.refl R).setDat r) (Upd.set hw)
theorem sgs_nil : SGs X W ws [] gsN := PGs.imp pgs_nil fun us σ H Q ⟨np, F, e, vs, R, r, h⟩ => by
  cases r with
  | nil => exact ⟨rfl, h.go rfl (Cur.refl R) Upd.refl⟩
  | cons _ _ => exact h.elim
theorem sgs_cons (h1 : SG X W ws x mg) (h2 : SGs X W ws es ms) (hs : (assignEach (x :: es) X.env).map (·.2) = assign x X.env :: (assignEach es X.env).map (·.2) := by rfl) : SGs X W ws (x :: es) (gsC mg ms) := by
  refine PGs.imp (pgs_cons h1 h2 hs) fun us σ H Q h => ?_
  obtain ⟨np, F, e, vs, R, r, h⟩ := h
  cases r with
  | nil => exact h.elim
  | cons a b =>
    rename_i v u vs us
    refine ⟨u, us, rfl, np, F, e, v, R, a, ?_⟩
    unfold AtG gsC M.bind at h
    unfold AtG
    cases z : mg v e with
    | bad => simp only [z] at h
    | rs x e' => simp only [z] at h; exact h
    | ok _ e' =>
      simp only [z] at h
      intro F' H' σ' C u1
      refine ⟨np, F', e', vs, C.rel, b.mono C.post.sub, ?_⟩
      unfold AtG
      cases z2 : ms vs e' with
      | bad => simp only [z2] at h
      | rs x e' => simp only [z2] at h; exact fun F2 H2 σ2 cls d C2 => h F2 H2 σ2 cls d (C.trans C2)
      | ok _ e2 => simp only [z2] at h; exact fun F2 H2 σ2 C2 u2 => h F2 H2 σ2 (C.trans C2) (u1.trans u2)
theorem PG.imp2 {X : Cx} {e : Expr} {t1 t2 t' : TG} (h1 : PG X e t1) (h2 : PG X e t2) (q : ∀ u σ H Q, t' u σ H Q → t1 u σ H Q ∨ t2 u σ H Q) : PG X e t' := ⟨fun pins s σ H v u Q I r z => (q v σ H Q z).elim (h1.run pins s σ H v u Q I r) (h2.run pins s σ H v u Q I r)⟩
theorem sg_tup {j n : Nat} (hc : X.calm = true) (h : SGs X W ws es ms) (hn : (assignEach es X.env).length = n := by rfl) (hst : (assignEach es X.env).findIdx? (·.1) = none := by rfl) : SG X W ws (.Tuple es j pos) (gT n ms) := by
  refine PG.imp2 (pg_tup hc h hn hst) (pg_lst hc h hn hst) fun u σ H Q h => ?_
  obtain ⟨np, F, e, v, R, r, h⟩ := h
  unfold gT at h
  split at h
  · rename_i xs
    by_cases hl : xs.length = n
    · rw [if_pos hl] at h
      cases r with
      | tup h1 h2 => exact .inl ⟨_, _, rfl, sqT_mono R.sub h1, by rw [← h2.length]; exact hl, np, F, e, xs, R, h2, h⟩
    · rw [if_neg hl] at h
      exact h.elim
  · rename_i xs
    by_cases hl : xs.length = n
    · rw [if_pos hl] at h
      cases r with
      | lst h1 h2 => exact .inr ⟨_, _, rfl, .inl (rd_mono R.sub h1), by rw [← h2.length]; exact hl, np, F, e, xs, R, h2, h⟩
    · rw [if_neg hl] at h
      exact h.elim
  · exact h.elim
theorem sg_lst {j n : Nat} (hc : X.calm = true) (h : SGs X W ws es ms) (hn : (assignEach es X.env).length = n := by rfl) (hst : (assignEach es X.env).findIdx? (·.1) = none := by rfl) : SG X W ws (.Tuple es j pos) (gL n ms) := by
  refine PG.imp (pg_lst hc h hn hst) fun u σ H Q h => ?_
  obtain ⟨np, F, e, v, R, r, h⟩ := h
  unfold gL at h
  split at h
  · rename_i xs
    by_cases hl : xs.length = n
    · rw [if_pos hl] at h
      cases r with
      | lst h1 h2 => exact ⟨_, _, rfl, .inl (rd_mono R.sub h1), by rw [← h2.length]; exact hl, np, F, e, xs, R, h2, h⟩
    · rw [if_neg hl] at h
      exact h.elim
  · exact h.elim
theorem AtS.gt {K : PySem.W.Frag} {B : Bg} {F H : Hp} {e : Ev} {σ : Sig} {D : Ends} {m : M Unit} (C : Cur K B F H e σ) (h : AtS K W B (m.bind fun _ => mSkip) F e σ H D) : AtG K W ws (bg B.np F H e σ) m e σ D.nx := by
  unfold AtS M.bind mSkip at h
  unfold AtG
  cases z : m e with
  | bad => simp only [z] at h
  | rs x e' => simp only [z] at h; exact fun F' H' σ' cls d C' => h F' H' σ' cls d (C.trans C')
  | ok _ e' => simp only [z] at h; exact fun F' H' σ' C' _ => h F' H' σ' (C.trans C')
theorem ss_asg {tg : Expr} (hm : SE X W x m) (hg : SG X W ws tg mg) (hs : swapsWithSole [tg] x pos.line X.env = pure false := by rfl) (hw : swappedStores [tg] x X.env = pure none := by rfl)
    (h1 : (assignEach [tg] X.env).map (·.2) = [assign tg X.env] := by rfl) : SS X W np (.Assign [tg] x pos) (mAsg mg m) := by
  refine PS.imp (ps_asg hm hg hs hw h1) fun D σ H h => ?_
  obtain ⟨F, e, R, h⟩ := h
  refine useX (R1 := RR X.K) (Cur.refl R) h fun r e1 F1 H1 u C1 q1 _ h1 => ?_
  obtain ⟨F2, e2, v, C2, _, r2, h2, _⟩ := AtS.dt C1 q1 h1
  exact ⟨np, F2, e2, v, C2.rel, r2, AtS.gt C2 h2⟩
end
def RI (K : PySem.W.Frag) (B : Bg) (F H : Hp) (e : Ev) (σ : Sig) (vs : List Val) (J : It) : Prop :=
  ∃ (G : Hp → Prop) (Y : Nat → Hp → V → Hp → Prop), L2.Walk J vs.length G Y ∧ (∀ H, Same F H → G H) ∧
    ∀ (i : Nat) (v : Val) (B1 : Bg) (F1 H1 : Hp) (e1 : Ev) (σ1 : Sig) (x : V) (H' : Hp), vs[i]? = some v → Cur K B1 F1 H1 e1 σ1 → Same F F1 → Y i H1 x H' → ∃ F', Cur K B1 F' H' e1 σ1 ∧ Same F1 F' ∧ VR K F' v x
instance {K : PySem.W.Frag} : Carry K (RI K) := ⟨fun _ h => h⟩
abbrev SI (X : Cx) (W : WX) (tg iter : Expr) (m : M (List Val)) : Prop := PI X tg iter (tM X.K W (RI X.K) m)
theorem PI.imp {X : Cx} {tg e : Expr} {t t' : TI} (h : PI X tg e t) (q : ∀ σ H R, t' σ H R → t σ H R) : PI X tg e t' := ⟨fun pins s σ H R I z => h.run pins s σ H R I (q σ H R z)⟩
section
variable {X : Cx} {W : WX} {np k : Nat} {tg iter c : Expr} {body : List Stmt} {mi : M (List Val)} {mt : Val → M Unit} {mb : S} {mc : M Bool} {pos : Pos}
theorem ss_for {ws : List Nat} (G : Good X k W) (hi : SI X W tg iter mi) (hg : SG X W ws tg mt) (hb : SB X W np body mb) (hs : ∀ x, foldedSetIterable iter X.env x = pure x := by intro _; rfl) : SS X W np (.For tg iter body [] pos) (mFor mi mt mb) := by
  refine PS.imp (ps_for G.po G.calm hi hg hb hs) fun D σ H h => ?_
  obtain ⟨F, e, R, h⟩ := h
  refine useX (R1 := RI X.K) (Cur.refl R) h fun vs e1 F1 H1 J C1 q1 _ h1 => ?_
  obtain ⟨Gd, Y, wk, still, gives⟩ := q1
  refine for_it wk (fun i σ' H' => ∃ F' e', Cur X.K (bg np F H e σ) F' H' e' σ' ∧ Same F1 F' ∧ AtS X.K W (bg np F H e σ) (loopS mt mb (vs.drop i)) F' e' σ' H' D) ⟨F1, e1, C1, Same.refl _, h1⟩ ?_ ?_ ?_
  · rintro i σ' H' _ ⟨F', e', C', s', _⟩
    exact still H' (s'.trans C'.rel.sub)
  · rintro i x σ' H' H2 hi ⟨F', e', C', s', h'⟩ y
    have hv : vs[i]? = some vs[i] := List.getElem?_eq_getElem hi
    obtain ⟨F2, C2, s2, r2⟩ := gives i _ _ _ _ _ _ _ _ hv C' s' y
    refine ⟨np, F2, e', vs[i], C2.rel, r2, ?_⟩
    rw [List.drop_eq_getElem_cons hi] at h'
    unfold AtS loopS at h'
    unfold AtG
    cases z : mt vs[i] e' with
    | bad => simp only [z] at h'
    | rs x2 e2 =>
      simp only [z] at h'
      exact fun F' H' σ' cls d C' => h' F' H' σ' cls d (C2.trans C')
    | ok _ e2 =>
      simp only [z] at h'
      intro F3 H3 σ3 C3 _
      refine ⟨F3, e2, C3.rel, ?_⟩
      unfold AtS
      have C23 := C2.trans C3
      have s3 : Same F1 F3 := s'.trans (s2.trans C3.post.sub)
      cases z2 : mb e2 with
      | bad => simp only [z2] at h'
      | rs x3 e3 =>
        simp only [z2] at h'
        exact fun F' H' σ' cls d C' => h' F' H' σ' cls d (C23.trans C')
      | ok o e3 =>
        cases o with
        | nx =>
          simp only [z2] at h'
          intro F4 H4 σ4 C4
          exact ⟨F4, e3, C23.trans C4, s3.trans C4.post.sub, h'⟩
        | ct =>
          simp only [z2] at h'
          intro F4 H4 σ4 C4
          exact ⟨F4, e3, C23.trans C4, s3.trans C4.post.sub, h'⟩
        | bk =>
          simp only [z2] at h'
          exact fun F4 H4 σ4 C4 => h' F4 H4 σ4 (C23.trans C4)
        | rt r =>
          simp only [z2] at h'
          exact fun F4 H4 σ4 u C4 q4 => h' F4 H4 σ4 u (C23.trans C4) (q4.out C23)
  · rintro σ' H' ⟨F', e', C', s', h'⟩
    rw [List.drop_length] at h'
    exact h'.nx rfl C'
theorem ss_while (n : Nat) (G : Good X k W) (hc : ST X W c mc) (hb : SB X W np body mb) : SS X W np (.While c body [] pos) (whileS mc mb n) := by
  refine PS.imp (ps_while G.po hc hb) fun D σ H h => ?_
  obtain ⟨F, e, R, h⟩ := h
  refine ⟨fun m σ' H' => ∃ F' e', Cur X.K (bg np F H e σ) F' H' e' σ' ∧ AtS X.K W (bg np F H e σ) (whileS mc mb m) F' e' σ' H' D, ⟨n, F, e, Cur.refl R, h⟩, ?_⟩
  rintro m σ' H' ⟨F', e', C', h'⟩
  cases m with
  | zero => exact h'.elim
  | succ m =>
    refine ⟨np, F', e', C'.rel, ?_⟩
    unfold AtS whileS at h'
    unfold At
    cases z : mc e' with
    | bad => simp only [z] at h'
    | rs x e2 =>
      simp only [z] at h'
      exact fun F' H' cls d C2 => h' F' H' _ cls d (C'.trans C2)
    | ok b e2 =>
      cases b with
      | false =>
        simp only [z] at h'
        intro F2 H2 b' C2 eb
        subst eb
        exact h' F2 H2 _ (C'.trans C2)
      | true =>
        simp only [z] at h'
        intro F2 H2 b' C2 eb
        subst eb
        refine ⟨fun σ4 H4 => ∃ F4 e4, Cur X.K (bg np F H e σ) F4 H4 e4 σ4 ∧ AtS X.K W (bg np F H e σ) (whileS mc mb m) F4 e4 σ4 H4 D, fun σ4 H4 q => ⟨m, Nat.lt_succ_self m, q⟩, F2, e2, C2.rel, ?_⟩
        have C12 := C'.trans C2
        unfold AtS
        cases z2 : mb e2 with
        | bad => simp only [z2] at h'
        | rs x3 e3 =>
          simp only [z2] at h'
          exact fun F' H' σ' cls d C' => h' F' H' σ' cls d (C12.trans C')
        | ok o e3 =>
          cases o with
          | nx =>
            simp only [z2] at h'
            exact fun F4 H4 σ4 C4 => ⟨F4, e3, C12.trans C4, h'⟩
          | ct =>
            simp only [z2] at h'
            exact fun F4 H4 σ4 C4 => ⟨F4, e3, C12.trans C4, h'⟩
          | bk =>
            simp only [z2] at h'
            exact fun F4 H4 σ4 C4 => h' F4 H4 σ4 (C12.trans C4)
          | rt r =>
            simp only [z2] at h'
            exact fun F4 H4 σ4 u C4 q4 => h' F4 H4 σ4 u (C12.trans C4) (q4.out C12)
end
end Pu
set_option Elab.async false
set_option linter.all false
set_option maxRecDepth 100000
namespace Pu
open PySem PySem.Spec PyProof.Rows L2
section
variable {K : PySem.W.Frag} {W : WX} {α α' β β' : Type} {R1 : Bg → Hp → Hp → Ev → Sig → α → β → Prop} {R2 : Bg → Hp → Hp → Ev → Sig → α' → β' → Prop} {B : Bg} {F H : Hp} {e : Ev} {σ : Sig}
theorem useQ [Carry K R1] {m : M α} {f : α → M α'} {Q : β' → Hp → Prop} {G : β → Hp → Prop} (C : Cur K B F H e σ) (h : At K W R2 B (m.bind f) F e σ H Q)
    (k : ∀ r e1 F1 H1 x, m e = .ok r e1 → Cur K B F1 H1 e1 σ → R1 B F1 H1 e1 σ r x → Cur K (bg B.np F H e σ) F1 H1 e1 σ → At K W R2 B (f r) F1 e1 σ H1 Q → G x H1) : tM K W R1 m σ H G := by
  refine ⟨B.np, F, e, C.rel, ?_⟩
  unfold At M.bind at h
  unfold At
  cases hm : m e with
  | bad => rw [hm] at h; exact h
  | rs x e' =>
    rw [hm] at h
    intro F' H' cls d C' X'
    exact h F' H' cls d (C.trans C') X'
  | ok r e' =>
    rw [hm] at h
    intro F' H' u C' r'
    exact k r e' F' H' u hm (C.trans C') (Carry.out C r') C' h
end
def mRng2 (a b : M RV) : M (List Val) := a.bind fun r => b.bind fun s => (M.rd r).bind fun v => (M.rd s).bind fun w => match v, w with
  | .int i, .int j => if -4611686018427387904 ≤ i ∧ i < 4611686018427387904 ∧ -4611686018427387904 ≤ j ∧ j < 4611686018427387904 then M.ret (rangeV i j) else M.bad
  | _, _ => M.bad
section
variable {X : Cx} {W : WX} {tg a b : Expr} {ma mb : M RV} {p pos : Pos}
theorem ri_list {K : PySem.W.Frag} {B : Bg} {F H : Hp} {e : Ev} {σ : Sig} {xs : List Val} {a : Addr} {us : List V} (h1 : Rd F a (.lst us)) (h2 : VRs K F xs us) : RI K B F H e σ xs (Itl K a) := by
  have e1 := h2.length
  refine ⟨_, _, by rw [e1]; exact walk_list (K := K) (a := a) (xs := us), fun H s => Or.inl (rd_mono s h1), ?_⟩
  rintro i v B1 F1 H1 e1 σ1 x H' hv C s ⟨rfl, hx⟩
  obtain ⟨v', h3, h4⟩ := h2.get' hx
  rw [hv] at h3; cases h3
  exact ⟨F1, C, Same.refl _, h4.mono s⟩
theorem ri_tup {K : PySem.W.Frag} {B : Bg} {F H : Hp} {e : Ev} {σ : Sig} {xs : List Val} {a : Addr} {us : List V} (h1 : SqT K F a us) (h2 : VRs K F xs us) : RI K B F H e σ xs (Itt K a) := by
  have e1 := h2.length
  refine ⟨_, _, by rw [e1]; exact walk_tup (K := K) (a := a) (xs := us), fun H s => sqT_mono s h1, ?_⟩
  rintro i v B1 F1 H1 e1 σ1 x H' hv C s ⟨rfl, hx⟩
  obtain ⟨v', h3, h4⟩ := h2.get' hx
  rw [hv] at h3; cases h3
  exact ⟨F1, C, Same.refl _, h4.mono s⟩
theorem ri_rng {K : PySem.W.Frag} {B : Bg} {F H : Hp} {e : Ev} {σ : Sig} {lo hi : Int} : RI K B F H e σ (rangeV lo hi) (Itr lo (hi - lo).toNat) := by
  refine ⟨_, _, by rw [show (rangeV lo hi).length = (hi - lo).toNat by simp [rangeV]]; exact walk_range (lo := lo), fun _ _ => trivial, ?_⟩
  rintro i v B1 F1 H1 e1 σ1 x H' hv C s ⟨rfl, hx⟩
  unfold rangeV at hv
  rw [List.getElem?_map] at hv
  cases q : (List.range (hi - lo).toNat)[i]? with
  | none => rw [q] at hv; cases hv
  | some j =>
    rw [q] at hv
    have ej : j = i := by
      have := List.getElem?_eq_some_iff.mp q
      obtain ⟨h, e⟩ := this
      rw [← e]; exact (List.getElem_range h)
    cases hv
    subst hx ej
    exact ⟨F1, C, Same.refl _, VR.int _⟩
theorem si_seq (ha : SE X W a ma) : SI X W tg a (mItems ma) := by
  constructor
  intro pins s σ H R I h
  obtain ⟨np, F, e, Rl, h⟩ := h
  have stop : ∀ {P : Prop}, (∀ r e1 v e2, ma e = .ok r e1 → M.dt r e1 = .ok v e2 → (∃ xs, v = .lst xs) ∨ (∃ xs, v = .tup xs) → P) → ((∃ x e1, ma e = .rs x e1) → P) → P := fun {P} k k2 => by
    unfold At mItems M.bind at h
    cases z : ma e with
    | bad => simp only [z] at h
    | rs x e1 => exact k2 ⟨x, e1, z⟩
    | ok r e1 =>
      simp only [z] at h
      cases z2 : M.dt r e1 with
      | bad => simp only [z2] at h
      | rs x e2 => exact (dt_some _ _ z2).elim
      | ok v e2 =>
        simp only [z2] at h
        refine k r e1 v e2 z z2 ?_
        cases v with
        | lst xs => exact .inl ⟨xs, rfl⟩
        | tup xs => exact .inr ⟨xs, rfl⟩
        | _ => exact h.elim
  have asL : ((∀ r e1 v e2, ma e = .ok r e1 → M.dt r e1 = .ok v e2 → ∃ xs, v = .lst xs)) → iList X.K (tE X.K W ma) σ H R := fun only => by
    refine useQ (R1 := RR X.K) (Cur.refl Rl) h fun r e1 F1 H1 x hm C1 q1 _ h1 => ?_
    cases z2 : M.dt r e1 with
    | rs x e2 => exact (dt_some _ _ z2).elim
    | bad => unfold At M.bind at h1; simp only [z2] at h1
    | ok v e2 =>
      obtain ⟨xs, rfl⟩ := only r e1 v e2 hm z2
      obtain ⟨F2, C2, s2, r2, _⟩ := dt_go C1 q1 z2
      unfold At M.bind at h1
      simp only [z2, itemsV, M.ret] at h1
      cases r2 with
      | lst h3 h4 => exact ⟨_, rfl, ⟨_, .inl (rd_mono C2.rel.sub h3)⟩, h1 _ _ _ C2 (ri_list h3 h4)⟩
  have asT : ((∀ r e1 v e2, ma e = .ok r e1 → M.dt r e1 = .ok v e2 → ∃ xs, v = .tup xs)) → iTup X.K (tE X.K W ma) σ H R := fun only => by
    refine useQ (R1 := RR X.K) (Cur.refl Rl) h fun r e1 F1 H1 x hm C1 q1 _ h1 => ?_
    cases z2 : M.dt r e1 with
    | rs x e2 => exact (dt_some _ _ z2).elim
    | bad => unfold At M.bind at h1; simp only [z2] at h1
    | ok v e2 =>
      obtain ⟨xs, rfl⟩ := only r e1 v e2 hm z2
      obtain ⟨F2, C2, s2, r2, _⟩ := dt_go C1 q1 z2
      unfold At M.bind at h1
      simp only [z2, itemsV, M.ret] at h1
      cases r2 with
      | tup h3 h4 => exact ⟨_, rfl, ⟨_, sqT_mono C2.rel.sub h3⟩, h1 _ _ _ C2 (ri_tup h3 h4)⟩
  refine stop (fun r e1 v e2 z1 z2 kind => ?_) fun ⟨x, e1, z1⟩ => ?_
  · rcases kind with ⟨xs, rfl⟩ | ⟨xs, rfl⟩
    · refine (pi_list ha).run pins s σ H R I (asL fun r' e1' v' e2' y1 y2 => ?_)
      rw [z1] at y1; cases y1
      rw [z2] at y2; cases y2
      exact ⟨xs, rfl⟩
    · refine (pi_tup ha).run pins s σ H R I (asT fun r' e1' v' e2' y1 y2 => ?_)
      rw [z1] at y1; cases y1
      rw [z2] at y2; cases y2
      exact ⟨xs, rfl⟩
  · refine (pi_list ha).run pins s σ H R I (asL fun r' e1' v' e2' y1 y2 => ?_)
    rw [z1] at y1; cases y1
theorem sa_1 {K : PySem.W.Frag} {B : Bg} {F H : Hp} {e : Ev} {σ : Sig} {α β : Type} {R2 : Bg → Hp → Hp → Ev → Sig → α → β → Prop} {m : M RV} {f : RV → M α} {Q : β → Hp → Prop} {G : List V → Hp → Prop} (C : Cur K B F H e σ) (h : At K W R2 B (m.bind f) F e σ H Q)
    (k : ∀ r e1 F1 H1 x, Cur K B F1 H1 e1 σ → RR K B F1 H1 e1 σ r x → At K W R2 B (f r) F1 e1 σ H1 Q → G [x] H1) : tA K W (mCons m mNil) σ H G := by
  refine ⟨B.np, F, e, C.rel, ?_⟩
  unfold At M.bind at h
  unfold At mCons mNil M.bind M.ret
  cases z : m e with
  | bad => simp only [z] at h
  | rs x e1 => simp only [z] at h; exact fun F' H' cls d C' => h F' H' cls d (C.trans C')
  | ok r e1 =>
    simp only [z] at h
    intro F1 H1 us C1 q1
    cases q1 with
    | cons a b c =>
      cases c
      exact k r e1 F1 H1 _ (C.trans C1) (a.out C) h
theorem si_rng1 (gl : Gl X "range") (fr : X.mg "range" = none) (ha : SE X W a ma) (hs : starEach [a] X.env = [(false, eval a X.env)] := by rfl) : SI X W tg (.Call (.Name "range" p) [a] [] pos) (mRng1 ma) := by
  refine PI.imp (pi_range1 gl fr (sa_cons ha sa_nil hs) hs) fun σ H R h => ?_
  obtain ⟨np, F, e, Rl, h⟩ := h
  refine sa_1 (Cur.refl Rl) h fun r e1 F1 H1 x C1 q1 h1 => ?_
  obtain ⟨v, rv, h2⟩ := At.rd C1.rel q1 h1
  split at h2
  · rename_i j
    by_cases hj : -4611686018427387904 ≤ j ∧ j < 4611686018427387904
    · rw [if_pos hj] at h2
      refine ⟨j, by rw [rv.int], by omega, by omega, h2.ok rfl C1 ?_⟩
      have e3 : (j - 0).toNat = j.toNat := by simp
      rw [← e3]
      exact ri_rng
    · rw [if_neg hj] at h2
      exact h2.elim
  · exact h2.elim
theorem si_rng2 (gl : Gl X "range") (fr : X.mg "range" = none) (ha : SE X W a ma) (hb : SE X W b mb) (hs : starEach [a, b] X.env = [(false, eval a X.env), (false, eval b X.env)] := by rfl) (hs2 : starEach [b] X.env = [(false, eval b X.env)] := by rfl)
    (hs3 : starEach [a, b] X.env = (false, eval a X.env) :: starEach [b] X.env := by rfl) : SI X W tg (.Call (.Name "range" p) [a, b] [] pos) (mRng2 ma mb) := by
  refine PI.imp (pi_range2 gl fr (pa_cons ha (sa_cons hb sa_nil hs2) hs3) hs hs2) fun σ H R h => ?_
  obtain ⟨np, F, e, Rl, h⟩ := h
  refine use (R1 := RR X.K) (Cur.refl Rl) h fun r e1 F1 H1 x C1 q1 _ h1 => ?_
  have q0 := q1
  refine ⟨np, F1, e1, C1.rel, ?_⟩
  unfold At M.bind at h1
  unfold At mCons mNil M.bind M.ret
  cases z : mb e1 with
  | bad => simp only [z] at h1
  | rs x e1 => simp only [z] at h1; exact fun F' H' cls d C' => h1 F' H' cls d (C1.trans C')
  | ok s e2 =>
    simp only [z] at h1
    intro F2 H2 us C2 q2
    cases q2 with
    | cons a2 b2 c2 =>
      cases c2
      rename_i y
      have C12 := C1.trans C2
      have h2 : At X.K W (RI X.K) (bg np F H e σ) ((M.rd r).bind fun v => (M.rd s).bind fun w => match v, w with
        | .int i, .int j => if -4611686018427387904 ≤ i ∧ i < 4611686018427387904 ∧ -4611686018427387904 ≤ j ∧ j < 4611686018427387904 then M.ret (rangeV i j) else M.bad
        | _, _ => M.bad) F2 e2 σ H2 R := h1
      obtain ⟨v, rv, h3⟩ := At.rd C12.rel (q1.carry C2) h2
      obtain ⟨w, rw_, h4⟩ := At.rd C12.rel (a2.out C1) h3
      split at h4
      · rename_i i j
        by_cases hj : -4611686018427387904 ≤ i ∧ i < 4611686018427387904 ∧ -4611686018427387904 ≤ j ∧ j < 4611686018427387904
        · rw [if_pos hj] at h4
          exact ⟨i, j, by rw [rv.int, rw_.int], ⟨by omega, by omega, by omega, by omega⟩, h4.ok rfl C12 ri_rng⟩
        · rw [if_neg hj] at h4
          exact h4.elim
      · exact h4.elim
end
end Pu
set_option Elab.async false
set_option linter.all false
set_option maxRecDepth 100000
namespace Pu
open PySem PySem.Spec PyProof.Rows L2
abbrev STs (X : Cx) (W : WX) (cs : List Expr) (m : M Bool) : Prop := PTs X cs (tT X.K W m)
def noW : WX := fun _ _ _ _ => False
section
variable {K : PySem.W.Frag} {W : WX} {B : Bg} {F F' H H' : Hp} {e e' : Ev} {σ σ' : Sig}
theorem Own.wiped {a : Addr} {τ τ' : Sig} : ∀ {ws : List Nat}, (∀ i, i ∉ ws → τ[i]? = τ'[i]?) → Own (wipeE e ws) τ a → Own (wipeE e ws) τ' a := fun {ws} h ⟨i, v, h1, h2⟩ => by
  have nm : ∀ {ws : List Nat} {e : Ev}, (wipeE e ws)[i]? = some (.own v) → i ∉ ws := by
    intro ws
    induction ws with
    | nil => intro e _; simp
    | cons w ws ih =>
      intro e q
      unfold wipeE at q
      rcases getset q with ⟨_, z, _⟩ | ⟨z, q⟩
      · cases z
      · simp only [List.mem_cons, not_or]
        exact ⟨fun z2 => z z2.symm, ih q⟩
  exact ⟨i, v, h1, by rw [← h i (nm h1)]; exact h2⟩
theorem wipeE_un : ∀ {ws : List Nat} {e : Ev} {i : Nat} {s : Slot}, (wipeE e ws)[i]? = some s → s = .un ∨ (i ∉ ws ∧ e[i]? = some s)
  | [], e, i, s, h => .inr ⟨by simp, h⟩
  | w :: ws, e, i, s, h => by
    unfold wipeE at h
    rcases getset h with ⟨_, z, _⟩ | ⟨z, h⟩
    · exact .inl z
    · rcases wipeE_un h with q | ⟨q1, q2⟩
      · exact .inl q
      · exact .inr ⟨by simp only [List.mem_cons, not_or]; exact ⟨fun z2 => z z2.symm, q1⟩, q2⟩
theorem wipeE_length (e : Ev) : ∀ ws : List Nat, (wipeE e ws).length = e.length
  | [] => rfl
  | w :: ws => by unfold wipeE; rw [List.length_set, wipeE_length e ws]
theorem wipe_out {i : Nat} : ∀ {ws : List Nat} {σ : Sig}, i ∉ ws → (wipe σ ws)[i]? = σ[i]?
  | [], σ, _ => rfl
  | w :: ws, σ, h => by
    simp only [List.mem_cons, not_or] at h
    unfold wipe
    rw [List.getElem?_set_ne (fun z => h.1 z.symm)]
    exact wipe_out h.2
theorem Cur.wiped {τ : Sig} {ws : List Nat} (C : Cur K B F H e σ) (hl : τ.length = σ.length) (h : ∀ i, i ∉ ws → τ[i]? = σ[i]?) : Cur K B F H (wipeE e ws) τ := by
  have own : ∀ {i : Nat} {v : Val}, (wipeE e ws)[i]? = some (.own v) → e[i]? = some (.own v) ∧ τ[i]? = σ[i]? := fun {i v} q => by
    rcases wipeE_un q with z | ⟨z1, z2⟩
    · cases z
    · exact ⟨z2, h i z1⟩
  refine ⟨C.post, ⟨C.rel.sub, by rw [wipeE_length, hl]; exact C.rel.len, fun i s o a1 a2 => ?_, fun i j v w a a1 a2 a3 a4 => ?_, C.rel.tb, C.rel.nt⟩, fun a ⟨i, v, a1, a2⟩ => ?_, by rw [wipeE_length]; exact C.ln, fun j v hj h' => ?_⟩
  · rcases wipeE_un a1 with z | ⟨z1, z2⟩
    · subst z; trivial
    · exact C.rel.slot i s o z2 (by rw [← h i z1]; exact a2)
  · obtain ⟨b1, b2⟩ := own a1
    obtain ⟨c1, c2⟩ := own a2
    exact C.rel.inj i j v w a b1 c1 (by rw [← b2]; exact a3) (by rw [← c2]; exact a4)
  · obtain ⟨b1, b2⟩ := own a1
    exact C.own a ⟨i, v, b1, by rw [← b2]; exact a2⟩
  · obtain ⟨b1, b2⟩ := own h'
    rw [b2]
    exact C.par j v hj b1
theorem wipe_in {i : Nat} : ∀ {ws : List Nat} {σ : Sig}, i ∈ ws → i < σ.length → (wipe σ ws)[i]? = some none
  | w :: ws, σ, h, hl => by
    unfold wipe
    by_cases hw : w = i
    · subst hw
      rw [List.getElem?_set_self (by rw [wipe_length]; exact hl)]
    · rw [List.getElem?_set_ne hw]
      refine wipe_in ?_ hl
      rcases List.mem_cons.mp h with q | q
      · exact absurd q.symm hw
      · exact q
theorem wipe_upd {ws : List Nat} {τ : Sig} (u : Upd ws (wipe σ ws) τ) : wipe τ ws = wipe σ ws := by
  have l1 : τ.length = σ.length := u.1.trans (wipe_length σ ws)
  refine List.ext_getElem? fun i => ?_
  by_cases hi : i ∈ ws
  · by_cases hl : i < σ.length
    · rw [wipe_in hi (by omega), wipe_in hi hl]
    · rw [List.getElem?_eq_none (by rw [wipe_length]; omega), List.getElem?_eq_none (by rw [wipe_length]; omega)]
  · rw [wipe_out hi, u.2 i hi]
theorem Cur.write {t : Addr} {o o' : HO} (C : Cur K B F H e σ) (h1 : F t = none) (h2 : ¬ Own e σ t) (h3 : B.mine t) (h4 : H t = some o) (h5 : plainO o = true := by rfl) : Cur K B F (upd H t o') e σ := by
  refine ⟨⟨C.post.sub, fun a o2 q n t5 => ?_, C.post.nw, fun a q => ?_⟩, ⟨fun b o2 q => ?_, C.rel.len, fun i s o2 a1 a2 => ?_, C.rel.inj, Tabs.put C.rel.tb h4 h5, C.rel.nt⟩, C.own, C.ln, C.par⟩
  · have ne : a ≠ t := fun z => by
      subst z
      rcases h3 with z | z
      · exact n z
      · rw [z] at q; cases q
    rw [upd_ne ne]
    exact C.post.fr a o2 q n t5
  · by_cases ha : a = t
    · rw [ha, upd_same] at q; cases q
    · rw [upd_ne ha] at q; exact C.post.kp a q
  · have ne : b ≠ t := fun z => by rw [z, h1] at q; cases q
    rw [upd_ne ne]
    exact C.rel.sub b o2 q
  · have z := C.rel.slot i s o2 a1 a2
    cases s with
    | un => trivial
    | dat v => exact z
    | own v =>
      obtain ⟨b, b1, b2, b3⟩ := z
      have ne : b ≠ t := fun z => h2 ⟨i, v, a1, by rw [a2, b1, z]⟩
      exact ⟨b, b1, b2, b3.mono (Same.refl _) (upd_ne ne)⟩
end
section
variable {X : Cx} {W : WX} {k : Nat} {elt tg iter : Expr} {ifs : List Expr} {scope : Scope} {own : List (Str × Nat)} {pos : Pos} {mi : M (List Val)} {mt : Val → M Unit} {mc : M Bool} {me : M RV}
theorem sts_nil : STs X W [] mYes := ⟨fun pins s σ H Q I ⟨np, F, e, R, h⟩ => (pts_nil (X := X)).run pins s σ H Q I (h.ok (e' := e) (r := true) rfl (Cur.refl R) rfl)⟩
theorem sts_one {c : Expr} {m : M Bool} (h : ST X W c m) : STs X W [c] m := pts_one h
theorem comp_ok {K : PySem.W.Frag} {ws : List Nat} {σ : Sig} {H : Hp} {Q : VK} (h : tE K W (mComp ws mi mt mc me) σ H Q) : tLc (tM K W (RI K) mi) (tG K noW ws mt) (tT K noW mc) (tE K noW me) ws σ H Q := by
  obtain ⟨np, F, e, R, h⟩ := h
  refine use (R1 := RI K) (Cur.refl R) h fun vs e1 F1 H1 J C1 q1 _ h1 => ?_
  obtain ⟨Gd, Y, wk, still, gives⟩ := q1
  intro D hD
  have lw : (wipe σ ws).length = σ.length := wipe_length σ ws
  -- what holds between two turns
  let Pv : Nat → Hp → Prop := fun i H' => ∃ F' e' acc us, Cur K (bg np F H e σ) F' H' (wipeE e' ws) (wipe σ ws) ∧ Same F1 F' ∧ F' D = none ∧ ¬ Own (wipeE e' ws) (wipe σ ws) D ∧ (bg np F H e σ).mine D ∧ H' D = some (.lst us) ∧ VRs K F' acc us ∧
    (match compS ws mt mc me (vs.drop i) acc (wipeE e' ws) with
      | .ok acc' e2 => ∀ F2 H2 t us2, Cur K (bg np F H e σ) F2 H2 e2 (wipe σ ws) → F2 t = none → H2 t = some (.lst us2) → VRs K F2 acc' us2 → ¬ Own e2 (wipe σ ws) t → (bg np F H e σ).mine t → (∃ e3, e2 = wipeE e3 ws) → Q (.ref t) H2
      | _ => False)
  refine lc_it wk Pv ?_ ?_ ?_ ?_
  · -- the start
    obtain ⟨C2, n2, f2, m2⟩ := C1.grow (o := .lst []) hD
    have C3 : Cur K (bg np F H e σ) F1 (upd H1 D (.lst [])) (wipeE e1 ws) (wipe σ ws) := C2.wiped lw fun i hi => wipe_out hi
    refine ⟨F1, e1, [], [], C3, Same.refl _, f2, fun z => n2 ?_, m2, upd_same, .nil, ?_⟩
    · obtain ⟨i, v, z1, z2⟩ := z
      rcases wipeE_un z1 with q | ⟨q1, q2⟩
      · cases q
      · exact ⟨i, v, q2, by rw [← wipe_out q1]; exact z2⟩
    · unfold At at h1
      rw [List.drop_zero]
      cases z : compS ws mt mc me vs [] (wipeE e1 ws) with
      | bad => simp only [z] at h1
      | rs x e2 =>
        -- never: a comprehension gives no exception
        exfalso
        have no : ∀ (vs acc : List Val) (e : Ev) x e2, compS ws mt mc me vs acc e ≠ .rs x e2 := by
          intro vs
          induction vs with
          | nil => intro acc e x e2 z; cases z
          | cons v r ih =>
            intro acc e x e2 z
            unfold compS at z
            split at z
            · split at z
              · split at z
                · split at z
                  · split at z
                    · exact ih _ _ _ _ z
                    · cases z
                  · cases z
                · cases z
              · exact ih _ _ _ _ z
              · cases z
            · cases z
        exact no _ _ _ _ _ z
      | ok acc' e2 =>
        simp only [z] at h1
        intro F2 H2 t us2 D1 d2 d3 d4 d5 d6 d7
        obtain ⟨e3, rfl⟩ := d7
        have D2 : Cur K (bg np F H e σ) F2 H2 (wipeE e3 ws) σ := by
          have z := D1.wiped (ws := ws) (τ := σ) lw.symm fun i hi => (wipe_out hi).symm
          have twice : wipeE (wipeE e3 ws) ws = wipeE e3 ws := by
            refine List.ext_getElem? fun i => ?_
            have l1 : (wipeE (wipeE e3 ws) ws).length = (wipeE e3 ws).length := wipeE_length _ _
            cases q : (wipeE (wipeE e3 ws) ws)[i]? with
            | none =>
              have := List.getElem?_eq_none_iff.mp q
              exact (List.getElem?_eq_none (by omega)).symm
            | some s =>
              rcases wipeE_un q with z | ⟨z1, z2⟩
              · have il : i < (wipeE e3 ws).length := by
                  have := (List.getElem?_eq_some_iff.mp q).1
                  omega
                by_cases hi : i ∈ ws
                · subst z
                  have un : ∀ {ws : List Nat} {e : Ev}, i ∈ ws → i < e.length → (wipeE e ws)[i]? = some .un := by
                    intro ws
                    induction ws with
                    | nil => intro e hm; cases hm
                    | cons w ws ih =>
                      intro e hm hl
                      unfold wipeE
                      by_cases hw : w = i
                      · subst hw
                        rw [List.getElem?_set_self (by rw [wipeE_length]; exact hl)]
                      · rw [List.getElem?_set_ne hw]
                        refine ih ?_ hl
                        rcases List.mem_cons.mp hm with q | q
                        · exact absurd q.symm hw
                        · exact q
                  exact (un hi (by rw [wipeE_length] at il; exact il)).symm
                · have keep : ∀ {ws : List Nat} {e : Ev}, i ∉ ws → (wipeE e ws)[i]? = e[i]? := by
                    intro ws
                    induction ws with
                    | nil => intro e _; rfl
                    | cons w ws ih =>
                      intro e hm
                      simp only [List.mem_cons, not_or] at hm
                      unfold wipeE
                      rw [List.getElem?_set_ne (fun z => hm.1 z.symm)]
                      exact ih hm.2
                  rw [keep hi] at q
                  exact q.symm
              · exact z2.symm
          rw [twice] at z
          exact z
        refine h1 F2 H2 (.ref t) D2 ⟨t, rfl, d2, ⟨us2, d3, d4⟩, fun ⟨i, v, z1, z2⟩ => d5 ?_, d6⟩
        rcases wipeE_un z1 with q | ⟨q1, q2⟩
        · cases q
        · exact ⟨i, v, z1, by rw [wipe_out q1]; exact z2⟩
  · rintro i H' _ ⟨F', e', acc, us, C', s', _⟩
    exact still H' (s'.trans C'.rel.sub)
  · -- a turn
    rintro i x H' H2 hi ⟨F', e', acc, us, C', s', fD, oD, mD, hD', ra, h'⟩ y
    have hv : vs[i]? = some vs[i] := List.getElem?_eq_getElem hi
    obtain ⟨F2, C2, s2, r2⟩ := gives i _ _ _ _ _ _ _ _ hv C' s' y
    rw [List.drop_eq_getElem_cons hi] at h'
    have keepD : ∀ {F3 H3 : Hp} {e3 : Ev} {σ3 : Sig}, Cur K (bg np F' H' (wipeE e' ws) (wipe σ ws)) F3 H3 e3 σ3 → F3 D = none ∧ H3 D = some (.lst us) ∧ ¬ Own e3 σ3 D := fun {F3 H3 e3 σ3} c => by
      have no : ¬ (bg np F' H' (wipeE e' ws) (wipe σ ws)).mine D := fun z => by
        rcases z with z | z
        · exact oD z
        · have z' : H' D = none := z
          rw [hD'] at z'; cases z'
      refine ⟨?_, c.post.fr D _ hD' oD (fun _ z => by cases z), fun z => no (c.own D z)⟩
      cases q : F3 D with
      | none => rfl
      | some o =>
        rcases c.post.nw D (by rw [q]; simp) with z | z
        · exact absurd fD z
        · exact absurd z no
    -- the walk itself gave the item: since the turn's beginning
    obtain ⟨F2', C2', s2', r2'⟩ := gives i _ (bg np F' H' (wipeE e' ws) (wipe σ ws)) _ _ _ _ _ _ hv (Cur.refl C'.rel) s' y
    refine ⟨np, F2', _, vs[i], C2'.rel, r2', ?_⟩
    unfold compS at h'
    unfold AtG
    cases z : mt vs[i] (wipeE e' ws) with
    | bad => simp only [z] at h'
    | rs x2 e2 => simp only [z] at h'
    | ok _ e2 =>
      simp only [z] at h'
      intro F3 H3 σ3 C3 up
      have D3 := C2'.trans C3
      have w3 : wipe σ3 ws = wipe σ ws := wipe_upd up
      refine ⟨w3, np, F3, e2, C3.rel, ?_⟩
      unfold At
      cases z2 : mc e2 with
      | bad => simp only [z2] at h'
      | rs x2 e2 => simp only [z2] at h'
      | ok b e3 =>
        intro F4 H4 b' C4 eb
        have eb' : b = b' := eb
        subst eb'
        have D4 := D3.trans C4
        cases b with
        | false =>
          simp only [z2] at h'
          obtain ⟨k1, k2, k3⟩ := keepD D4
          have D5 : Cur K (bg np F' H' (wipeE e' ws) (wipe σ ws)) F4 H4 (wipeE e3 ws) (wipe σ ws) := D4.wiped (by rw [← w3]; exact wipe_length _ _) fun i hi => by rw [← w3]; exact wipe_out hi
          obtain ⟨l1, l2, l3⟩ := keepD D5
          exact ⟨F4, e3, acc, us, C'.trans D5, s'.trans (D5.post.sub), l1, l3, mD, l2, ra.mono D5.post.sub, h'⟩
        | true =>
          simp only [z2] at h'
          refine ⟨np, F4, e3, C4.rel, ?_⟩
          unfold At
          cases z3 : me e3 with
          | bad => simp only [z3] at h'
          | rs x2 e2 => simp only [z3] at h'
          | ok x e4 =>
            simp only [z3] at h'
            intro F5 H5 u C5 q5
            have D5 := D4.trans C5
            have q5' : RR K (bg np F' H' (wipeE e' ws) (wipe σ ws)) F5 H5 e4 σ3 x u := q5.out D4
            cases z4 : M.dt x e4 with
            | bad => simp only [z4] at h'
            | rs x2 e2 => simp only [z4] at h'
            | ok w e5 =>
              simp only [z4] at h'
              obtain ⟨F6, C6, s6, r6, _⟩ := dt_go D5 q5' z4
              by_cases hl : acc.length < sizeLine
              · rw [if_pos hl] at h'
                have D6 : Cur K (bg np F' H' (wipeE e' ws) (wipe σ ws)) F6 H5 (wipeE e5 ws) (wipe σ ws) := C6.wiped (by rw [← w3]; exact wipe_length _ _) fun i hi => by rw [← w3]; exact wipe_out hi
                obtain ⟨l1, l2, l3⟩ := keepD D6
                refine ⟨us, l2, by rw [← ra.length]; exact hl, ?_⟩
                have D7 := C'.trans D6
                exact ⟨F6, e5, acc ++ [w], us ++ [u], D7.write l1 l3 mD l2, s'.trans D6.post.sub, l1, l3, mD, upd_same, (ra.mono D6.post.sub).append (.cons r6 .nil), h'⟩
              · rw [if_neg hl] at h'
                exact h'.elim
  · rintro H' ⟨F', e', acc, us, C', s', fD, oD, mD, hD', ra, h'⟩
    rw [List.drop_length] at h'
    exact h' F' H' D us C' fD hD' ra oD mD ⟨e', rfl⟩
theorem se_comp (hc : X.calm = true) (hN : X.N.Nodup) (hi : SI X W tg iter mi) (ok : BlkOk X.N X.env.scope scope own)
    (hg : ∀ (s : Shared) (H : Hp) (C : Addr) (cl : List (Str × Addr)) (fp : List Addr), SG (X.blk s H scope (compEnvC scope cl C X.env) fp) noW (own.map (·.2)) tg mt)
    (ht : ∀ (s : Shared) (H : Hp) (C : Addr) (cl : List (Str × Addr)) (fp : List Addr), STs (X.blk s H scope (compEnvC scope cl C X.env) fp) noW ifs mc)
    (he : ∀ (s : Shared) (H : Hp) (C : Addr) (cl : List (Str × Addr)) (fp : List Addr), SE (X.blk s H scope (compEnvC scope cl C X.env) fp) noW elt me) (hs : ∀ x, foldedSetIterable iter X.env x = pure x := by intro _; rfl) :
    SE X W (.ListComp elt [⟨tg, iter, ifs, 0⟩] scope pos) (mComp (own.map (·.2)) mi mt mc me) :=
  PE.imp (pe_lc (te := tE X.K noW me) (tt := tT X.K noW mc) (g := tG X.K noW (own.map (·.2)) mt) hc hN hi ok hg ht he hs) fun _ _ _ h => comp_ok h
theorem ss_comp (i : Nat) {np : Nat} {y : Str} {py spos : Pos} (G : Good X k W) (hi : SI X W tg iter mi) (ok : BlkOk X.N X.env.scope scope own)
    (hg : ∀ (s : Shared) (H : Hp) (C : Addr) (cl : List (Str × Addr)) (fp : List Addr), SG (X.blk s H scope (compEnvC scope cl C X.env) fp) noW (own.map (·.2)) tg mt)
    (ht : ∀ (s : Shared) (H : Hp) (C : Addr) (cl : List (Str × Addr)) (fp : List Addr), STs (X.blk s H scope (compEnvC scope cl C X.env) fp) noW ifs mc)
    (he : ∀ (s : Shared) (H : Hp) (C : Addr) (cl : List (Str × Addr)) (fp : List Addr), SE (X.blk s H scope (compEnvC scope cl C X.env) fp) noW elt me)
    (hsw : swapsWith (.ListComp elt [⟨tg, iter, ifs, 0⟩] scope pos) (some (.Name y py)) spos.line X.env = pure true) (hp : np ≤ i := by decide) (hy : X.N[i]? = some y := by rfl) (hyl : X.env.scope.names.lookup y = some .local := by rfl)
    (hs : ∀ x, foldedSetIterable iter X.env x = pure x := by intro _; rfl) :
    SS X W np (.Assign [.Name y py] (.ListComp elt [⟨tg, iter, ifs, 0⟩] scope pos) spos) (mSet i (mComp (own.map (·.2)) mi mt mc me)) := by
  refine PS.imp (ps_setLc (te := tE X.K noW me) (tt := tT X.K noW mc) (g := tG X.K noW (own.map (·.2)) mt) G.calm G.nd hy hyl hsw hi ok hg ht he hs) fun D σ H h => ?_
  refine comp_ok ?_
  obtain ⟨F, e, R, h⟩ := h
  exact useX (R1 := RR X.K) (Cur.refl R) h fun r e1 F1 H1 u C1 q1 _ h1 => st_ok hp C1 q1 h1
end
end Pu
set_option Elab.async false
set_option linter.all false
set_option maxRecDepth 100000
namespace Pu
open PySem PySem.Spec PyProof.Rows L2
theorem outE_len : ∀ e : Ev, (outE e).length = e.length
  | [] => rfl
  | .own v :: r => congrArg Nat.succ (outE_len r)
  | .un :: r => congrArg Nat.succ (outE_len r)
  | .dat _ :: r => congrArg Nat.succ (outE_len r)
theorem outE_get : ∀ {e : Ev} {i : Nat} {s : Slot}, (outE e)[i]? = some s → s = .un ∨ ∃ v, s = .own v ∧ e[i]? = some (.own v)
  | [], i, s, h => by simp [outE] at h
  | .own v :: r, 0, s, h => by
    simp only [outE, List.getElem?_cons_zero, Option.some.injEq] at h
    exact .inr ⟨v, h.symm, rfl⟩
  | .un :: r, 0, s, h => by
    simp only [outE, List.getElem?_cons_zero, Option.some.injEq] at h
    exact .inl h.symm
  | .dat _ :: r, 0, s, h => by
    simp only [outE, List.getElem?_cons_zero, Option.some.injEq] at h
    exact .inl h.symm
  | .own v :: r, i + 1, s, h => by
    simp only [outE, List.getElem?_cons_succ] at h ⊢
    exact outE_get h
  | .un :: r, i + 1, s, h => by
    simp only [outE, List.getElem?_cons_succ] at h ⊢
    exact outE_get h
  | .dat _ :: r, i + 1, s, h => by
    simp only [outE, List.getElem?_cons_succ] at h ⊢
    exact outE_get h
section
variable {K : PySem.W.Frag} {F F' H H' : Hp} {e e' : Ev} {σ σ' : Sig} {n np k : Nat}
theorem own_app {m : Nat} (hl : e.length = σ.length) (a : Addr) : Own (e ++ List.replicate m Slot.un) (σ ++ List.replicate k none) a ↔ Own e σ a := by
  constructor
  · rintro ⟨i, v, h1, h2⟩
    by_cases hi : i < e.length
    · rw [List.getElem?_append_left hi] at h1
      rw [List.getElem?_append_left (by omega)] at h2
      exact ⟨i, v, h1, h2⟩
    · rw [List.getElem?_append_right (by omega), List.getElem?_replicate] at h1
      split at h1 <;> cases h1
  · rintro ⟨i, v, h1, h2⟩
    have hi : i < e.length := (List.getElem?_eq_some_iff.mp h1).1
    exact ⟨i, v, by rw [List.getElem?_append_left hi]; exact h1, by rw [List.getElem?_append_left (by omega)]; exact h2⟩
theorem rel_app {m : Nat} (R : Rel K F H e σ) (hm : m = k) : Rel K F H (e ++ List.replicate m Slot.un) (σ ++ List.replicate k none) := by
  have l := R.len
  have low : ∀ {i : Nat} {v : Val}, (e ++ List.replicate m Slot.un)[i]? = some (.own v) → i < e.length ∧ e[i]? = some (.own v) := fun {i v} h => by
    by_cases hi : i < e.length
    · rw [List.getElem?_append_left hi] at h; exact ⟨hi, h⟩
    · rw [List.getElem?_append_right (by omega), List.getElem?_replicate] at h
      split at h <;> cases h
  refine ⟨R.sub, by simp [l, hm], fun i s o h1 h2 => ?_, fun i j v w a h1 h2 h3 h4 => ?_, R.tb, R.nt⟩
  · by_cases hi : i < e.length
    · rw [List.getElem?_append_left hi] at h1
      rw [List.getElem?_append_left (by omega)] at h2
      exact R.slot i s o h1 h2
    · rw [List.getElem?_append_right (by omega), List.getElem?_replicate] at h1
      split at h1
      · cases h1; trivial
      · cases h1
  · obtain ⟨a1, a2⟩ := low h1
    obtain ⟨b1, b2⟩ := low h2
    rw [List.getElem?_append_left (by omega)] at h3 h4
    exact R.inj i j v w a a2 b2 h3 h4
theorem out_cur {m : Nat} {x : Ev} (hl : e.length = n) (hs : σ.length = n) (C : Cur K (bg n F H (e ++ List.replicate m Slot.un) (σ ++ List.replicate k none)) F' H' e' σ') (hx : ∀ (i : Nat) (v : Val), x[i]? = some (Slot.own v) → e'[i]? = some (Slot.own v)) (lx : x.length = e'.length) :
    Cur K (bg np F H e σ) F' H' (outE (x.take n)) σ := by
  have low : ∀ {i : Nat} {v : Val}, (outE (x.take n))[i]? = some (.own v) → i < n ∧ e'[i]? = some (.own v) ∧ σ'[i]? = σ[i]? ∧ ∃ w, e[i]? = some (.own w) := fun {i v} h => by
    rcases outE_get h with z | ⟨w, z, h2⟩
    · cases z
    · cases z
      have hi : i < n := by
        have := (List.getElem?_eq_some_iff.mp h2).1
        rw [List.length_take] at this
        omega
      rw [List.getElem?_take_of_lt hi] at h2
      have h3 := hx i v h2
      obtain ⟨h4, w, h5⟩ := C.par i v hi h3
      have h4' : σ'[i]? = (σ ++ List.replicate k none)[i]? := h4
      have h5' : (e ++ List.replicate m Slot.un)[i]? = some (.own w) := h5
      rw [List.getElem?_append_left (by omega)] at h4' h5'
      exact ⟨hi, h3, h4', w, h5'⟩
  have len : (outE (x.take n)).length = n := by
    rw [outE_len, List.length_take, lx]
    have := C.ln
    have e1 : e'.length = (e ++ List.replicate m Slot.un).length := this
    rw [List.length_append] at e1
    omega
  have O : ∀ a, (bg n F H (e ++ List.replicate m Slot.un) (σ ++ List.replicate k none)).O a ↔ Own e σ a := fun a => own_app (by omega) a
  have mine : ∀ {a}, (bg n F H (e ++ List.replicate m Slot.un) (σ ++ List.replicate k none)).mine a → (bg np F H e σ).mine a := fun {a} h => by
    rcases h with h | h
    · exact .inl ((O a).mp h)
    · exact .inr h
  refine ⟨⟨C.post.sub, fun a o h1 h2 h5 => C.post.fr a o h1 (fun z => h2 ((O a).mp z)) h5, fun a h => ?_, C.post.kp⟩, ⟨C.rel.sub, by rw [len, hs], fun i s o h1 h2 => ?_, fun i j v w a h1 h2 h3 h4 => ?_, C.rel.tb, C.rel.nt⟩, fun a ⟨i, v, h1, h2⟩ => ?_, by rw [len]; exact hl.symm, fun i v _ h => ?_⟩
  · rcases C.post.nw a h with z | z
    · exact .inl z
    · exact .inr (mine z)
  · rcases outE_get h1 with z | ⟨w, z, h3⟩
    · subst z; trivial
    · subst z
      obtain ⟨a1, a2, a3, _⟩ := low h1
      exact C.rel.slot i _ o a2 (by rw [a3]; exact h2)
  · obtain ⟨a1, a2, a3, _⟩ := low h1
    obtain ⟨b1, b2, b3, _⟩ := low h2
    exact C.rel.inj i j v w a a2 b2 (by rw [a3]; exact h3) (by rw [b3]; exact h4)
  · obtain ⟨a1, a2, a3, _⟩ := low h1
    exact mine (C.own a ⟨i, v, a2, by rw [a3]; exact h2⟩)
  · obtain ⟨a1, a2, a3, a4⟩ := low h
    exact ⟨rfl, a4⟩
theorem take_own {x : Ev} {i : Nat} {v : Val} (h : (x.set k .un)[i]? = some (.own v)) : x[i]? = some (.own v) := by
  rcases getset h with ⟨_, z, _⟩ | ⟨_, z⟩
  · cases z
  · exact z
end
section
variable {P : Program} {w : World} {K : PySem.W.Frag} {mg : Str → Option Value} {base : Heap}
theorem fn_ok {x qual : Str} {params : Arguments} {body : List Stmt} {scope : Scope} {dvs : List V} {kws : List (Str × V)} {f : Addr} {fd : FuncData} {N ps : List Str} {k n nn : Nat} {mb : S} (D : FunD K x qual params body scope dvs kws f fd) (S : FnScope N ps scope)
    (h1 : ps.length = n) (h2 : N.length = nn)
    (hb : ∀ (cdv : Value) (A : Around) (outer : List Env) (s : Shared) (H : Hp) (E : XK), Good (cxOf (L2N.CX P w) P w K mg base N qual scope f cdv A outer s H E) k (fun c d _ H => E c d H) →
      SB (cxOf (L2N.CX P w) P w K mg base N qual scope f cdv A outer s H E) (fun c d _ H => E c d H) n body mb) : FnG P w K mg base (k + 1) f fd ps (spG K n (fnDen n nn mb)) := by
  refine fnG_of D S (fun vs H Q E h => h.1.trans h1.symm) fun cdv A outer s H vs Q E hr hG h => ?_
  have G : Good (cxOf (L2N.CX P w) P w K mg base N qual scope f cdv A outer s H E) k (fun c d _ H => E c d H) :=
    ⟨S.nd, rfl, hr, guards_deeper hG, L2N.takes_of rfl rfl rfl rfl, passes_of (K := fun e s'' => L2N.CX P w outer H s E e s'') rfl⟩
  refine ⟨_, hb cdv A outer s H E G, ?_⟩
  obtain ⟨hl, np, F, e, R, h⟩ := h
  have el : e.length = n := by rw [R.len, List.length_map, hl]
  have sl : (vs.map some).length = n := by rw [List.length_map, hl]
  have R0 := rel_app (m := nn - n) (k := N.length - vs.length) R (by rw [h2, hl])
  refine ⟨F, e ++ List.replicate (nn - n) Slot.un, (show Rel K F H (e ++ List.replicate (nn - n) Slot.un) (start N vs) from R0), ?_⟩
  unfold At fnDen at h
  rw [if_pos el] at h
  unfold AtS
  show match mb (e ++ List.replicate (nn - n) Slot.un) with
    | .ok .nx e' => _
    | .ok .bk e' => _
    | .ok .ct e' => _
    | .ok (.rt r) e' => _
    | .rs x e' => _
    | .bad => _
  cases z : mb (e ++ List.replicate (nn - n) Slot.un) with
  | bad => simp only [z] at h
  | rs y e' =>
    simp only [z] at h
    intro F' H' σ' cls d C X
    exact h F' H' cls d (out_cur el sl C (fun _ _ q => q) rfl) X
  | ok o e' =>
    cases o with
    | bk => simp only [z] at h
    | ct => simp only [z] at h
    | nx =>
      simp only [z] at h
      intro F' H' σ' C
      exact h F' H' .non (out_cur el sl C (fun _ _ q => q) rfl) VR.non
    | rt r =>
      simp only [z] at h
      intro F' H' σ' u C q
      cases r with
      | dat v => exact h F' H' u (out_cur el sl C (fun _ _ q => q) rfl) q
      | tmp v =>
        obtain ⟨t, rfl, q2, q3, q4, q5⟩ := q
        have C2 := out_cur (np := np) el sl C (fun _ _ q => q) rfl
        refine h F' H' (.ref t) C2 ⟨t, rfl, q2, q3, fun ⟨i, v', a1, a2⟩ => q4 ?_, ?_⟩
        · rcases outE_get a1 with z | ⟨w', z, a3⟩
          · cases z
          · cases z
            have hi : i < n := by
              have := (List.getElem?_eq_some_iff.mp a3).1
              rw [List.length_take] at this
              omega
            rw [List.getElem?_take_of_lt hi] at a3
            obtain ⟨h4, _⟩ := C.par i v' hi a3
            have h4' : σ'[i]? = (start N vs)[i]? := h4
            refine ⟨i, v', a3, ?_⟩
            rw [h4']
            unfold L2.start
            rw [List.getElem?_append_left (by omega)]
            exact a2
        · rcases q5 with q5 | q5
          · exact .inl ((own_app (by omega) t).mp q5)
          · exact .inr q5
      | bor i =>
        unfold retV at h
        dsimp only at h
        cases z2 : e'[i]? with
        | none => simp only [z2] at h
        | some sl' =>
          cases sl' with
          | un => simp only [z2] at h
          | dat v =>
            simp only [z2] at h
            obtain ⟨y, a1, a2⟩ := C.rel.slot i _ _ z2 q
            cases a1
            exact h F' H' u (out_cur el sl C (fun _ _ q => q) rfl) a2
          | own v =>
            simp only [z2] at h
            obtain ⟨t, a1, a2, a3⟩ := C.rel.slot i _ _ z2 q
            cases a1
            have C2 := out_cur (np := np) (x := e'.set i .un) el sl C (fun _ _ q => take_own q) (List.length_set)
            refine h F' H' (.ref t) C2 ⟨t, rfl, a2, a3, fun ⟨j, v', b1, b2⟩ => ?_, ?_⟩
            · rcases outE_get b1 with z | ⟨w', z, b3⟩
              · cases z
              · cases z
                have hi : j < n := by
                  have := (List.getElem?_eq_some_iff.mp b3).1
                  rw [List.length_take] at this
                  omega
                rw [List.getElem?_take_of_lt hi] at b3
                rcases getset b3 with ⟨_, z, _⟩ | ⟨ne, b3⟩
                · cases z
                · obtain ⟨h4, _⟩ := C.par j v' hi b3
                  have h4' : σ'[j]? = (start N vs)[j]? := h4
                  have b4 : σ'[j]? = some (some (V.ref t)) := by
                    rw [h4']
                    unfold L2.start
                    rw [List.getElem?_append_left (by omega)]
                    exact b2
                  exact ne (C.rel.inj i j v v' t z2 b3 q b4)
            · rcases C.own t ⟨i, v, z2, q⟩ with q5 | q5
              · exact .inl ((own_app (by omega) t).mp q5)
              · exact .inr q5
end
end Pu
set_option Elab.async false
set_option linter.all false
set_option maxRecDepth 100000
namespace Pu
open PySem PySem.Spec PyProof.Rows L2
section
variable {K : PySem.W.Frag} {W : WX} {B : Bg} {H : Hp} {σ : Sig}
def Src (e : Ev) (σ : Sig) (rs : List RV) (us : List V) (a : Addr) : Prop := Own e σ a ∨ ∃ (j : Nat) (w : Val), rs[j]? = some (.tmp w) ∧ us[j]? = some (.ref a)
theorem dt_more {F : Hp} {e e' : Ev} {r : RV} {u : V} {v : Val} (C : Cur K B F H e σ) (h : RR K B F H e σ r u) (q : M.dt r e = .ok v e') :
    ∃ F', Cur K B F' H e' σ ∧ Same F F' ∧ VR K F' v u ∧ (∀ r' u', RR K B F H e σ r' u' → (∀ v w, r = .tmp v → r' = .tmp w → u' ≠ u) → RR K B F' H e' σ r' u') ∧
      (∀ a, Own e' σ a → Own e σ a) ∧ ∀ a, F' a ≠ none → F a ≠ none ∨ Own e σ a ∨ ∃ w, r = .tmp w ∧ u = .ref a := by
  cases r with
  | dat w =>
    obtain ⟨F', a, b, c, d⟩ := dt_go C h q
    cases q
    exact ⟨F, C, Same.refl _, h, fun _ _ z _ => z, fun _ z => z, fun _ z => .inl z⟩
  | tmp w =>
    cases q
    obtain ⟨t, h1, h2, h3, h4, h5⟩ := h
    subst h1
    refine ⟨frz F H t, C.frz h2 h4 h5 h3.nt, frz_sub h2, h3.vr (frz_sub h2) frz_same, fun r' u' z d => ?_, fun _ z => z, fun a z => ?_⟩
    · cases r' with
      | dat v => exact VR.mono (frz_sub h2) z
      | bor i => exact z
      | tmp w' =>
        obtain ⟨t', a1, a2, a3, a4, a5⟩ := z
        have ne : t' ≠ t := fun z => d v w' rfl rfl (by rw [a1, z])
        exact ⟨t', a1, by rw [frz_ne ne]; exact a2, a3.mono (frz_sub h2) rfl, a4, a5⟩
    · by_cases ha : a = t
      · exact .inr (.inr ⟨v, rfl, by rw [ha]⟩)
      · rw [frz_ne ha] at z; exact .inl z
  | bor i =>
    have h' : σ[i]? = some (some u) := h
    have q0 := q
    unfold M.dt at q
    cases z : e[i]? with
    | none => simp only [z] at q; cases q
    | some s =>
      cases s with
      | un => simp only [z] at q; cases q
      | dat w =>
        obtain ⟨F', a, b, c, d⟩ := dt_go C h q0
        simp only [z] at q
        cases q
        refine ⟨F, C, Same.refl _, ?_, fun _ _ z _ => z, fun _ z => z, fun _ z => .inl z⟩
        obtain ⟨x, h1, h2⟩ := C.rel.slot i _ _ z h'
        rw [Option.some.inj h1]; exact h2
      | own w =>
        simp only [z] at q
        cases q
        obtain ⟨t, h1, h2, h3⟩ := C.rel.slot i _ _ z h'
        have eu : u = .ref t := Option.some.inj h1
        subst eu
        have no : ∀ {a}, Own (e.set i .un) σ a → a ≠ t := fun {a} ⟨j, w, b1, b2⟩ z2 => by
          rcases getset b1 with ⟨_, z3, _⟩ | ⟨z3, b1⟩
          · cases z3
          · rw [z2] at b2
            exact z3 (C.rel.inj i j v w t z b1 h' b2)
        have ot : Own e σ t := ⟨i, v, z, h'⟩
        have C2 := (C.forget (i := i)).frz h2 (fun z2 => no z2 rfl) (C.own t ot) h3.nt
        have C3 : Cur K B (Pu.frz F H t) H ((e.set i .un).set i (.dat v)) σ := C2.slot (fun _ z => nomatch z) fun o ho => by
          rw [h'] at ho; cases ho
          exact ⟨_, rfl, h3.vr (frz_sub h2) frz_same⟩
        rw [List.set_set] at C3
        refine ⟨_, C3, frz_sub h2, h3.vr (frz_sub h2) frz_same, fun r' u' zz d => ?_, fun a z => z.unset1 Slot.dat_ne, fun a z2 => ?_⟩
        · cases r' with
          | dat v => exact VR.mono (frz_sub h2) zz
          | bor i => exact zz
          | tmp w =>
            obtain ⟨t', a1, a2, a3, a4, a5⟩ := zz
            have ne : t' ≠ t := fun z3 => a4 (by rw [z3]; exact ot)
            exact ⟨t', a1, by rw [frz_ne ne]; exact a2, a3.mono (frz_sub h2) rfl, fun z4 => a4 (z4.unset1 Slot.dat_ne), a5⟩
        · by_cases ha : a = t
          · exact .inr (.inl (by rw [ha]; exact ot))
          · rw [frz_ne ha] at z2; exact .inl z2
theorem args_ok : ∀ {ms : List Bool} {rs : List RV} {us : List V} {pe e1 e : Ev} {F : Hp}, Cur K B F H e σ → RRs K B F H e σ rs us → argsE ms rs e = some (pe, e1) →
    ∃ F1, Cur K B F1 H e1 σ ∧ Same F F1 ∧ Rel K F1 H pe (us.map some) ∧ (∀ a, Own e1 σ a → Own e σ a) ∧ (∀ a, Own pe (us.map some) a → B.mine a ∧ ¬ Own e1 σ a ∧ Src e σ rs us a) ∧
      (∀ a, F1 a ≠ none → F a ≠ none ∨ Src e σ rs us a) ∧
      (∀ (j i : Nat), ms[j]? = some true → rs[j]? = some (.bor i) → i < B.np → σ[i]? = B.sg[i]? ∧ ∃ w, B.ev[i]? = some (.own w))
  | [], [], us, pe, e1, e, F, C, r, h => by
    cases r
    cases h
    refine ⟨F, C, Same.refl _, ⟨C.rel.sub, rfl, fun i s o h => by simp at h, fun i j v w a h => by simp at h, C.rel.tb, C.rel.nt⟩, fun _ z => z, fun a ⟨i, v, h, _⟩ => by simp at h, fun _ z => .inl z, fun j i h => by simp at h⟩
  | false :: ms, r :: rs, us, pe, e1, e, F, C, q, h => by
    cases q with
    | cons q1 d t =>
      rename_i u us
      unfold argsE at h
      cases z : M.dt r e with
      | bad => simp only [z] at h; cases h
      | rs x e' => exact (dt_some _ _ z).elim
      | ok v e' =>
        simp only [z] at h
        obtain ⟨F2, C2, s2, r2, keep, om, fm⟩ := dt_more C q1 z
        cases z2 : argsE ms rs e' with
        | none => simp only [z2] at h; cases h
        | some pr =>
          obtain ⟨p, e2⟩ := pr
          simp only [z2] at h
          cases h
          obtain ⟨F3, C3, s3, R3, o3, m3, f3, p3⟩ := args_ok C2 (RRs.tail_keep keep t d) z2
          have up : ∀ {a}, Src e' σ rs us a → Src e σ (r :: rs) (u :: us) a := fun {a} y => by
            rcases y with y | ⟨j, w, y1, y2⟩
            · exact .inl (om a y)
            · exact .inr ⟨j + 1, w, by simpa using y1, by simpa using y2⟩
          refine ⟨F3, C3, s2.trans s3, ⟨R3.sub, by simp [R3.len], fun i s o h1 h2 => ?_, fun i j v' w a h1 h2 h3 h4 => ?_, R3.tb, R3.nt⟩, fun a y => om a (o3 a y), fun a ⟨i, v', h1, h2⟩ => ?_, fun a y => ?_, fun j i y1 y2 => ?_⟩
          · cases i with
            | zero =>
              simp only [List.getElem?_cons_zero, Option.some.injEq, List.map_cons] at h1 h2
              subst h1 h2
              exact ⟨u, rfl, r2.mono s3⟩
            | succ i => exact R3.slot i s o (by simpa using h1) (by simpa using h2)
          · cases i with
            | zero => simp at h1
            | succ i => cases j with
              | zero => simp at h2
              | succ j => rw [R3.inj i j v' w a (by simpa using h1) (by simpa using h2) (by simpa using h3) (by simpa using h4)]
          · cases i with
            | zero => simp at h1
            | succ i =>
              obtain ⟨y1, y2, y3⟩ := m3 a ⟨i, v', by simpa using h1, by simpa using h2⟩
              exact ⟨y1, y2, up y3⟩
          · rcases f3 a y with y | y
            · rcases fm a y with y | y | ⟨w, y1, y2⟩
              · exact .inl y
              · exact .inr (.inl y)
              · exact .inr (.inr ⟨0, w, by rw [y1]; rfl, by rw [y2]; rfl⟩)
            · exact .inr (up y)
          · cases j with
            | zero => simp at y1
            | succ j => exact p3 j i (by simpa using y1) (by simpa using y2)
  | true :: ms, .dat v :: rs, us, pe, e1, e, F, C, q, h => by
    cases q with
    | cons q1 d t =>
      rename_i u us
      unfold argsE at h
      cases z2 : argsE ms rs e with
      | none => simp only [z2] at h; cases h
      | some pr =>
        obtain ⟨p, e2⟩ := pr
        simp only [z2] at h
        cases h
        obtain ⟨F3, C3, s3, R3, o3, m3, f3, p3⟩ := args_ok C t z2
        have up : ∀ {a}, Src e σ rs us a → Src e σ (.dat v :: rs) (u :: us) a := fun {a} y => by
          rcases y with y | ⟨j, w, y1, y2⟩
          · exact .inl y
          · exact .inr ⟨j + 1, w, by simpa using y1, by simpa using y2⟩
        refine ⟨F3, C3, s3, ⟨R3.sub, by simp [R3.len], fun i s o h1 h2 => ?_, fun i j v' w a h1 h2 h3 h4 => ?_, R3.tb, R3.nt⟩, o3, fun a ⟨i, v', h1, h2⟩ => ?_, fun a y => ?_, fun j i y1 y2 => ?_⟩
        · cases i with
          | zero =>
            simp only [List.getElem?_cons_zero, Option.some.injEq, List.map_cons] at h1 h2
            subst h1 h2
            exact ⟨u, rfl, VR.mono s3 q1⟩
          | succ i => exact R3.slot i s o (by simpa using h1) (by simpa using h2)
        · cases i with
          | zero => simp at h1
          | succ i => cases j with
            | zero => simp at h2
            | succ j => rw [R3.inj i j v' w a (by simpa using h1) (by simpa using h2) (by simpa using h3) (by simpa using h4)]
        · cases i with
          | zero => simp at h1
          | succ i =>
            obtain ⟨y1, y2, y3⟩ := m3 a ⟨i, v', by simpa using h1, by simpa using h2⟩
            exact ⟨y1, y2, up y3⟩
        · rcases f3 a y with y | y
          · exact .inl y
          · exact .inr (up y)
        · cases j with
          | zero => simp at y2
          | succ j => exact p3 j i (by simpa using y1) (by simpa using y2)
  | true :: ms, .tmp v :: rs, us, pe, e1, e, F, C, q, h => by
    cases q with
    | cons q1 d t =>
      rename_i u us
      unfold argsE at h
      cases z2 : argsE ms rs e with
      | none => simp only [z2] at h; cases h
      | some pr =>
        obtain ⟨p, e2⟩ := pr
        simp only [z2] at h
        cases h
        obtain ⟨F3, C3, s3, R3, o3, m3, f3, p3⟩ := args_ok C t z2
        obtain ⟨a0, x1, x2, x3, x4, x5⟩ := q1
        subst x1
        have ns : ¬ Src e σ rs us a0 := fun y => by
          rcases y with y | ⟨j, w, y1, y2⟩
          · exact x4 y
          · exact d v rfl j w y1 y2
        have fa : F3 a0 = none := by
          cases y : F3 a0 with
          | none => rfl
          | some o =>
            rcases f3 a0 (by rw [y]; simp) with y | y
            · exact absurd x2 y
            · exact absurd y ns
        have up : ∀ {a}, Src e σ rs us a → Src e σ (.tmp v :: rs) (.ref a0 :: us) a := fun {a} y => by
          rcases y with y | ⟨j, w, y1, y2⟩
          · exact .inl y
          · exact .inr ⟨j + 1, w, by simpa using y1, by simpa using y2⟩
        have other : ∀ {i : Nat} {w : Val}, p[i]? = some (.own w) → (us.map some)[i]? = some (some (.ref a0)) → False := fun {i w} y1 y2 => ns (m3 a0 ⟨i, w, y1, y2⟩).2.2
        refine ⟨F3, C3, s3, ⟨R3.sub, by simp [R3.len], fun i s o h1 h2 => ?_, fun i j v' w a h1 h2 h3 h4 => ?_, R3.tb, R3.nt⟩, o3, fun a ⟨i, v', h1, h2⟩ => ?_, fun a y => ?_, fun j i y1 y2 => ?_⟩
        · cases i with
          | zero =>
            simp only [List.getElem?_cons_zero, Option.some.injEq, List.map_cons] at h1 h2
            subst h1 h2
            exact ⟨a0, rfl, fa, x3.mono s3 rfl⟩
          | succ i => exact R3.slot i s o (by simpa using h1) (by simpa using h2)
        · cases i with
          | zero => cases j with
            | zero => rfl
            | succ j =>
              have e0 : V.ref a0 = V.ref a := by simpa using h3
              cases e0
              exact (other (by simpa using h2) (by simpa using h4)).elim
          | succ i => cases j with
            | zero =>
              have e0 : V.ref a0 = V.ref a := by simpa using h4
              cases e0
              exact (other (by simpa using h1) (by simpa using h3)).elim
            | succ j => rw [R3.inj i j v' w a (by simpa using h1) (by simpa using h2) (by simpa using h3) (by simpa using h4)]
        · cases i with
          | zero =>
            have e0 : V.ref a0 = V.ref a := by simpa using h2
            cases e0
            exact ⟨x5, fun y => x4 (o3 _ y), .inr ⟨0, v, rfl, rfl⟩⟩
          | succ i =>
            obtain ⟨y1, y2, y3⟩ := m3 a ⟨i, v', by simpa using h1, by simpa using h2⟩
            exact ⟨y1, y2, up y3⟩
        · rcases f3 a y with y | y
          · exact .inl y
          · exact .inr (up y)
        · cases j with
          | zero => simp at y2
          | succ j => exact p3 j i (by simpa using y1) (by simpa using y2)
  | true :: ms, .bor i0 :: rs, us, pe, e1, e, F, C, q, h => by
    cases q with
    | cons q1 d t =>
      rename_i u us
      unfold argsE at h
      have q1' : σ[i0]? = some (some u) := q1
      cases z : e[i0]? with
      | none => simp only [z] at h; cases h
      | some sl => cases sl with
        | un => simp only [z] at h; cases h
        | dat w => simp only [z] at h; cases h
        | own v =>
          simp only [z] at h
          cases z2 : argsE ms rs (e.set i0 .un) with
          | none => simp only [z2] at h; cases h
          | some pr =>
            obtain ⟨p, e2⟩ := pr
            simp only [z2] at h
            cases h
            obtain ⟨a0, x1, x2, x3⟩ := C.rel.slot i0 _ _ z q1'
            have eu : u = .ref a0 := Option.some.inj x1
            subst eu
            have oa : Own e σ a0 := ⟨i0, v, z, q1'⟩
            have no : ¬ Own (e.set i0 .un) σ a0 := fun ⟨j, w, b1, b2⟩ => by
              rcases getset b1 with ⟨_, z3, _⟩ | ⟨z3, b1⟩
              · cases z3
              · exact z3 (C.rel.inj i0 j v w a0 z b1 q1' b2)
            have t1 : RRs K B F H (e.set i0 .un) σ rs us := by
              refine RRs.tail_keep (r := .bor i0) (u := .ref a0) (fun r' u' y _ => ?_) t fun v y => nomatch y
              cases r' with
              | dat v => exact y
              | bor i => exact y
              | tmp w =>
                obtain ⟨t', a1, a2, a3, a4, a5⟩ := y
                exact ⟨t', a1, a2, a3, fun y2 => a4 (y2.unset1 Slot.un_ne), a5⟩
            obtain ⟨F3, C3, s3, R3, o3, m3, f3, p3⟩ := args_ok (C.forget (i := i0)) t1 z2
            have ns : ¬ Src (e.set i0 .un) σ rs us a0 := fun y => by
              rcases y with y | ⟨j, w, y1, y2⟩
              · exact no y
              · obtain ⟨t', a1, a2, a3, a4, a5⟩ := t.mem_tmp y1 y2
                cases a1
                exact a4 oa
            have fa : F3 a0 = none := by
              cases y : F3 a0 with
              | none => rfl
              | some o =>
                rcases f3 a0 (by rw [y]; simp) with y | y
                · exact absurd x2 y
                · exact absurd y ns
            have up : ∀ {a}, Src (e.set i0 .un) σ rs us a → Src e σ (.bor i0 :: rs) (.ref a0 :: us) a := fun {a} y => by
              rcases y with y | ⟨j, w, y1, y2⟩
              · exact .inl (y.unset1 Slot.un_ne)
              · exact .inr ⟨j + 1, w, by simpa using y1, by simpa using y2⟩
            have other : ∀ {i : Nat} {w : Val}, p[i]? = some (.own w) → (us.map some)[i]? = some (some (.ref a0)) → False := fun {i w} y1 y2 => ns (m3 a0 ⟨i, w, y1, y2⟩).2.2
            refine ⟨F3, C3, s3, ⟨R3.sub, by simp [R3.len], fun i s o h1 h2 => ?_, fun i j v' w a h1 h2 h3 h4 => ?_, R3.tb, R3.nt⟩, fun a y => (o3 a y).unset1 Slot.un_ne, fun a ⟨i, v', h1, h2⟩ => ?_, fun a y => ?_, fun j i y1 y2 y3 => ?_⟩
            · cases i with
              | zero =>
                simp only [List.getElem?_cons_zero, Option.some.injEq, List.map_cons] at h1 h2
                subst h1 h2
                exact ⟨a0, rfl, fa, x3.mono s3 rfl⟩
              | succ i => exact R3.slot i s o (by simpa using h1) (by simpa using h2)
            · cases i with
              | zero => cases j with
                | zero => rfl
                | succ j =>
                  have e0 : V.ref a0 = V.ref a := by simpa using h3
                  cases e0
                  exact (other (by simpa using h2) (by simpa using h4)).elim
              | succ i => cases j with
                | zero =>
                  have e0 : V.ref a0 = V.ref a := by simpa using h4
                  cases e0
                  exact (other (by simpa using h1) (by simpa using h3)).elim
                | succ j => rw [R3.inj i j v' w a (by simpa using h1) (by simpa using h2) (by simpa using h3) (by simpa using h4)]
            · cases i with
              | zero =>
                have e0 : V.ref a0 = V.ref a := by simpa using h2
                cases e0
                exact ⟨C.own _ oa, fun y => no (o3 _ y), .inl oa⟩
              | succ i =>
                obtain ⟨y1, y2, y3⟩ := m3 a ⟨i, v', by simpa using h1, by simpa using h2⟩
                exact ⟨y1, y2, up y3⟩
            · rcases f3 a y with y | y
              · exact .inl y
              · exact .inr (up y)
            · cases j with
              | zero =>
                have e0 : i0 = i := by simpa using y2
                subst e0
                exact C.par i0 v y3 z
              | succ j => exact p3 j i (by simpa using y1) (by simpa using y2) y3
theorem call_mid {F1 F' H' : Hp} {e1 pe p' : Ev} {σp : Sig} {np : Nat} (C1 : Cur K B F1 H e1 σ) (m : ∀ a, Own pe σp a → B.mine a ∧ ¬ Own e1 σ a) (C : Cur K (bg np F1 H pe σp) F' H' p' σp) : Cur K B F' H' e1 σ := by
  refine ⟨⟨C1.post.sub.trans C.post.sub, fun a o h1 h2 h5 => C.post.fr a o (C1.post.fr a o h1 h2 h5) (fun z => ?_) h5, fun a h => ?_, fun a h => C1.post.kp a (C.post.kp a h)⟩, ⟨C.rel.sub, C1.rel.len, fun i s o h1 h2 => ?_, C1.rel.inj, C.rel.tb, C.rel.nt⟩, C1.own, C1.ln, C1.par⟩
  · rcases (m a z).1 with y | y
    · exact h2 y
    · rw [y] at h1; cases h1
  · rcases C.post.nw a h with z | z
    · exact C1.post.nw a z
    · rcases z with z | z
      · exact .inr (m a z).1
      · exact .inr (.inr (C1.post.kp a z))
  · have q := C1.rel.slot i s o h1 h2
    cases s with
    | un => trivial
    | dat v =>
      obtain ⟨u, z1, z2⟩ := q
      exact ⟨u, z1, z2.mono C.post.sub⟩
    | own v =>
      obtain ⟨a, z1, z2, z3⟩ := q
      subst z1
      have oa : Own e1 σ a := ⟨i, v, h1, h2⟩
      obtain ⟨o, ho, hpl⟩ := z3.someP
      have no : ¬ Own pe σp a := fun y => (m a y).2 oa
      refine ⟨a, rfl, ?_, z3.mono C.post.sub ((C.post.fr a o ho no (plainO_tbl hpl)).trans ho.symm)⟩
      cases y : F' a with
      | none => rfl
      | some x =>
        rcases C.post.nw a (by rw [y]; simp) with y | y
        · exact absurd z2 y
        · rcases y with y | y
          · exact absurd y no
          · have y' : H a = none := y
            rw [ho] at y'; cases y'
theorem Cur.again {F : Hp} {e : Ev} {i : Nat} {v : Val} {t : Addr} (C : Cur K B F H e σ) (hi : σ[i]? = some (some (.ref t))) (h1 : F t = none) (h2 : CellR K F H v t) (h3 : ¬ Own e σ t) (h4 : B.mine t) (hp : i < B.np → σ[i]? = B.sg[i]? ∧ ∃ w, B.ev[i]? = some (.own w)) : Cur K B F H (e.set i (.own v)) σ := by
  have other : ∀ {j : Nat} {w : Val} {a : Addr}, (e.set i (.own v))[j]? = some (.own w) → σ[j]? = some (some (.ref a)) → (i = j ∧ a = t) ∨ (i ≠ j ∧ e[j]? = some (.own w) ∧ σ[j]? = some (some (.ref a))) := fun {j w a} a1 a2 => by
    rcases getset a1 with ⟨z, _, _⟩ | ⟨z, a1⟩
    · subst z
      rw [hi] at a2
      cases a2
      exact .inl ⟨rfl, rfl⟩
    · exact .inr ⟨z, a1, a2⟩
  refine ⟨C.post, ⟨C.rel.sub, by rw [List.length_set]; exact C.rel.len, fun j q o a1 a2 => ?_, fun j k v' w a a1 a2 a3 a4 => ?_, C.rel.tb, C.rel.nt⟩, fun a q => ?_, by rw [List.length_set]; exact C.ln, fun j v' hj h => ?_⟩
  · rcases getset a1 with ⟨z, z2, _⟩ | ⟨z, a1⟩
    · subst z z2
      rw [hi] at a2
      cases a2
      exact ⟨t, rfl, h1, h2⟩
    · exact C.rel.slot j q o a1 a2
  · rcases other a1 a3 with ⟨z1, z2⟩ | ⟨z1, b1, b2⟩
    · rcases other a2 a4 with ⟨z3, _⟩ | ⟨_, c1, c2⟩
      · exact z1.symm.trans z3
      · exact absurd ⟨k, w, c1, z2 ▸ c2⟩ h3
    · rcases other a2 a4 with ⟨_, z4⟩ | ⟨_, c1, c2⟩
      · exact absurd ⟨j, v', b1, z4 ▸ b2⟩ h3
      · exact C.rel.inj j k v' w a b1 c1 b2 c2
  · obtain ⟨j, w, a1, a2⟩ := q
    rcases other a1 a2 with ⟨_, z2⟩ | ⟨_, b1, b2⟩
    · rw [z2]; exact h4
    · exact C.own a ⟨j, w, b1, b2⟩
  · rcases getset h with ⟨z, _, _⟩ | ⟨z, h⟩
    · subst z; exact hp hj
    · exact C.par j v' hj h
def OwnB (p : Ev) (rs : List RV) (us : List V) (a : Addr) : Prop := ∃ (k : Nat) (v : Val) (i : Nat), p[k]? = some (.own v) ∧ us[k]? = some (.ref a) ∧ rs[k]? = some (.bor i)
theorem back_ok {F F0 H0 : Hp} {e0 : Ev} : ∀ {ms : List Bool} {rs : List RV} {us : List V} {p e : Ev}, Cur K B F H e σ → RRs K B F0 H0 e0 σ rs us →
    (∀ (j : Nat) (v : Val), p[j]? = some (.own v) → ∃ a, us[j]? = some (.ref a) ∧ F a = none ∧ CellR K F H v a ∧ B.mine a ∧ ¬ Own e σ a) →
    (∀ (i j : Nat) (v w : Val) (a : Addr), p[i]? = some (.own v) → p[j]? = some (.own w) → us[i]? = some (.ref a) → us[j]? = some (.ref a) → i = j) →
    (∀ (j i : Nat), ms[j]? = some true → rs[j]? = some (.bor i) → i < B.np → σ[i]? = B.sg[i]? ∧ ∃ w, B.ev[i]? = some (.own w)) →
    Cur K B F H (backE ms rs p e) σ ∧ ∀ a, Own (backE ms rs p e) σ a → Own e σ a ∨ OwnB p rs us a
  | [], _, _, _, _, C, _, _, _, _ => ⟨C, fun _ z => .inl z⟩
  | m :: ms, [], _, _, _, C, _, _, _, _ => by
    unfold backE
    cases m <;> exact ⟨C, fun _ z => .inl z⟩
  | m :: ms, r :: rs, us, [], e, C, _, _, _, _ => by
    have : backE (m :: ms) (r :: rs) [] e = e := by unfold backE; cases m <;> cases r <;> rfl
    rw [this]; exact ⟨C, fun _ z => .inl z⟩
  | m :: ms, r :: rs, us, s :: p, e, C, q, hp, hj, hb => by
    cases q with
    | cons q1 d t =>
      rename_i u us
      have plain : backE (m :: ms) (r :: rs) (s :: p) e = backE ms rs p e → Cur K B F H (backE (m :: ms) (r :: rs) (s :: p) e) σ ∧ ∀ a, Own (backE (m :: ms) (r :: rs) (s :: p) e) σ a → Own e σ a ∨ OwnB (s :: p) (r :: rs) (u :: us) a := fun z => by
        rw [z]
        obtain ⟨A1, A2⟩ := back_ok (us := us) (p := p) C t (fun j v h => by
          obtain ⟨a, z⟩ := hp (j + 1) v (by simpa using h)
          exact ⟨a, by simpa using z⟩) (fun i j v w a h1 h2 h3 h4 => by
          have := hj (i + 1) (j + 1) v w a (by simpa using h1) (by simpa using h2) (by simpa using h3) (by simpa using h4)
          omega) (fun j i h1 h2 => hb (j + 1) i (by simpa using h1) (by simpa using h2))
        refine ⟨A1, fun a y => ?_⟩
        rcases A2 a y with y | ⟨i, v, b, y1, y2, y3⟩
        · exact .inl y
        · exact .inr ⟨i + 1, v, b, by simpa using y1, by simpa using y2, by simpa using y3⟩
      cases m with
      | false => exact plain (by cases r <;> rfl)
      | true => cases r with
        | dat v => exact plain rfl
        | tmp v => exact plain rfl
        | bor i0 => cases s with
          | un => exact plain rfl
          | dat v => exact plain rfl
          | own v =>
            have q1' : σ[i0]? = some (some u) := q1
            obtain ⟨a0, x1, x2, x3, x4, x5⟩ := hp 0 v rfl
            have eu : u = .ref a0 := by simpa using x1
            subst eu
            have C' := C.again (i := i0) q1' x2 x3 x5 x4 (hb 0 i0 rfl rfl)
            have oe : ∀ {a}, Own (e.set i0 (.own v)) σ a → Own e σ a ∨ a = a0 := fun {a} ⟨j, w, y1, y2⟩ => by
              rcases getset y1 with ⟨z, _, _⟩ | ⟨z, y1⟩
              · subst z
                rw [q1'] at y2
                cases y2
                exact .inr rfl
              · exact .inl ⟨j, w, y1, y2⟩
            obtain ⟨A1, A2⟩ := back_ok (ms := ms) (us := us) (p := p) C' t (fun j w h => by
              obtain ⟨a, z1, z2, z3, z4, z5⟩ := hp (j + 1) w (by simpa using h)
              have z1' : us[j]? = some (.ref a) := by simpa using z1
              refine ⟨a, z1', z2, z3, z4, fun y => ?_⟩
              rcases oe y with y | y
              · exact z5 y
              · subst y
                have := hj 0 (j + 1) v w a rfl (by simpa using h) rfl (by simpa using z1)
                omega) (fun i j v w a h1 h2 h3 h4 => by
              have := hj (i + 1) (j + 1) v w a (by simpa using h1) (by simpa using h2) (by simpa using h3) (by simpa using h4)
              omega) (fun j i h1 h2 => hb (j + 1) i (by simpa using h1) (by simpa using h2))
            refine ⟨A1, fun a y => ?_⟩
            rcases A2 a y with y | ⟨i, w, b, y1, y2, y3⟩
            · rcases oe y with y | y
              · exact .inl y
              · exact .inr ⟨0, v, i0, rfl, by rw [y]; rfl, rfl⟩
            · exact .inr ⟨i + 1, w, b, by simpa using y1, by simpa using y2, by simpa using y3⟩
end
section
variable {K : PySem.W.Frag} {W : WX} {B : Bg} {H : Hp} {σ : Sig} {F : Hp} {e : Ev}
theorem argsE_len : ∀ {ms : List Bool} {rs : List RV} {e p e1 : Ev}, argsE ms rs e = some (p, e1) → ms.length = p.length := fun {ms} => by
  induction ms with
  | nil => intro rs e p e1 z; cases rs <;> simp [argsE] at z; rw [z.1]; rfl
  | cons m ms ih =>
    intro rs e p e1 z
    cases rs with
    | nil => cases m <;> simp [argsE] at z
    | cons r rs =>
      cases m with
      | false =>
        unfold argsE at z
        split at z
        · split at z
          · rename_i a b c
            cases z
            simp [ih c]
          · cases z
        · cases z
      | true => cases r with
        | dat v =>
          unfold argsE at z
          split at z
          · rename_i a b c
            cases z
            simp [ih c]
          · cases z
        | tmp v =>
          unfold argsE at z
          split at z
          · rename_i a b c
            cases z
            simp [ih c]
          · cases z
        | bor i =>
          unfold argsE at z
          split at z
          · split at z
            · rename_i a b c
              cases z
              simp [ih c]
            · cases z
          · cases z
theorem call_core {ms : List Bool} {rs : List RV} {us : List V} {pe e1 : Ev} (C : Cur K B F H e σ) (q : RRs K B F H e σ rs us) (za : argsE ms rs e = some (pe, e1)) :
    us.length = ms.length ∧ ∃ F1, Rel K F1 H pe (us.map some) ∧ ∀ F' H' p', Cur K (bg pe.length F1 H pe (us.map some)) F' H' p' (us.map some) → Cur K B F' H' (backE ms rs p' e1) σ ∧
      (∀ v u, RR K (bg pe.length F1 H pe (us.map some)) F' H' p' (us.map some) (.tmp v) u → RR K B F' H' (backE ms rs p' e1) σ (.tmp v) u) ∧
      (∀ (j : Nat) (v w : Val) (u : V), rs[j]? = some (.tmp w) → us[j]? = some u → p'[j]? = some (.own v) → RR K B F' H' (backE ms rs p' e1) σ (.tmp v) u) := by
  obtain ⟨F1, C1, s1, R1, o1, m1, f1, p1⟩ := args_ok C q za
  have lp : pe.length = us.length := by simpa using R1.len
  refine ⟨by rw [← lp, ← argsE_len za], F1, R1, fun F' H' p' C' => ?_⟩
  have up : ∀ {j : Nat} {o : V}, us[j]? = some o → (us.map some)[j]? = some (some o) := fun {j o} y => by simp [y]
  have at_ : ∀ (j : Nat) (v : Val), p'[j]? = some (.own v) → ∃ a, us[j]? = some (.ref a) ∧ F' a = none ∧ CellR K F' H' v a ∧ B.mine a ∧ ¬ Own e1 σ a := fun j v y => by
    have jl : j < us.length := by
      have := (List.getElem?_eq_some_iff.mp y).1
      have e1 : p'.length = pe.length := C'.ln
      omega
    have uj : us[j]? = some us[j] := List.getElem?_eq_getElem jl
    obtain ⟨a, a1, a2, a3⟩ := C'.rel.slot j _ _ y (up uj)
    have a1' : us[j]? = some (.ref a) := by rw [uj]; exact a1
    obtain ⟨_, w, b1⟩ := C'.par j v (by show j < pe.length; omega) y
    obtain ⟨c1, c2, _⟩ := m1 a ⟨j, w, b1, up a1'⟩
    exact ⟨a, a1', a2, a3, c1, c2⟩
  obtain ⟨D1, D2⟩ := back_ok (call_mid C1 (fun a y => ⟨(m1 a y).1, (m1 a y).2.1⟩) C') q at_ (fun i j v w a y1 y2 y3 y4 => C'.rel.inj i j v w a y1 y2 (up y3) (up y4)) p1
  refine ⟨D1, fun v u z => ?_, fun j v w u h1 h2 h3 => ?_⟩
  · obtain ⟨t, x1, x2, x3, x4, x5⟩ := z
    refine ⟨t, x1, x2, x3, fun y => ?_, ?_⟩
    · rcases D2 t y with y | ⟨k, v', i, y1, y2, y3⟩
      · rcases x5 with x5 | x5
        · exact (m1 t x5).2.1 y
        · obtain ⟨i, v', w1, w2⟩ := y
          obtain ⟨b, b1, b2, b3⟩ := C1.rel.slot i _ _ w1 w2
          cases b1
          obtain ⟨o, b4⟩ := b3.some
          have x5' : H t = none := x5
          rw [x5'] at b4; cases b4
      · exact x4 ⟨k, v', y1, up y2⟩
    · rcases x5 with x5 | x5
      · exact (m1 t x5).1
      · exact .inr (C1.post.kp t x5)
  · obtain ⟨a, a1, a2, a3, a4, a5⟩ := at_ j v h3
    rw [h2] at a1
    cases a1
    refine ⟨a, rfl, a2, a3, fun y => ?_, a4⟩
    rcases D2 a y with y | ⟨k, v', i, y1, y2, y3⟩
    · exact a5 y
    · have := C'.rel.inj j k v v' a h3 y1 (up h2) (up y2)
      subst this
      rw [h1] at y3
      cases y3
theorem call_ok {ms : List Bool} {f : M RV} {rs : List RV} {us : List V} {Q : VK} {n : Nat} (C : Cur K B F H e σ) (q : RRs K B F H e σ rs us) (h : At K W (RR K) B (runF ms f rs) F e σ H Q) (hn : ms.length = n) : spG K n f us H Q (WE W σ) := by
  unfold At runF at h
  cases za : argsE ms rs e with
  | none => simp only [za] at h
  | some pr =>
    obtain ⟨pe, e1⟩ := pr
    simp only [za] at h
    obtain ⟨len, F1, R1, mid⟩ := call_core C q za
    refine ⟨len.trans hn, pe.length, F1, pe, R1, ?_⟩
    unfold At
    cases zf : f pe with
    | bad => simp only [zf] at h
    | rs x p' =>
      simp only [zf] at h
      exact fun F' H' cls d C' X' => h F' H' cls d (mid F' H' p' C').1 X'
    | ok r p' =>
      cases r with
      | bor i => simp only [zf] at h
      | dat v =>
        simp only [zf] at h
        exact fun F' H' u C' r' => h F' H' u (mid F' H' p' C').1 r'
      | tmp v =>
        simp only [zf] at h
        exact fun F' H' u C' r' => h F' H' u (mid F' H' p' C').1 ((mid F' H' p' C').2.1 v u r')
end
end Pu
set_option Elab.async false
set_option linter.all false
set_option maxRecDepth 100000
namespace Pu
open PySem PySem.Spec PyProof.Rows L2
section
variable {K : PySem.W.Frag} {W : WX} {B : Bg} {F H : Hp} {σ : Sig} {e : Ev}
theorem RRs.dats {ds : List Val} {dvs : List V} (h : VRs K F ds dvs) : RRs K B F H e σ (ds.map .dat) dvs := by
  induction ds generalizing dvs with
  | nil => cases h; exact .nil
  | cons d ds ih => cases h with
    | cons a b => exact .cons a (fun v z => nomatch z) (ih b)
theorem RRs.app {rs : List RV} {us : List V} {ds : List Val} {dvs : List V} (h : RRs K B F H e σ rs us) (g : VRs K F ds dvs) : RRs K B F H e σ (rs ++ ds.map .dat) (us ++ dvs) := by
  induction h with
  | nil => exact RRs.dats g
  | cons r d t ih =>
    rename_i r' u' rs us
    refine .cons r (fun v z j w h1 h2 => ?_) ih
    replace h1 : (rs ++ ds.map RV.dat)[j]? = some (.tmp w) := h1
    replace h2 : (us ++ dvs)[j]? = some u' := h2
    have tl := t.length
    by_cases hj : j < rs.length
    · rw [List.getElem?_append_left hj] at h1
      rw [List.getElem?_append_left (by omega)] at h2
      exact d v z j w h1 h2
    · rw [List.getElem?_append_right (by omega), List.getElem?_map] at h1
      cases q : ds[j - rs.length]? with
      | none => rw [q] at h1; cases h1
      | some z => rw [q] at h1; cases h1
end
section
variable {X : Cx} {W : WX} {k n : Nat} {f C : Addr} {fd : FuncData} {ps : List Str} {x m : Str} {p pos apos : Pos} {e o : Expr} {es : List Expr} {mf mo : M RV} {mr : M (List RV)} {dvs : List V} {ds : List Value} {dl : List Val}
theorem se_call (ms : List Bool) (F : FnG X.prog X.w X.K X.mg X.base k f fd ps (spG X.K n mf)) (G : Good X k W) (gl : Gl X x) (at_ : X.mg x = some (.ref f)) (kp : PySem.W.keepIn X.K (.ref f) = true)
    (hb : Binds X.K fd ps ds) (hd : Vals dvs ds) (hc : VC X.K dl dvs) (ha : SA X W (e :: es) mr) (hn : ms.length = n := by rfl) (n1 : (x == ("__debug__" : Str)) = false := by decide)
    (n2 : starEach (e :: es) X.env = (false, eval e X.env) :: starEach es X.env := by rfl) (n3 : (backTo pos (starEach es X.env)).any (·.1) = false := by rfl) :
    SE X W (.Call (.Name x p) (e :: es) [] pos) (mCall ms mf mr dl) := by
  refine PE.imp (pg_call F G.room G.gd G.tk gl at_ kp hb hd ha n1 n2 n3) fun σ H Q h => ?_
  obtain ⟨np, F, e, R, h⟩ := h
  exact use (R1 := RRs X.K) (Cur.refl R) h fun rs e1 F1 H1 us C1 q1 _ h1 => call_ok C1 (q1.app (hc F1)) h1 hn
theorem se_call0 (ms : List Bool) (F : FnG X.prog X.w X.K X.mg X.base k f fd ps (spG X.K n mf)) (G : Good X k W) (gl : Gl X x) (at_ : X.mg x = some (.ref f)) (kp : PySem.W.keepIn X.K (.ref f) = true)
    (hb : Binds X.K fd ps ds) (hd : Vals dvs ds) (hc : VC X.K dl dvs) (hn : ms.length = n := by rfl) (n1 : (x == ("__debug__" : Str)) = false := by decide) : SE X W (.Call (.Name x p) [] [] pos) (mCall ms mf mNil dl) := by
  refine PE.imp (pg_call0 F G.room G.gd G.tk gl at_ kp hb hd n1) fun σ H Q h => ?_
  obtain ⟨np, F, e, R, h⟩ := h
  exact call_ok (Cur.refl R) (RRs.app .nil (hc F)) h hn
def mMeth (C m : Str) (ms : List Bool) (f : M RV) (o : M RV) (as : M (List RV)) (ds : List Val) : M RV := o.bind fun r => (M.rd r).bind fun v => match v with
  | .obj C' fs _ => if C' = C ∧ m ∉ fs then as.bind fun rs => runF ms f (r :: (rs ++ ds.map .dat)) else M.bad
  | _ => M.bad
theorem zip_no {fs : List Str} {us : List V} {m : Str} (h : m ∉ fs) : (fs.zip us).lookup m = none := by
  induction fs generalizing us with
  | nil => rfl
  | cons a fs ih => cases us with
    | nil => rfl
    | cons u us =>
      have ne : m ≠ a := fun z => h (by rw [z]; exact List.mem_cons_self ..)
      show (match m == a with | true => some u | false => (fs.zip us).lookup m) = none
      rw [beq_eq_false_iff_ne.mpr ne]
      exact ih fun z => h (List.mem_cons_of_mem _ z)
theorem RRs.front {K : PySem.W.Frag} {B : Bg} {F1 H1 F2 H2 : Hp} {e1 e2 : Ev} {σ : Sig} {r : RV} {u : V} {rs : List RV} {us : List V} (C1 : Cur K B F1 H1 e1 σ) (q1 : RR K B F1 H1 e1 σ r u) (c2 : Cur K (bg B.np F1 H1 e1 σ) F2 H2 e2 σ)
    (q2 : RRs K (bg B.np F1 H1 e1 σ) F2 H2 e2 σ rs us) : RRs K B F2 H2 e2 σ (r :: rs) (u :: us) := by
  refine .cons (q1.carry c2) (fun v e3 j w e4 e5 => ?_) (Carry.out C1 q2)
  subst e3
  obtain ⟨t, z1, z2, z3, z4, z5⟩ := q1
  obtain ⟨o, z6⟩ := z3.some
  subst z1
  obtain ⟨t', y1, y2, y3, y4, y5⟩ := q2.mem_tmp e4 e5
  cases y1
  rcases y5 with y5 | y5
  · exact z4 y5
  · have y6 : H1 t = none := y5
    rw [z6] at y6; cases y6
theorem meth_ok {K : PySem.W.Frag} {C' : Str} {ms : List Bool} {ta : TA} {np : Nat} {F H : Hp} {e : Ev} {σ : Sig} {Q : VK} {np : Nat} (R : Rel K F H e σ) (h : At K W (RR K) (bg np F H e σ) (mMeth C' m ms mf mo mr dl) F e σ H Q) (hc : VC K dl dvs) (hn : ms.length = n)
    (C : Addr) (hC : He.ga K C' = C) : mG C m (spG K n mf) W dvs (tE K W mo) (tA K W mr) σ H Q := by
  refine use (R1 := RR K) (Cur.refl R) h fun r e1 F1 H1 u C1 q1 _ h1 => ?_
  obtain ⟨v, rv, h2⟩ := At.rd C1.rel q1 h1
  cases v with
  | obj C2 fs vs =>
    by_cases hh : C2 = C' ∧ m ∉ fs
    · dsimp only at h2
      rw [if_pos hh] at h2
      obtain ⟨rfl, hm⟩ := hh
      obtain ⟨a, dx, us, rfl, z1, z2, z3⟩ := rv.obj C1.rel.sub
      refine ⟨a, dx, _, rfl, by rw [z1, hC], zip_no hm, ?_⟩
      refine useS (R1 := RRs K) C1 h2 fun rs e2 F2 H2 xs C2 q2 c2 h3 => ?_
      have all := RRs.app (RRs.front C1 q1 c2 q2) (hc F2)
      exact call_ok C2 all h3 hn
    · dsimp only at h2
      rw [if_neg hh] at h2
      exact h2.elim
  | _ => exact h2.elim
theorem se_meth {pl : Sem Bool} {C' : Str} (ms : List Bool) (he : SE X W o mo) (c : Cls X.K C) (hm : Meth X.K C m f) (F : FnG X.prog X.w X.K X.mg X.base k f fd ps (spG X.K n mf)) (G : Good X k W) (hC : He.ga X.K C' = C)
    (hb : Binds X.K fd ps ds) (hd : Vals dvs ds) (hc : VC X.K dl dvs) (ha : SA X W (e :: es) mr) (hn : ms.length = n := by rfl) (n2 : starEach (e :: es) X.env = (false, eval e X.env) :: starEach es X.env := by rfl) (n3 : (backTo pos (starEach es X.env)).any (·.1) = false := by rfl)
    (look : eval (.Call (.Attribute o m apos) (e :: es) [] pos) X.env = (do
      let ov ← eval o X.env
      standAt apos.atName
      let (f, first) ← holding [ov] (getMethod ov m pl)
      callWith pos f first (backTo pos (starEach (e :: es) X.env)) (backToKw pos (keywordEach [] X.env))) := by rfl) : SE X W (.Call (.Attribute o m apos) (e :: es) [] pos) (mMeth C' m ms mf mo mr dl) :=
  PE.imp (pg_meth he c hm F G.room G.gd G.tk hb hd ha n2 n3 look) fun σ H Q ⟨np, F, e, R, h⟩ => meth_ok (ta := tA X.K W mr) (np := np) R h hc hn C hC
theorem se_meth0 {pl : Sem Bool} {C' : Str} (ms : List Bool) (he : SE X W o mo) (c : Cls X.K C) (hm : Meth X.K C m f) (F : FnG X.prog X.w X.K X.mg X.base k f fd ps (spG X.K n mf)) (G : Good X k W) (hC : He.ga X.K C' = C)
    (hb : Binds X.K fd ps ds) (hd : Vals dvs ds) (hc : VC X.K dl dvs) (hn : ms.length = n := by rfl)
    (look : eval (.Call (.Attribute o m apos) [] [] pos) X.env = (do
      let ov ← eval o X.env
      standAt apos.atName
      let (f, first) ← holding [ov] (getMethod ov m pl)
      callWith pos f first (backTo pos (starEach [] X.env)) (backToKw pos (keywordEach [] X.env))) := by rfl) : SE X W (.Call (.Attribute o m apos) [] [] pos) (mMeth C' m ms mf mo mNil dl) := by
  refine PE.imp (pg_meth0 he c hm F G.room G.gd G.tk hb hd look) fun σ H Q ⟨np, F, e, R, h⟩ => ?_
  refine use (R1 := RR X.K) (Cur.refl R) h fun r e1 F1 H1 u C1 q1 _ h1 => ?_
  obtain ⟨v, rv, h2⟩ := At.rd C1.rel q1 h1
  cases v with
  | obj C2 fs vs =>
    by_cases hh : C2 = C' ∧ m ∉ fs
    · dsimp only at h2
      rw [if_pos hh] at h2
      obtain ⟨rfl, hm⟩ := hh
      obtain ⟨a, dx, us, rfl, z1, z2, z3⟩ := rv.obj C1.rel.sub
      refine ⟨a, dx, _, rfl, by rw [z1, hC], zip_no hm, ?_⟩
      exact call_ok C1 (RRs.app (.cons q1 (fun _ _ j w z => by simp at z) .nil) (hc F1)) h2 hn
    · dsimp only at h2
      rw [if_neg hh] at h2
      exact h2.elim
  | _ => exact h2.elim
theorem RR.grow {K : PySem.W.Frag} {B : Bg} {F H : Hp} {e : Ev} {σ : Sig} {o : HO} {a : Addr} {r : RV} {u : V} (h : H a = none) (q : RR K B F H e σ r u) : RR K B F (upd H a o) e σ r u := by
  cases r with
  | dat v => exact q
  | bor i => exact q
  | tmp v =>
    obtain ⟨t, z1, z2, z3, z4, z5⟩ := q
    obtain ⟨x, z6⟩ := z3.some
    exact ⟨t, z1, z2, z3.mono (Same.refl _) (upd_ne (ne_of_none z6 h)), z4, z5⟩
theorem RRs.grow {K : PySem.W.Frag} {B : Bg} {F H : Hp} {e : Ev} {σ : Sig} {o : HO} {a : Addr} {rs : List RV} {us : List V} (h : H a = none) (q : RRs K B F H e σ rs us) : RRs K B F (upd H a o) e σ rs us := by
  induction q with
  | nil => exact .nil
  | cons r d _ ih => exact .cons (r.grow h) d ih
theorem make_ok {K : PySem.W.Frag} {B : Bg} {F H : Hp} {e : Ev} {σ : Sig} {C' : Str} {ms : List Bool} {rs : List RV} {us : List V} {Q : VK} {y dx : Addr} (C : Cur K B F H e σ) (q : RRs K B F H e σ rs us) (hy : H y = none) (hx : H dx = none) (ne : dx ≠ y) (hn : ms.length + 1 = n)
    (h : At K W (RR K) B (runMk C' ms mf rs) F e σ H Q) : spG K n mf (.ref y :: us) (upd (upd H dx (.own y)) y (.ins (He.ga K C') dx [])) (fun v H2 => v = .non ∧ Q (.ref y) H2) (WE W σ) := by
  have hy2 : upd H dx (.own y) y = none := by rw [upd_ne (Ne.symm ne)]; exact hy
  obtain ⟨C1, _, _, _⟩ := C.grow (o := .own y) hx
  obtain ⟨C2, n2, f2, m2⟩ := C1.grow (o := .ins (He.ga K C') dx []) hy2
  have q2 : RRs K B F (upd (upd H dx (.own y)) y (.ins (He.ga K C') dx [])) e σ (.tmp (.obj C' [] []) :: rs) (.ref y :: us) := by
    refine .cons ⟨y, rfl, f2, ⟨dx, [], upd_same, rfl, .nil⟩, n2, m2⟩ (fun v z j w h1 h2 => ?_) ((q.grow hx).grow hy2)
    obtain ⟨t, a1, a2, a3, _⟩ := q.mem_tmp h1 h2
    cases a1
    obtain ⟨o, a4⟩ := a3.some
    rw [hy] at a4; cases a4
  unfold At runMk at h
  cases za : argsE (true :: ms) (.tmp (.obj C' [] []) :: rs) e with
  | none => simp only [za] at h
  | some pr =>
    obtain ⟨pe, e1⟩ := pr
    simp only [za] at h
    obtain ⟨len, F1, R1, mid⟩ := call_core C2 q2 za
    refine ⟨len.trans hn, pe.length, F1, pe, R1, ?_⟩
    unfold At
    cases zf : mf pe with
    | bad => simp only [zf] at h
    | rs x p' =>
      simp only [zf] at h
      exact fun F' H' cls d C' X' => h F' H' cls d (mid F' H' p' C').1 X'
    | ok r p' =>
      cases r with
      | bor i => simp only [zf] at h
      | tmp v => simp only [zf] at h
      | dat v => cases v with
        | non =>
          simp only [zf] at h
          cases z0 : p'[0]? with
          | none => simp only [z0] at h
          | some sl => cases sl with
            | un => simp only [z0] at h
            | dat w => simp only [z0] at h
            | own v =>
              simp only [z0] at h
              intro F' H' u C3 r'
              obtain ⟨D1, D2, D3⟩ := mid F' H' p' C3
              have eu : u = .non := by cases r'; rfl
              exact ⟨eu, h F' H' (.ref y) D1 (D3 0 v _ _ rfl rfl z0)⟩
        | _ => simp only [zf] at h
theorem se_make {C' : Str} (ms : List Bool) (Mk : Mk X.K (He.ga X.K C') f) (F : FnG X.prog X.w X.K X.mg X.base k f fd ps (spG X.K n mf)) (G : Good X (k + 1) W) (gl : Gl X x) (at_ : X.mg x = some (.ref (He.ga X.K C'))) (hb : Binds X.K fd ps ds) (hd : Vals dvs ds) (hc : VC X.K dl dvs)
    (ha : SA X W (e :: es) mr) (hn : ms.length + 1 = n := by rfl) (n1 : (x == ("__debug__" : Str)) = false := by decide) (n2 : starEach (e :: es) X.env = (false, eval e X.env) :: starEach es X.env := by rfl)
    (n3 : (backTo pos (starEach es X.env)).any (·.1) = false := by rfl) : SE X W (.Call (.Name x p) (e :: es) [] pos) (mMake C' ms mf mr dl) := by
  refine PE.imp (pg_make Mk F G.room G.gd G.tk gl at_ hb hd ha n1 n2 n3) fun σ H Q h => ?_
  obtain ⟨np, F, e, R, h⟩ := h
  exact use (R1 := RRs X.K) (Cur.refl R) h fun rs e1 F1 H1 us C1 q1 _ h1 y dx hy hx ne => make_ok C1 (q1.app (hc F1)) hy hx ne hn h1
end
end Pu
set_option Elab.async false
set_option linter.all false
set_option maxRecDepth 100000
namespace Pu
open PySem PySem.Spec PyProof.Rows L2
section
variable {K : PySem.W.Frag} {W : WX} {α β : Type} {R1 : Bg → Hp → Hp → Ev → Sig → α → β → Prop} {B : Bg} {F F' H H' : Hp} {e e' : Ev} {σ σ' : Sig} {ws : List Nat}
theorem useG [Carry K R1] {m : M α} {f : α → M Unit} {Q : Sig → Hp → Prop} {G : β → Hp → Prop} (C : Cur K B F H e σ) (h : AtG K W ws B (m.bind f) e σ Q)
    (k : ∀ r e1 F1 H1 x, Cur K B F1 H1 e1 σ → R1 B F1 H1 e1 σ r x → Cur K (bg B.np F H e σ) F1 H1 e1 σ → AtG K W ws B (f r) e1 σ Q → G x H1) : tM K W R1 m σ H G := by
  refine ⟨B.np, F, e, C.rel, ?_⟩
  unfold AtG M.bind at h
  unfold At
  cases hm : m e with
  | bad => rw [hm] at h; exact h
  | rs x e' =>
    rw [hm] at h
    intro F' H' cls d C' X'
    exact h F' H' σ cls d (C.trans C') X'
  | ok r e' =>
    rw [hm] at h
    intro F' H' u C' r'
    exact k r e' F' H' u (C.trans C') (Carry.out C r') C' h
theorem Cur.writeOwn {i : Nat} {v w : Val} {t : Addr} {o' : HO} (C : Cur K B F H e σ) (he : e[i]? = some (.own v)) (hs : σ[i]? = some (some (.ref t))) (h : CellR K F (upd H t o') w t) : Cur K B F (upd H t o') (e.set i (.own w)) σ := by
  obtain ⟨a, h1, h2, h3⟩ := C.rel.slot i _ _ he hs
  cases h1
  obtain ⟨o, ho, hpl⟩ := h3.someP
  have ot : Own e σ t := ⟨i, v, he, hs⟩
  have no : ¬ Own (e.set i .un) σ t := fun ⟨j, w, b1, b2⟩ => by
    rcases getset b1 with ⟨_, z3, _⟩ | ⟨z3, b1⟩
    · cases z3
    · exact z3 (C.rel.inj i j v w t he b1 hs b2)
  have C1 := ((C.forget (i := i)).write (o' := o') h2 no (C.own t ot) ho hpl).again (i := i) (v := w) hs h2 h no (C.own t ot) fun hi => C.par i v hi he
  rw [List.set_set] at C1
  exact C1
end
def mApp (mo ma : M RV) : M RV := mo.bind fun r => (M.rd r).bind fun v0 => match r, v0 with
  | .bor i, .lst _ => ma.bind fun s => (M.dt s).bind fun v => fun e => match e[i]? with
    | some (Slot.own (.lst xs)) => if xs.length < sizeLine then .ok (.dat .non) (e.set i (.own (.lst (xs ++ [v])))) else .bad
    | _ => .bad
  | _, _ => M.bad
section
variable {X : Cx} {W : WX} {o e : Expr} {mo ma : M RV} {apos cpos : Pos}
theorem se_app (ho : SE X W o mo) (ha : SE X W e ma) (hbase : attributeBase o "append" X.env (eval o X.env) = eval o X.env := by rfl)
    (hfew : ((backTo cpos (starEach [e] X.env)).all (fun x => !x.1) && (backToKw cpos (keywordEach [] X.env)).all (fun x => x.1.isSome) && decide ([e].length + ([] : List Keyword).length + (if ([] : List Keyword).isEmpty then 0 else 1) < 30)) = true := by rfl)
    (hline : (apos.endLine == cpos.line) = true := by rfl) (hs : starEach [e] X.env = (false, eval e X.env) :: starEach [] X.env := by rfl) (hplain : (backTo cpos (starEach [] X.env)).any (·.1) = false := by rfl) :
    SE X W (.Call (.Attribute o "append" apos) [e] [] cpos) (mApp mo ma) := by
  refine PE.imp (pe_bm PySem.F.plainAttrs_list PySem.F.slot_list_append PySem.F.type_list_append (show MtR X "list.append" rAppend from mt_append) ho (pa_cons ha pa_nil hs) hbase hfew hline hs hplain) fun σ H Q h => ?_
  obtain ⟨np, F, e, R, h⟩ := h
  refine use (R1 := RR X.K) (Cur.refl R) h fun r e1 F1 H1 u C1 q1 _ h1 => ?_
  obtain ⟨v0, rv, h2⟩ := At.rd C1.rel q1 h1
  cases r with
  | dat v => exact h2.elim
  | tmp v => exact h2.elim
  | bor i => cases v0 with
    | lst xs0 =>
      obtain ⟨a, us0, rfl, z1, z2⟩ := rv.lst C1.rel.sub
      refine ⟨.inl ⟨rfl, us0, .inl z1⟩, ?_⟩
      refine use (R1 := RR X.K) C1 h2 fun s e2 F2 H2 y C2 q2 _ h3 => ?_
      obtain ⟨F3, e3, v, C3, _, r3, h4, _⟩ := At.dt C2 q2 h3
      unfold At at h4
      dsimp only at h4
      have hi : σ[i]? = some (some (V.ref a)) := q1
      cases z : e3[i]? with
      | none => simp only [z] at h4
      | some sl => cases sl with
        | un => simp only [z] at h4
        | dat w => simp only [z] at h4
        | own w => cases w with
          | lst xs =>
            simp only [z] at h4
            by_cases hl : xs.length < sizeLine
            · rw [if_pos hl] at h4
              obtain ⟨b, b1, b2, us, b3, b4⟩ := C3.rel.slot i _ _ z hi
              cases b1
              refine ⟨a, us, y, rfl, rfl, b3, by rw [← b4.length]; exact hl, ?_⟩
              exact h4 F3 _ .non (C3.writeOwn z hi ⟨_, upd_same, b4.append (.cons r3 .nil)⟩) VR.non
            · rw [if_neg hl] at h4
              exact h4.elim
          | _ => simp only [z] at h4
    | _ => exact h2.elim
end
section
variable {X : Cx} {W : WX} {o i : Expr} {mo mi : M RV} {pos : Pos} {ws : List Nat}
theorem sg_sb (ho : SE X W o mo) (hi : SE X W i mi)
    (ha : ∀ v, assign (.Subscript o i pos) X.env v = (do
      let ov ← holding [v] (eval o X.env)
      let iv ← holding [v, ov] (eval i X.env)
      standAt pos
      holding [v, ov, iv] (setItem ov iv v)
      release [v, ov, iv] []) := by intro _; rfl) : SG X W ws (.Subscript o i pos) (gSb mo mi) := by
  refine PG.imp (pg_sub ho hi (set_list (X := X)) ha) fun u σ H Q h => ?_
  obtain ⟨np, F, e, v, R, rv, h⟩ := h
  refine useG (R1 := RR X.K) (Cur.refl R) h fun r e1 F1 H1 x C1 q1 _ h1 => ?_
  refine useG (R1 := RR X.K) C1 h1 fun s e2 F2 H2 y C2 q2 c2 h2 => ?_
  obtain ⟨k, rk, h3⟩ := AtG.rd C2.rel q2 h2
  cases r with
  | dat v => exact h3.elim
  | tmp v => exact h3.elim
  | bor j => cases k with
    | int k =>
      have hj : σ[j]? = some (some x) := q1
      unfold AtG at h3
      dsimp only at h3
      cases z : e2[j]? with
      | none => simp only [z] at h3
      | some sl => cases sl with
        | un => simp only [z] at h3
        | dat w => simp only [z] at h3
        | own w => cases w with
          | lst xs =>
            simp only [z] at h3
            obtain ⟨b, b1, b2, us, b3, b4⟩ := C2.rel.slot j _ _ z hj
            cases b1
            cases z2 : ixN xs.length k with
            | none => simp only [z2] at h3
            | some n =>
              simp only [z2] at h3
              refine ⟨b, us, k, n, rfl, rk.int, b3, by rw [← b4.length]; exact z2, ?_⟩
              exact h3 F2 _ σ (C2.writeOwn z hj ⟨_, upd_same, b4.set (rv.mono C2.post.sub) n⟩) Upd.refl
          | _ => simp only [z] at h3
    | _ => exact h3.elim
end
theorem lookV_ok {K : PySem.W.Frag} {F : Hp} {f : Str} {w : Val} : ∀ {fs : List Str} {vs : List Val} {us : List V}, VRs K F vs us → lookV f fs vs = some w → ∃ u, (fs.zip us).lookup f = some u ∧ VR K F w u
  | [], vs, us, _, h => by simp [lookV] at h
  | g :: fs, [], us, _, h => by simp [lookV] at h
  | g :: fs, v :: vs, _, .cons (u := u) (us := us) a b, h => by
    unfold lookV at h
    show ∃ u', (match f == g with | true => some u | false => (fs.zip us).lookup f) = some u' ∧ VR K F w u'
    by_cases hg : g = f
    · rw [if_pos hg] at h
      cases h
      exact ⟨u, by rw [hg, beq_self_eq_true], a⟩
    · rw [if_neg hg] at h
      rw [beq_eq_false_iff_ne.mpr (Ne.symm hg)]
      exact lookV_ok b h
section
variable {X : Cx} {W : WX} {o : Expr} {mo mf : M RV} {pos : Pos} {C' f : Str} {k : Nat} {g p : Addr} {fd : FuncData} {ps : List Str}
theorem se_get (c : Cls X.K (He.ga X.K C')) (n : NoAttr X.K (He.ga X.K C') f) (ho : SE X W o mo) (hb : attributeBase o f X.env (eval o X.env) = eval o X.env := by rfl) : SE X W (.Attribute o f pos) (mGet C' f mo) := by
  refine PE.imp (pe_fld ho hb) fun σ H Q h => ?_
  obtain ⟨np, F, e, R, h⟩ := h
  refine use (R1 := RR X.K) (Cur.refl R) h fun r e1 F1 H1 u C1 q1 _ h1 => ?_
  obtain ⟨v0, rv, h2⟩ := At.rd C1.rel q1 h1
  cases v0 with
  | obj C2 fs vs =>
    dsimp only at h2
    by_cases hC : C2 = C'
    · rw [if_pos hC] at h2
      subst hC
      obtain ⟨a, dx, us, rfl, z1, z2, z3⟩ := rv.obj C1.rel.sub
      cases z : lookV f fs vs with
      | none => simp only [z] at h2; exact h2.elim
      | some w =>
        simp only [z] at h2
        obtain ⟨u, l1, l2⟩ := lookV_ok z3 z
        exact ⟨a, _, dx, _, u, rfl, z1, c, n, l1, h2.ok rfl C1 l2⟩
    · rw [if_neg hC] at h2
      exact h2.elim
  | _ => exact h2.elim
theorem prop_go {C a dx : Addr} {fs : List (Str × V)} {pins : List (Addr × Obj)} {σ : Sig} {H : Hp} {s : Shared} {Q : VK} {b : Bool} {sp : Sp} {E' : Value → Shared → Prop} (I : Inv X pins σ H s) (ea : H a = some (.ins C dx fs)) (c : Cls X.K C) (hp : PropOf X.K C f p g)
    (F : FnG X.prog X.w X.K X.mg X.base k g fd ps sp) (hr : Room (k + 1) X.A) (hG : X.A.guards = some []) (hb : Binds X.K fd ps []) (h : sp [.ref a] H Q (fun _ _ _ => False)) :
    wpAny (model X.prog X.w) X.A (getAttr (.ref a) f b) (EP X pins σ Q) E' s := by
  obtain ⟨mA, O, _⟩ := ins_get I.hok ea
  obtain ⟨od, J, _⟩ := O.look
  obtain ⟨tl, isProp⟩ := hp.rec_
  obtain ⟨plain, look⟩ := PySem.W.plainGet_of (c.get f)
  have known : (PySem.W.clsIn X.K C).isSome = true := by
    obtain ⟨cd, e, -⟩ := PySem.W.any_some c.hd
    rw [e]; rfl
  have I' := I.tok (s.toks + 1)
  have one : Vals [V.ref a] [Value.ref a] := .cons rfl .nil
  have bt := hb { s with toks := s.toks + 1 } [.ref a] I'.kIn (F.many _ _ _ _ h)
  have runs := F.goes X.A.in1 X.stack { s with toks := s.toks + 1 } H ⟨[.ref a], []⟩ [.ref a] [.ref a] Q (fun _ _ _ => False) hr.in1 (by first | exact hG | simpa using hG) I'.env0.in1 bt one h
  refine PySem.W.get_bind I.kIn J plain (PySem.W.findObj_data known hp.at_ hp.get hp.tak) look (wpAny_call (PySem.W.prop_get (s := { s with toks := s.toks + 1 }) I.kIn isProp (codeAny_mono runs fun res s' got => ?_)))
  cases res with
  | error z =>
    obtain ⟨_, _, _, _, _, _, _, _, _, _, _, _, no⟩ := got
    exact no.elim
  | ok fl => cases fl with
    | next => exact got.elim
    | brk => exact got.elim
    | cont => exact got.elim
    | ret u =>
      obtain ⟨v, H', J3, rv, q3⟩ := I'.after got
      show wpAny _ _ (handedOut u) _ _ _
      rw [PySem.W.handedOut_of (handed_of rv)]
      exact wpAny_pure ⟨v, H', J3, rv, q3⟩
def cProp (C : Addr) (sp : Sp) (ta : TE) : TE := fun σ H Q => ta σ H fun x H1 => ∃ a dx fs, x = .ref a ∧ H1 a = some (.ins C dx fs) ∧ sp [.ref a] H1 Q (fun _ _ _ => False)
theorem pg_prop {C : Addr} {ta : TE} {sp : Sp} (he : PE X o ta) (c : Cls X.K C) (hp : PropOf X.K C f p g) (F : FnG X.prog X.w X.K X.mg X.base k g fd ps sp) (hr : Room (k + 1) X.A) (hG : X.A.guards = some []) (hb : Binds X.K fd ps [])
    (plain : attributeBase o f X.env (eval o X.env) = eval o X.env) : PE X (.Attribute o f pos) (cProp C sp ta) := by
  constructor
  intro pins s σ H Q I h
  refine attr_of plain (thn (he.run pins s σ H _ I h) ?_)
  rintro u s1 ⟨y, H1, I1, ry, a, dx, fs, rfl, ea, q⟩
  obtain rfl : u = Value.ref a := ry
  exact prop_go I1 ea c hp F hr hG hb q
theorem se_prop (ho : SE X W o mo) (c : Cls X.K (He.ga X.K C')) (hp : PropOf X.K (He.ga X.K C') f p g) (F : FnG X.prog X.w X.K X.mg X.base k g fd ps (spG X.K 1 mf)) (G : Good X (k + 1) W) (hb : Binds X.K fd ps [])
    (plain : attributeBase o f X.env (eval o X.env) = eval o X.env := by rfl) : SE X W (.Attribute o f pos) (mProp C' mf mo) := by
  refine PE.imp (pg_prop ho c hp F G.room G.gd hb plain) fun σ H Q h => ?_
  obtain ⟨np, F, e, R, h⟩ := h
  refine use (R1 := RR X.K) (Cur.refl R) h fun r e1 F1 H1 u C1 q1 _ h1 => ?_
  obtain ⟨v0, rv, h2⟩ := At.rd C1.rel q1 h1
  cases v0 with
  | obj C2 fs vs =>
    dsimp only at h2
    by_cases hC : C2 = C'
    · rw [if_pos hC] at h2
      subst hC
      obtain ⟨a, dx, us, rfl, z1, z2, z3⟩ := rv.obj C1.rel.sub
      refine ⟨a, dx, _, rfl, z1, ?_⟩
      have h3 : At X.K noW (RR X.K) (bg np F H e σ) (runF [true] mf [r]) F1 e1 σ H1 Q := by
        unfold At noRs at h2
        unfold At
        cases z : runF [true] mf [r] e1 with
        | bad => simp only [z] at h2
        | rs x e' => simp only [z] at h2
        | ok y e' => simp only [z] at h2; exact h2
      exact call_ok (W := noW) C1 (RRs.cons q1 (fun _ _ j w z => by simp at z) RRs.nil) h3 rfl
    · rw [if_neg hC] at h2
      exact h2.elim
  | _ => exact h2.elim
end
theorem put_ok {K : PySem.W.Frag} {F : Hp} {f : Str} {w : Val} {y : V} (r : VR K F w y) : ∀ {fs : List Str} {vs : List Val} {us : List V}, fs.length = us.length → VRs K F vs us →
    ∃ us', putF f y (fs.zip us) = (putFs f fs).zip us' ∧ (putFs f fs).length = us'.length ∧ VRs K F (putVs f w fs vs) us'
  | [], vs, us, h, q => by
    have : us = [] := List.eq_nil_of_length_eq_zero h.symm
    subst this
    cases q
    exact ⟨[y], rfl, rfl, .cons r .nil⟩
  | g :: fs, [], us0, h, q => by cases q; simp at h
  | g :: fs, v :: vs, us0, h, q => by
    cases q with
    | cons a b =>
    rename_i u us
    have hl : fs.length = us.length := by simpa using h
    show ∃ us', (if g = f then (g, y) :: fs.zip us else (g, u) :: putF f y (fs.zip us)) = (putFs f (g :: fs)).zip us' ∧ _ ∧ _
    unfold putFs putVs
    by_cases hg : g = f
    · rw [if_pos hg, if_pos hg, if_pos hg]
      exact ⟨y :: us, rfl, by simp [hl], .cons r b⟩
    · rw [if_neg hg, if_neg hg, if_neg hg]
      obtain ⟨us', e1, e2, e3⟩ := put_ok r (f := f) hl b
      exact ⟨u :: us', by rw [e1]; rfl, by simp [e2], .cons a e3⟩
section
variable {X : Cx} {W : WX} {o x : Expr} {mo mv : M RV} {pos pos' : Pos} {C' f : Str} {np : Nat}
theorem ss_put (c : Cls X.K (He.ga X.K C')) (n : NoAttr X.K (He.ga X.K C') f) (ho : SE X W o mo) (hv : SE X W x mv) (hs : swapsWith x (some (.Attribute o f pos')) pos.line X.env = pure false := by rfl) : SS X W np (.Assign [.Attribute o f pos'] x pos) (mPut C' f mo mv) := by
  refine PS.imp (ps_fld ho hv hs) fun D σ H h => ?_
  obtain ⟨F, e, R, h⟩ := h
  refine useX (R1 := RR X.K) (Cur.refl R) h fun r e1 F1 H1 u C1 q1 _ h1 => ?_
  obtain ⟨F2, e2, v, C2, _, r2, h2, _⟩ := AtS.dt C1 q1 h1
  refine useX (R1 := RR X.K) C2 h2 fun r3 e3 F3 H3 y C3 q3 c3 h3 => ?_
  cases r3 with
  | dat v => exact h3.elim
  | tmp v => exact h3.elim
  | bor i =>
    have hi : σ[i]? = some (some y) := q3
    unfold AtS at h3
    dsimp only at h3
    cases z : e3[i]? with
    | none => simp only [z] at h3
    | some sl => cases sl with
      | un => simp only [z] at h3
      | dat w => simp only [z] at h3
      | own w => cases w with
        | obj C2 fs vs =>
          simp only [z] at h3
          by_cases hh : C2 = C' ∧ fs.length < 1000
          · rw [if_pos hh] at h3
            obtain ⟨rfl, hl⟩ := hh
            obtain ⟨b, b1, b2, dx, us, b3, b4, b5⟩ := C3.rel.slot i _ _ z hi
            cases b1
            obtain ⟨us', p1, p2, p3⟩ := put_ok (f := f) (r2.mono c3.post.sub) b4 b5
            refine ⟨b, _, dx, _, rfl, b3, c, n, by rw [List.length_zip, ← b4, Nat.min_self]; exact hl, ?_⟩
            exact h3 F3 _ σ (C3.writeOwn z hi ⟨dx, us', by rw [upd_same, p1], p2, p3⟩)
          · rw [if_neg hh] at h3
            exact h3.elim
        | _ => simp only [z] at h3
end
end Pu
set_option Elab.async false
set_option linter.all false
set_option maxRecDepth 100000
namespace Pu
open PySem PySem.Spec PyProof.Rows L2
structure KB (K : PySem.W.Frag) (fd : FuncData) (ps : List Str) (n : Nat) (ks : List Str) (g : List Nat) : Prop where
  to : ∀ (s : Shared) (us ws : List Value), K.In s.heap → us.length = n → ws.length = ks.length → BindsTo s fd ⟨us, ks.zip ws⟩ (ps.zip (sel g (us ++ ws)))
  nd : g.Nodup
section
theorem kb_of {K : PySem.W.Frag} {x qual : Str} {params : Arguments} {body : List Stmt} {scope : Scope} {kws : List (Str × V)} {f : Addr} {fd : FuncData} {ps ks : List Str} {n : Nat} {g : List Nat} (F : FunD K x qual params body scope [] kws f fd) (nd : g.Nodup)
    (h : ∀ (kV doc pm : Value) (an : Option Addr) (cdv ct : Value) (us ws : List Value), us.length = n → ws.length = ks.length → bindArgs (PySem.W.fnOf x qual params body scope .none kV doc pm an cdv ct) ⟨us, ks.zip ws⟩ = pure (ps.zip (sel g (us ++ ws)))) : KB K fd ps n ks g := by
  obtain ⟨_, _, dV, kV, doc, pm, an, cdv, ct, _, rfl, _, _, none_, -⟩ := F.ex
  rcases none_ with ⟨-, rfl⟩ | ⟨no, -⟩
  · exact ⟨fun s us ws _ l1 l2 => .of_eq (h kV doc pm an cdv ct us ws l1 l2), nd⟩
  · exact absurd rfl no
variable {K : PySem.W.Frag} {W : WX} {B : Bg} {F H : Hp} {σ : Sig} {e : Ev}
theorem sel_vals {us : List V} {xs : List Value} (h : Vals us xs) : ∀ {g : List Nat}, Vals (Pu.sel g us) (Pu.sel g xs) := by
  have at_ : ∀ {us : List V} {xs : List Value} {i : Nat} {u : V}, Vals us xs → us[i]? = some u → ∃ x, xs[i]? = some x ∧ RelV u x := fun {us xs i u} h => by
    induction h generalizing i with
    | nil => intro z; simp at z
    | cons a b ih => cases i with
      | zero => intro z; simp at z; subst z; exact ⟨_, rfl, a⟩
      | succ i => intro z; exact ih (by simpa using z)
  intro g
  induction g with
  | nil => exact .nil
  | cons i g ih =>
    unfold Pu.sel
    cases hx : us[i]? with
    | none =>
      have hy : xs[i]? = none := List.getElem?_eq_none (by rw [← h.length]; exact List.getElem?_eq_none_iff.mp hx)
      simp only [hy]
      exact ih
    | some u =>
      obtain ⟨x, hy, r⟩ := at_ h hx
      simp only [hy]
      exact .cons r ih
theorem RRs.join {F1 H1 F2 H2 : Hp} {e1 e2 : Ev} (C1 : Cur K B F1 H1 e1 σ) (c2 : Cur K (bg B.np F1 H1 e1 σ) F2 H2 e2 σ) {zs : List RV} {xs : List V} (q2 : RRs K (bg B.np F1 H1 e1 σ) F2 H2 e2 σ zs xs) {rs : List RV} {us : List V} (q1 : RRs K B F1 H1 e1 σ rs us) :
    RRs K B F2 H2 e2 σ (rs ++ zs) (us ++ xs) := by
  induction q1 with
  | nil => exact Carry.out C1 q2
  | cons r d t ih =>
    rename_i r' u' rs us
    refine .cons (r.carry c2) (fun v z j w h1 h2 => ?_) ih
    replace h1 : (rs ++ zs)[j]? = some (.tmp w) := h1
    replace h2 : (us ++ xs)[j]? = some u' := h2
    have tl := t.length
    by_cases hj : j < rs.length
    · rw [List.getElem?_append_left hj] at h1
      rw [List.getElem?_append_left (by omega)] at h2
      exact d v z j w h1 h2
    · rw [List.getElem?_append_right (by omega)] at h1 h2
      subst z
      obtain ⟨t0, z1, z2, z3, z4, z5⟩ := r
      obtain ⟨o, z6⟩ := z3.some
      subst z1
      rw [← tl] at h2
      obtain ⟨t', y1, y2, y3, y4, y5⟩ := q2.mem_tmp h1 h2
      cases y1
      rcases y5 with y5 | y5
      · exact z4 y5
      · have y6 : H1 t0 = none := y5
        rw [z6] at y6; cases y6
end
abbrev SK (X : Cx) (W : WX) (kws : List Keyword) (m : M (List RV)) : Prop := PK X kws (tA X.K W m)
theorem PK.imp {X : Cx} {kws : List Keyword} {t t' : TA} (h : PK X kws t) (q : ∀ σ H Q, t' σ H Q → t σ H Q) : PK X kws t' := ⟨fun p pins s σ H Q I z => h.run p pins s σ H Q I (q σ H Q z)⟩
theorem sk_nil {X : Cx} {W : WX} : SK X W [] mNil := PK.imp pk_nil fun σ H Q h => by
  obtain ⟨np, F, e, R, h⟩ := h
  exact h.ok rfl (Cur.refl R) .nil
theorem sk_cons {X : Cx} {W : WX} {a : Expr} {nm : Option Str} {kpos : Pos} {kws : List Keyword} {ma : M RV} {mr : M (List RV)} (ha : SE X W a ma) (hr : SK X W kws mr) : SK X W (⟨nm, a, kpos⟩ :: kws) (mCons ma mr) := by
  refine PK.imp (pk_cons ha hr) fun σ H Q h => ?_
  obtain ⟨np, F, e, R, h⟩ := h
  refine use (Cur.refl R) h fun r1 e1 F1 H1 x C1 q1 _ h1 => ?_
  refine useS (R1 := RRs X.K) C1 h1 fun rs e2 F2 H2 xs C2 q2 c2 h2 => ?_
  exact h2.ok rfl C2 (RRs.front C1 q1 c2 q2)
def cK (n m : Nat) (sp : Sp) (W : WX) (g : List Nat) (t u : TA) : TE := fun σ H Q => t σ H fun vs H1 => u σ H1 fun zs H2 => vs.length = n ∧ zs.length = m ∧ sp (sel g (vs ++ zs)) H2 Q (WE W σ)
section
variable {X : Cx} {W : WX} {k n : Nat} {f : Addr} {fd : FuncData} {ps ks : List Str} {x : Str} {p pos : Pos} {e : Expr} {es : List Expr} {kws : List Keyword} {mf : M RV} {mr mk : M (List RV)} {sp : Sp} {t u : TA} {g : List Nat}
theorem goK {pins : List (Addr × Obj)} {σ : Sig} {H : Hp} {s : Shared} {Q : VK} {us ws : List Value} {vs zs : List V} (F : FnG X.prog X.w X.K X.mg X.base k f fd ps sp) (hr : Room k X.A) (hG : X.A.guards = some []) (tk : L2N.Takes X W) (hb : KB X.K fd ps n ks g)
    (I : Inv X pins σ H s) (r : Vals vs us) (rz : Vals zs ws) (l1 : vs.length = n) (l2 : zs.length = ks.length) (h : sp (sel g (vs ++ zs)) H Q (WE W σ)) : wpAny (model X.prog X.w) X.A (call (.ref f) us (ks.zip ws)) (EP X pins σ Q) X.xe s :=
  goG F hr hG tk I (hb.to s us ws I.kIn (r.length.symm.trans l1) (rz.length.symm.trans l2)) (sel_vals (r.append rz)) h
theorem pg_callKs (F : FnG X.prog X.w X.K X.mg X.base k f fd ps sp) (hr : Room k X.A) (hG : X.A.guards = some []) (tk : L2N.Takes X W) (gl : Gl X x)
    (at_ : X.mg x = some (.ref f)) (kp : PySem.W.keepIn X.K (.ref f) = true) (hb : KB X.K fd ps n ks g) (ha : PA X (e :: es) t) (hk : PK X kws u)
    (k1 : (backToKw pos (keywordEach kws X.env)).all (·.1.isSome) = true := by rfl) (k2 : (backToKw pos (keywordEach kws X.env)).filterMap (·.1) = ks := by rfl) (n1 : (x == ("__debug__" : Str)) = false := by decide)
    (n2 : starEach (e :: es) X.env = (false, eval e X.env) :: starEach es X.env := by rfl)
    (n3 : ((backTo pos (starEach (e :: es) X.env)).any (·.1) || (backToKw pos (keywordEach kws X.env)).any (·.1.isNone)) = false := by rfl) : PE X (.Call (.Name x p) (e :: es) kws pos) (cK n ks.length sp W g t u) := by
  constructor
  intro pins s σ H Q I h
  refine wpAny_Call_Name_kw (ld_glob I gl at_ ?_ n1)
  refine PySem.W.callWith_KW (h₀ := X.base) I.ok.mod.kin kp k1 (thn (ha.run pos pins s σ H _ I h) ?_) n3 n2
  rintro us s1 ⟨vs, H1, I1, r, q⟩
  refine thn (hk.run pos pins s1 σ H1 _ I1 q) ?_
  rintro ws s2 ⟨zs, H2, I2, rz, l1, l2, q2⟩
  refine ⟨I2.kIn, ?_⟩
  rw [k2]
  exact goK F hr hG tk hb I2 r rz l1 l2 q2
theorem pg_callK0 (F : FnG X.prog X.w X.K X.mg X.base k f fd ps sp) (hr : Room k X.A) (hG : X.A.guards = some []) (tk : L2N.Takes X W) (gl : Gl X x)
    (at_ : X.mg x = some (.ref f)) (kp : PySem.W.keepIn X.K (.ref f) = true) (hb : KB X.K fd ps 0 ks g) (hk : PK X kws u)
    (k1 : (backToKw pos (keywordEach kws X.env)).all (·.1.isSome) = true := by rfl) (k2 : (backToKw pos (keywordEach kws X.env)).filterMap (·.1) = ks := by rfl) (n1 : (x == ("__debug__" : Str)) = false := by decide)
    (n3 : ((backTo pos (starEach [] X.env)).any (·.1) || (backToKw pos (keywordEach kws X.env)).any (·.1.isNone)) = false := by rfl) : PE X (.Call (.Name x p) [] kws pos) (cK 0 ks.length sp W g tNil u) := by
  constructor
  intro pins s σ H Q I h
  refine wpAny_Call_Name_kw (ld_glob I gl at_ ?_ n1)
  refine PySem.W.callWith_KW0 (h₀ := X.base) I.ok.mod.kin kp k1 ?_ n3
  refine thn (hk.run pos pins s σ H _ I h) ?_
  rintro ws s2 ⟨zs, H2, I2, rz, l1, l2, q2⟩
  refine ⟨I2.kIn, ?_⟩
  rw [k2]
  exact goK (us := []) F hr hG tk hb I2 .nil rz l1 l2 q2
theorem kw_ok {K : PySem.W.Frag} {B : Bg} {F F1 F2 H H1 H2 : Hp} {e e1 e2 : Ev} {σ : Sig} {ms : List Bool} {rs zs : List RV} {us xs : List V} {m nn : Nat} {Q : VK} (C1 : Cur K B F1 H1 e1 σ) (q1 : RRs K B F1 H1 e1 σ rs us) (c2 : Cur K (bg B.np F1 H1 e1 σ) F2 H2 e2 σ)
    (q2 : RRs K (bg B.np F1 H1 e1 σ) F2 H2 e2 σ zs xs) (nd : g.Nodup) (hn : ms.length = nn) (h : At K W (RR K) B (if rs.length = n ∧ zs.length = m then runF ms mf (sel g (rs ++ zs)) else M.bad) F2 e2 σ H2 Q) : us.length = n ∧ xs.length = m ∧ spG K nn mf (sel g (us ++ xs)) H2 Q (WE W σ) := by
  by_cases hh : rs.length = n ∧ zs.length = m
  · rw [if_pos hh] at h
    exact ⟨q1.length.symm.trans hh.1, q2.length.symm.trans hh.2, call_ok (C1.trans c2) ((RRs.join C1 c2 q2 q1).sel nd) h hn⟩
  · rw [if_neg hh] at h
    exact h.elim
theorem se_callK {nn : Nat} (ms : List Bool) (F : FnG X.prog X.w X.K X.mg X.base k f fd ps (spG X.K nn mf)) (G : Good X k W) (gl : Gl X x)
    (at_ : X.mg x = some (.ref f)) (kp : PySem.W.keepIn X.K (.ref f) = true) (hb : KB X.K fd ps n ks g) (ha : SA X W (e :: es) mr) (hk : SK X W kws mk) (hn : ms.length = nn := by rfl)
    (k1 : (backToKw pos (keywordEach kws X.env)).all (·.1.isSome) = true := by rfl) (k2 : (backToKw pos (keywordEach kws X.env)).filterMap (·.1) = ks := by rfl) (n1 : (x == ("__debug__" : Str)) = false := by decide)
    (n2 : starEach (e :: es) X.env = (false, eval e X.env) :: starEach es X.env := by rfl)
    (n3 : ((backTo pos (starEach (e :: es) X.env)).any (·.1) || (backToKw pos (keywordEach kws X.env)).any (·.1.isNone)) = false := by rfl) : SE X W (.Call (.Name x p) (e :: es) kws pos) (mCallK ms mf mr mk n ks.length g) := by
  refine PE.imp (pg_callKs F G.room G.gd G.tk gl at_ kp hb ha hk k1 k2 n1 n2 n3) fun σ H Q h => ?_
  obtain ⟨np, F, e, R, h⟩ := h
  refine use (R1 := RRs X.K) (Cur.refl R) h fun rs e1 F1 H1 us C1 q1 _ h1 => ?_
  exact useS (R1 := RRs X.K) C1 h1 fun zs e2 F2 H2 xs C2 q2 c2 h2 => kw_ok (F := F) (H := H) (e := e) C1 q1 c2 q2 hb.nd hn h2
theorem se_callK0 {nn : Nat} (ms : List Bool) (F : FnG X.prog X.w X.K X.mg X.base k f fd ps (spG X.K nn mf)) (G : Good X k W) (gl : Gl X x)
    (at_ : X.mg x = some (.ref f)) (kp : PySem.W.keepIn X.K (.ref f) = true) (hb : KB X.K fd ps 0 ks g) (hk : SK X W kws mk) (hn : ms.length = nn := by rfl)
    (k1 : (backToKw pos (keywordEach kws X.env)).all (·.1.isSome) = true := by rfl) (k2 : (backToKw pos (keywordEach kws X.env)).filterMap (·.1) = ks := by rfl) (n1 : (x == ("__debug__" : Str)) = false := by decide)
    (n3 : ((backTo pos (starEach [] X.env)).any (·.1) || (backToKw pos (keywordEach kws X.env)).any (·.1.isNone)) = false := by rfl) : SE X W (.Call (.Name x p) [] kws pos) (mCallK ms mf mNil mk 0 ks.length g) := by
  refine PE.imp (pg_callK0 F G.room G.gd G.tk gl at_ kp hb hk k1 k2 n1 n3) fun σ H Q h => ?_
  obtain ⟨np, F, e, R, h⟩ := h
  have C := Cur.refl (np := np) R
  have h0 : At X.K W (RR X.K) (bg np F H e σ) (mk.bind fun zs => if ([] : List RV).length = 0 ∧ zs.length = ks.length then runF ms mf (sel g ([] ++ zs)) else M.bad) F e σ H Q := h
  exact useS (R1 := RRs X.K) C h0 fun zs e2 F2 H2 xs C2 q2 c2 h2 => kw_ok (us := []) (F := F) (H := H) (e := e) C .nil c2 q2 hb.nd hn h2
end
end Pu
set_option Elab.async false
set_option linter.all false
set_option maxRecDepth 100000
namespace Pu
open PySem PySem.Spec PyProof.Rows L2
section
variable {X : Cx} {W : WX} {np : Nat}
theorem se_bad {e : Expr} : SE X W e M.bad := ⟨fun _ _ _ _ _ _ ⟨_, _, _, _, h⟩ => h.elim⟩
theorem st_bad {e : Expr} : ST X W e M.bad := ⟨fun _ _ _ _ _ _ ⟨_, _, _, _, h⟩ => h.elim⟩
theorem si_bad {t e : Expr} : SI X W t e M.bad := ⟨fun _ _ _ _ _ _ ⟨_, _, _, _, h⟩ => h.elim⟩
theorem sg_bad {ws : List Nat} {e : Expr} : SG X W ws e (fun _ => M.bad) := ⟨fun _ _ _ _ _ _ _ _ _ ⟨_, _, _, _, _, _, h⟩ => h.elim⟩
theorem ss_bad {st : Stmt} : SS X W np st M.bad := ⟨fun _ _ _ _ _ _ ⟨_, _, _, h⟩ => h.elim⟩
theorem sb_bad {b : List Stmt} : SB X W np b M.bad := ⟨fun _ _ _ _ _ _ ⟨_, _, _, h⟩ => h.elim⟩
end
section
variable {K : PySem.W.Frag} {W : WX} {α β α' β' : Type} {R1 : Bg → Hp → Hp → Ev → Sig → α → β → Prop} {R2 : Bg → Hp → Hp → Ev → Sig → α' → β' → Prop} {B : Bg} {F H : Hp} {e : Ev} {σ : Sig}
theorem At.part [Carry K R1] {m : M α} {f : α → M α'} {Q : β' → Hp → Prop} {G : β → Hp → Prop} (C : Cur K B F H e σ) (h : At K W R2 B (m.bind f) F e σ H Q)
    (k : ∀ r e1 F1 H1 x, Cur K B F1 H1 e1 σ → R1 B F1 H1 e1 σ r x → Cur K (bg B.np F H e σ) F1 H1 e1 σ → At K W R2 B (f r) F1 e1 σ H1 Q → G x H1) : At K W R1 (bg B.np F H e σ) m F e σ H G := by
  unfold At M.bind at h
  unfold At
  cases hm : m e with
  | bad => rw [hm] at h; exact h
  | rs x e' =>
    rw [hm] at h
    exact fun F' H' cls d C' X' => h F' H' cls d (C.trans C') X'
  | ok r e' =>
    rw [hm] at h
    exact fun F' H' u C' r' => k r e' F' H' u (C.trans C') (Carry.out C r') C' h
end
theorem se_neg {X : Cx} {W : WX} {a : Expr} {ma : M RV} {pos : Pos} (ha : SE X W a ma) : SE X W (.UnaryOp .USub a pos) (mNeg ma) := by
  refine PE.imp (pe_un un_neg ha) fun σ H Q h => ?_
  obtain ⟨np, F, e, R, h⟩ := h
  refine use (R1 := RR X.K) (Cur.refl R) h fun r1 e1 F1 H1 x C1 q1 _ h1 => ?_
  obtain ⟨v, rv, h2⟩ := At.rd C1.rel q1 h1
  cases v with
  | int i => exact ⟨i, rv.int, h2.ok rfl C1 (VR.int _)⟩
  | _ => exact h2.elim
section
variable {X : Cx} {W : WX} {a b c : Expr} {ma mb mc : M RV} {pos : Pos} {f g : Val → Val → M RV} {r r' : R2} {op op' : CmpOp}
theorem chain_ok {K : PySem.W.Frag} (hf : OpV K W f r) (hg : OpV K W g r') {σ : Sig} {H : Hp} {Q : VK} (h : tE K W (mChain f g ma mb mc) σ H Q) : tChain r r' (tE K W ma) (tE K W mb) (tE K W mc) σ H Q := by
  obtain ⟨np, F, e, R, h⟩ := h
  refine use (R1 := RR K) (Cur.refl R) h fun r1 e1 F1 H1 x C1 q1 _ h1 => ?_
  refine use (R1 := RR K) C1 h1 fun r2 e2 F2 H2 y C2 q2 c2 h2 => ?_
  obtain ⟨v, rv, h3⟩ := At.rd C2.rel (q1.carry c2) h2
  obtain ⟨w, rw_, h4⟩ := At.rd C2.rel q2 h3
  refine hf (Cur.refl (np := (bg np F H e σ).np) C2.rel) rv rw_ (At.part (R1 := RR K) C2 h4 fun z e3 F3 H3 u C3 q3 c3 h5 => ?_)
  obtain ⟨k, rk, h6⟩ := At.rd C3.rel q3 h5
  cases k with
  | bl k => cases k with
    | true =>
      refine ⟨true, rk.bl, ?_⟩
      rw [if_pos rfl]
      refine use (R1 := RR K) C3 h6 fun r4 e4 F4 H4 w4 C4 q4 c4 h7 => ?_
      obtain ⟨w', rw', h8⟩ := At.rd C4.rel ((q2.carry c3).carry c4) h7
      obtain ⟨x', rx', h9⟩ := At.rd C4.rel q4 h8
      exact hg C4 rw' rx' h9
    | false =>
      refine ⟨false, rk.bl, ?_⟩
      rw [if_neg (by decide)]
      exact h6.ok rfl C3 (VR.bl false)
  | _ => exact h6.elim
theorem se_chain (ho : OpR X (compareOp op) r) (ho' : OpR X (compareOp op') r') (hf : OpV X.K W f r) (hg : OpV X.K W g r') (ha : SE X W a ma) (hb : SE X W b mb) (hc : SE X W c mc)
    (hm : lastMarks [op, op'] [b, c] = false := by with_unfolding_all rfl) : SE X W (.Compare a [op, op'] [b, c] pos) (mChain f g ma mb mc) :=
  PE.imp (pe_chain ho ho' ha hb hc hm) fun _ _ _ h => chain_ok hf hg h
theorem test_of {K : PySem.W.Frag} {m : M RV} (hb2 : ∀ e r' e', m e = .ok r' e' → ∃ b, r' = .dat (.bl b)) {σ : Sig} {H : Hp} {Q : Bool → Hp → Prop} (h : tT K W (mTru m) σ H Q) : tE K W m σ H fun x H' => ∃ k, x = .bl k ∧ Q k H' := by
  obtain ⟨np, F, e, R, h⟩ := h
  refine ⟨np, F, e, R, ?_⟩
  unfold At mTru M.bind at h
  unfold At
  cases z : m e with
  | bad => rw [z] at h; exact h
  | rs x e' => rw [z] at h; exact h
  | ok r' e' =>
    rw [z] at h
    intro F' H' u C q
    obtain ⟨b, rfl⟩ := hb2 _ _ _ z
    have eu : u = .bl b := by cases q; rfl
    subst eu
    exact ⟨b, rfl, h F' H' b C rfl⟩
theorem bind_ok {α β : Type} {m : M α} {k : α → M β} {e e2 : Ev} {b : β} (h : m.bind k e = .ok b e2) : ∃ a e1, m e = .ok a e1 ∧ k a e1 = .ok b e2 := by
  unfold M.bind at h
  cases z : m e with
  | ok a e1 => simp only [z] at h; exact ⟨a, e1, rfl, h⟩
  | rs _ _ => simp only [z] at h; cases h
  | bad => simp only [z] at h; cases h
theorem chain_bl (hg : ∀ v w e r' e', g v w e = .ok r' e' → ∃ b, r' = .dat (.bl b)) : ∀ e r' e', mChain f g ma mb mc e = .ok r' e' → ∃ b, r' = .dat (.bl b) := by
  intro e r' e' h
  obtain ⟨r1, e1, -, h⟩ := bind_ok h
  obtain ⟨r2, e2, -, h⟩ := bind_ok h
  obtain ⟨v, e3, -, h⟩ := bind_ok h
  obtain ⟨w, e4, -, h⟩ := bind_ok h
  obtain ⟨z, e5, -, h⟩ := bind_ok h
  obtain ⟨k, e6, -, h⟩ := bind_ok h
  cases k with
  | bl k => cases k with
    | false => cases h; exact ⟨false, rfl⟩
    | true =>
      obtain ⟨t, e7, -, h⟩ := bind_ok h
      obtain ⟨w', e8, -, h⟩ := bind_ok h
      obtain ⟨x, e9, -, h⟩ := bind_ok h
      exact hg _ _ _ _ _ h
  | _ => cases h
theorem st_chain (ho : OpR X (compareOp op) r) (ho' : OpR X (compareOp op') r') (hf : OpV X.K W f r) (hg : OpV X.K W g r') (hb2 : ∀ v w e r' e', g v w e = .ok r' e' → ∃ b, r' = .dat (.bl b)) (ha : SE X W a ma) (hb : SE X W b mb) (hc : SE X W c mc)
    (hm : lastMarks [op, op'] [b, c] = false := by with_unfolding_all rfl) : ST X W (.Compare a [op, op'] [b, c] pos) (mTru (mChain f g ma mb mc)) :=
  PT.imp (pt_chain ho ho' ha hb hc hm) fun _ _ _ h => chain_ok hf hg (test_of (chain_bl hb2) h)
end
theorem VRs.cut {K : PySem.W.Frag} {F : Hp} {vs : List Val} {us : List V} (h : VRs K F vs us) (lo hi : Option Int) : VRs K F (cutA vs lo hi) (cutV us lo hi) := by
  unfold cutA cutV
  rw [h.length]
  exact (h.drop _).take _
abbrev SO (X : Cx) (W : WX) (e : Option Expr) (m : M (Option Int)) : Prop := PO X e (tM X.K W (fun _ _ _ _ _ (a b : Option Int) => a = b) m)
instance {K : PySem.W.Frag} : Carry K (fun _ _ _ _ _ (b c : Option Int) => b = c) := ⟨fun _ h => h⟩
section
variable {X : Cx} {W : WX} {a : Expr} {lo hi : Option Expr} {ma : M RV} {ml mh : M (Option Int)} {pos p2 : Pos}
theorem PO.imp {e : Option Expr} {t t' : TO} (h : PO X e t) (q : ∀ σ H Q, t' σ H Q → t σ H Q) : PO X e t' := ⟨fun pins s σ H Q I z => h.run pins s σ H Q I (q σ H Q z)⟩
theorem so_none : SO X W none mNoP := PO.imp po_none fun σ H Q ⟨np, F, e, R, h⟩ => h.ok rfl (Cur.refl R) rfl
theorem so_some (ha : SE X W a ma) : SO X W (some a) (mPt ma) := by
  refine PO.imp (po_some ha) fun σ H Q h => ?_
  obtain ⟨np, F, e, R, h⟩ := h
  refine use (R1 := RR X.K) (Cur.refl R) h fun r1 e1 F1 H1 x C1 q1 _ h1 => ?_
  obtain ⟨v, rv, h2⟩ := At.rd C1.rel q1 h1
  cases v with
  | int i => exact ⟨i, rv.int, h2.ok rfl C1 rfl⟩
  | _ => exact h2.elim
theorem se_slice (ha : SE X W a ma) (hl : SO X W lo ml) (hh : SO X W hi mh) : SE X W (.Subscript a (.Slice lo hi none p2) pos) (mSl ma ml mh) := by
  refine PE.imp (pe_slice (SlR.or sl_list (SlR.or sl_tupA sl_str)) ha hl hh) fun σ H Q h => ?_
  obtain ⟨np, F, e, R, h⟩ := h
  refine use (R1 := RR X.K) (Cur.refl R) h fun r e1 F1 H1 x C1 q1 _ h1 => ?_
  refine use (R1 := fun _ _ _ _ _ (a b : Option Int) => a = b) C1 h1 fun l e2 F2 H2 l' C2 q2 c2 h2 => ?_
  refine use (R1 := fun _ _ _ _ _ (a b : Option Int) => a = b) C2 h2 fun u e3 F3 H3 u' C3 q3 c3 h3 => ?_
  obtain ⟨v, rv, h4⟩ := At.rd C3.rel ((q1.carry c2).carry c3) h3
  have el : l = l' := q2
  have eu : u = u' := q3
  subst el eu
  cases v with
  | lst xs =>
    obtain ⟨p, us, rfl, z1, z2⟩ := rv.lst C3.rel.sub
    refine .inl ⟨p, us, rfl, .inl z1, fun t ht => ?_⟩
    obtain ⟨C4, n4, f4, m4⟩ := C3.grow (o := .lst (cutV us l u)) ht
    exact h4.ok (r := RV.tmp (.lst (cutA xs l u))) rfl C4 ⟨t, rfl, f4, ⟨_, upd_same, z2.cut l u⟩, n4, m4⟩
  | tup xs =>
    obtain ⟨p, us, rfl, z1, z2⟩ := rv.tup C3.rel.sub
    refine .inr (.inl ⟨p, us, rfl, z1, fun hw => ?_, fun hw t ht => ?_⟩)
    · have e1 : cutA xs l u = xs := by
        unfold cutA
        rw [z2.length, hw.1, hw.2, List.drop_zero, Nat.sub_zero, ← z2.length, List.take_length]
      have h5 := h4
      rw [show slV (.tup xs) l u = M.ret (.dat (.tup (cutA xs l u))) from rfl, e1] at h5
      rcases rv with rv | ⟨_, _, no⟩
      · exact h5.ok rfl C3 rv
      · exact no.elim
    · obtain ⟨C4, s4, e4⟩ := C3.growF (o := .tup (cutV us l u)) ht
      exact h4.ok rfl C4 (VR.tup (SqT.of e4) ((z2.mono s4 |> fun z => z.cut l u)))
  | str z =>
    rw [rv.str]
    by_cases hz : z.length ≤ sizeLine
    · rw [show slV (.str z) l u = M.ret (.dat (.str (cutS z l u))) from by simp only [slV, hz, if_true]] at h4
      exact .inr (.inr ⟨z, rfl, hz, h4.ok rfl C3 (VR.str _)⟩)
    · rw [show slV (.str z) l u = M.bad from by simp only [slV, hz, if_false]] at h4
      exact h4.elim
  | _ => exact h4.elim
end
end Pu
set_option Elab.async false
set_option linter.all false
set_option maxRecDepth 100000
namespace Pu
open PySem PySem.Spec PyProof.Rows L2
def setsS : List Nat → List V → Sig → Sig
  | i :: is, u :: us, σ => setsS is us (σ.set i (some u))
  | _, _, σ => σ
section
variable {K : PySem.W.Frag} {W : WX} {B : Bg} {F H : Hp} {D : Ends}
theorem RRs.setOwn {e : Ev} {σ : Sig} {i : Nat} {t : Addr} {v : Val} {rs : List RV} {us : List V} (h : RRs K B F H e σ rs us) (n : noBor rs = true) (d : ∀ (j : Nat) w, rs[j]? = some (.tmp w) → us[j]? ≠ some (.ref t)) :
    RRs K B F H (e.set i (.own v)) (σ.set i (some (.ref t))) rs us := by
  induction h with
  | nil => exact .nil
  | cons r c q ih =>
    rename_i r' u' rs us
    refine .cons ?_ c (ih ?_ fun j w z => ?_)
    · cases r' with
      | dat w => exact r
      | bor j => cases n
      | tmp w =>
        obtain ⟨t', z1, z2, z3, z4, z5⟩ := r
        refine ⟨t', z1, z2, z3, fun ⟨j, x, y1, y2⟩ => ?_, z5⟩
        rcases getset y1 with ⟨z, _, _⟩ | ⟨z, y1⟩
        · subst z
          rcases getset y2 with ⟨_, y3, _⟩ | ⟨z', _⟩
          · have et : V.ref t' = V.ref t := Option.some.inj y3
            exact d 0 w rfl (by rw [z1, et]; rfl)
          · exact z' rfl
        · rw [List.getElem?_set_ne z] at y2
          exact z4 ⟨j, x, y1, y2⟩
    · cases r' <;> first | exact n | cases n
    · have := d (j + 1) w (by simpa using z)
      simpa using this
theorem RRs.setDat {e : Ev} {σ : Sig} {i : Nat} {u : V} {v : Val} {rs : List RV} {us : List V} (h : RRs K B F H e σ rs us) (n : noBor rs = true) : RRs K B F H (e.set i (.dat v)) (σ.set i (some u)) rs us := by
  induction h with
  | nil => exact .nil
  | cons r c q ih =>
    rename_i r' u' rs us
    refine .cons ?_ c (ih ?_)
    · cases r' with
      | dat w => exact r
      | bor j => cases n
      | tmp w =>
        obtain ⟨t', z1, z2, z3, z4, z5⟩ := r
        exact ⟨t', z1, z2, z3, fun z => z4 (z.unset Slot.dat_ne), z5⟩
    · cases r' <;> first | exact n | cases n
theorem sets_ok : ∀ {is : List Nat} {rs : List RV} {us : List V} {e : Ev} {σ : Sig}, Cur K B F H e σ → RRs K B F H e σ rs us → noBor rs = true → ((∀ i ∈ is, B.np ≤ i) ∨ ∀ r ∈ rs, ∃ v, r = .dat v) → Cur K B F H (setsE is rs e) (setsS is us σ)
  | [], rs, us, e, σ, C, _, _, _ => by cases rs <;> cases us <;> exact C
  | i :: is, _, _, e, σ, C, .nil, _, _ => C
  | i :: is, r :: rs, u :: us, e, σ, C, .cons a d t, n, hp => by
    have n' : noBor rs = true := by cases r <;> first | exact n | cases n
    have hp' : (∀ i ∈ is, B.np ≤ i) ∨ ∀ r ∈ rs, ∃ v, r = .dat v := by
      rcases hp with hp | hp
      · exact .inl fun j hj => hp j (List.mem_cons_of_mem _ hj)
      · exact .inr fun j hj => hp j (List.mem_cons_of_mem _ hj)
    show Cur K B F H (setsE is rs (e.set i (slotOf r))) (setsS is us (σ.set i (some u)))
    cases r with
    | dat v => exact sets_ok (C.setDat a) (t.setDat n') n' hp'
    | bor j => cases n
    | tmp v =>
      have hi : B.np ≤ i := by
        rcases hp with hp | hp
        · exact hp i (List.mem_cons_self ..)
        · obtain ⟨w, z⟩ := hp _ (List.mem_cons_self ..); cases z
      obtain ⟨a0, rfl, x2, x3, x4, x5⟩ := a
      exact sets_ok (C.setOwn x2 x3 x4 x5 hi) (t.setOwn n' fun j w z => d v rfl j w z) n' hp'
end
theorem noBor_dat : ∀ {vs : List Val}, noBor (vs.map .dat) = true
  | [] => rfl
  | _ :: vs => noBor_dat (vs := vs)
section
variable {X : Cx} {W : WX} {np k : Nat} {a b c : Expr} {ms : M (List RV)} {px py pz pt pos : Pos} {x y z : Str} {kt : Nat}
theorem par_ok {K : PySem.W.Frag} {B : Bg} {F H : Hp} {e : Ev} {σ : Sig} {D : Ends} {p : Bool} {is : List Nat} {rs : List RV} {us : List V} (hp : p = true ∨ ∀ i ∈ is, B.np ≤ i) (C : Cur K B F H e σ) (q : RRs K B F H e σ rs us)
    (h : AtS K W B (if rs.length = is.length then (if noBor rs = true ∧ p = false then fun e => .ok .nx (setsE is rs e) else (M.dts rs).bind fun vs => fun e => .ok .nx (setsE is (vs.map .dat) e)) else M.bad) F e σ H D) : us.length = is.length ∧ D.nx (setsS is us σ) H := by
  by_cases hl : rs.length = is.length
  · rw [if_pos hl] at h
    refine ⟨q.length.symm.trans hl, ?_⟩
    by_cases hb : noBor rs = true ∧ p = false
    · rw [if_pos hb] at h
      refine h.nx rfl (sets_ok C q hb.1 (.inl ?_))
      rcases hp with hp | hp
      · rw [hb.2] at hp; cases hp
      · exact hp
    · rw [if_neg hb] at h
      obtain ⟨F2, e2, vs, C2, _, r2, h2⟩ := AtS.dts C q h
      refine h2.nx rfl (sets_ok C2 (RRs.dats r2) noBor_dat (.inr fun r hr => ?_))
      obtain ⟨v, _, z⟩ := List.mem_map.mp hr
      exact ⟨v, z.symm⟩
  · rw [if_neg hl] at h
    exact h.elim
theorem ss_par (i j : Nat) (p : Bool) {k2 pt2} (G : Good X k W) (ha : SA X W [a, b] ms) (hp : p = true ∨ ∀ n ∈ [i, j], np ≤ n := by decide) (hij : i ≠ j := by decide) (hi : X.N[i]? = some x := by rfl) (hj : X.N[j]? = some y := by rfl)
    (hx : X.env.scope.names.lookup x = some .local := by rfl) (hy : X.env.scope.names.lookup y = some .local := by rfl)
    (hw : swappedStores [.Tuple [.Name x px, .Name y py] kt pt] (.Tuple [a, b] k2 pt2) X.env = pure (some [x, y]) := by rfl)
    (hs : swapsWithSole [.Tuple [.Name x px, .Name y py] kt pt] (.Tuple [a, b] k2 pt2) pos.line X.env = pure false := by rfl) :
    SS X W np (.Assign [.Tuple [.Name x px, .Name y py] kt pt] (.Tuple [a, b] k2 pt2) pos) (mPar p [i, j] ms) := by
  refine PS.imp (ps_par G.calm G.nd hi hj hij hx hy ha hw hs) fun D σ H h => ?_
  obtain ⟨F, e, R, h⟩ := h
  refine useX (R1 := RRs X.K) (Cur.refl R) h fun rs e1 F1 H1 us C1 q1 _ h1 => ?_
  obtain ⟨l, w⟩ := par_ok hp C1 q1 h1
  match us, l, w with
  | [u, v], _, w => exact ⟨u, v, rfl, w⟩
theorem ss_par3 (i j l : Nat) (p : Bool) {k2 pt2} (G : Good X k W) (ha : SA X W [a, b, c] ms) (hp : p = true ∨ ∀ n ∈ [i, j, l], np ≤ n := by decide) (hij : i ≠ j := by decide) (hil : i ≠ l := by decide) (hjl : j ≠ l := by decide) (hi : X.N[i]? = some x := by rfl) (hj : X.N[j]? = some y := by rfl) (hl : X.N[l]? = some z := by rfl)
    (hx : X.env.scope.names.lookup x = some .local := by rfl) (hy : X.env.scope.names.lookup y = some .local := by rfl) (hz : X.env.scope.names.lookup z = some .local := by rfl)
    (hw : swappedStores [.Tuple [.Name x px, .Name y py, .Name z pz] kt pt] (.Tuple [a, b, c] k2 pt2) X.env = pure (some [x, y, z]) := by rfl)
    (hs : swapsWithSole [.Tuple [.Name x px, .Name y py, .Name z pz] kt pt] (.Tuple [a, b, c] k2 pt2) pos.line X.env = pure false := by rfl) :
    SS X W np (.Assign [.Tuple [.Name x px, .Name y py, .Name z pz] kt pt] (.Tuple [a, b, c] k2 pt2) pos) (mPar p [i, j, l] ms) := by
  refine PS.imp (ps_par3 G.calm G.nd hi hj hl hij hil hjl hx hy hz ha hw hs) fun D σ H h => ?_
  obtain ⟨F, e, R, h⟩ := h
  refine useX (R1 := RRs X.K) (Cur.refl R) h fun rs e1 F1 H1 us C1 q1 _ h1 => ?_
  obtain ⟨l, w⟩ := par_ok hp C1 q1 h1
  match us, l, w with
  | [u, v, w'], _, w => exact ⟨u, v, w', rfl, w⟩
end
theorem v_addI {K : PySem.W.Frag} {W : WX} : OpV K W oAddI (rI0 fun i j => .int (i + j)) := opv_I fun _ _ _ => .int _
section
variable {K : PySem.W.Frag} {W : WX} {α β : Type} {R1 : Bg → Hp → Hp → Ev → Sig → α → β → Prop} {B : Bg} {F H : Hp} {e : Ev} {σ : Sig} {D : Ends}
theorem AtS.part [Carry K R1] {m : M α} {f : α → S} {G : β → Hp → Prop} (C : Cur K B F H e σ) (h : AtS K W B (m.bind f) F e σ H D)
    (k : ∀ r e1 F1 H1 x, Cur K B F1 H1 e1 σ → R1 B F1 H1 e1 σ r x → Cur K (bg B.np F H e σ) F1 H1 e1 σ → AtS K W B (f r) F1 e1 σ H1 D → G x H1) : At K W R1 (bg B.np F H e σ) m F e σ H G := by
  unfold AtS M.bind at h
  unfold At
  cases hm : m e with
  | bad => rw [hm] at h; exact h
  | rs x e' =>
    rw [hm] at h
    exact fun F' H' cls d C' X' => h F' H' σ cls d (C.trans C') X'
  | ok r e' =>
    rw [hm] at h
    exact fun F' H' u C' r' => k r e' F' H' u (C.trans C') (Carry.out C r') C' h
end
theorem ss_aug {X : Cx} {W : WX} {np k : Nat} (i : Nat) {x : Str} {e : Expr} {op : Operator} {f : Val → Val → M RV} {r : R2} {m : M RV} {pos pos' : Pos} (G : Good X k W) (ho : OpR X (inplaceOp op) r) (hv : OpV X.K W f r) (hm : SE X W e m) (hi : X.N[i]? = some x := by rfl) (hx : Loc X.env.scope x := by first | exact Or.inl rfl | exact Or.inr rfl)
    (hf : X.fn x = true ∨ X.env.scope.names.lookup x = some .local := by first | exact .inl rfl | exact .inr rfl) : SS X W np (.AugAssign (.Name x pos') op e pos) (mAug i f m) := by
  refine PS.imp (ps_aug (ti := r) G.nd hi hx hm ho hf) fun D σ H h => ?_
  obtain ⟨F, e, R, h⟩ := h
  cases z : e[i]? with
  | none => unfold AtS mAug M.bind mVar at h; simp only [z] at h
  | some s =>
    have il : i < σ.length := R.len ▸ (List.getElem?_eq_some_iff.mp z).1
    have ho' : σ[i]? = some σ[i] := List.getElem?_eq_getElem il
    cases s with
    | un => unfold AtS mAug M.bind mVar at h; simp only [z] at h
    | own v => unfold AtS mAug M.bind mVar at h; simp only [z] at h; exact h.elim
    | dat v =>
      obtain ⟨u, h1, h2⟩ := R.slot i _ _ z ho'
      have C := Cur.refl (np := np) R
      have h3 : AtS X.K W (bg np F H e σ) (m.bind fun s => (M.rd s).bind fun w => (f v w).bind fun z => match z with
        | .dat v' => fun e => .ok .nx (e.set i (.dat v'))
        | _ => M.bad) F e σ H D := by
        unfold AtS mAug at h
        unfold AtS
        unfold M.bind at h ⊢
        unfold mVar at h
        simp only [z] at h
        exact h
      refine ⟨u, by rw [ho', h1], useX (R1 := RR X.K) C h3 fun s e1 F1 H1 y C1 q1 c1 h4 => ?_⟩
      obtain ⟨w, rw_, h5⟩ := AtS.rd C1.rel q1 h4
      refine hv (Cur.refl (np := (bg np F H e σ).np) C1.rel) (.inl (h2.mono c1.post.sub)) rw_ (AtS.part (R1 := RR X.K) C1 h5 fun z e2 F2 H2 t C2 q2 c2 h6 => ?_)
      cases z with
      | dat v' => exact h6.nx rfl (C2.setDat q2)
      | _ => exact h6.elim
theorem VRs.rep {K : PySem.W.Frag} {F : Hp} {vs : List Val} {us : List V} (h : VRs K F vs us) : ∀ n : Nat, VRs K F (List.replicate n vs).flatten (List.replicate n us).flatten
  | 0 => .nil
  | n + 1 => by
    rw [List.replicate_succ, List.replicate_succ, List.flatten_cons, List.flatten_cons]
    exact h.append (VRs.rep h n)
theorem se_rep {X : Cx} {W : WX} {a b : Expr} {ma mb : M RV} {pos : Pos} (ha : SE X W a ma) (hb : SE X W b mb) : SE X W (.BinOp a .Mult b pos) (mRep ma mb) := by
  refine PE.imp (pe_op op_rep ha hb) fun σ H Q h => ?_
  obtain ⟨np, F, e, R, h⟩ := h
  refine use (R1 := RR X.K) (Cur.refl R) h fun r e1 F1 H1 x C1 q1 _ h1 => ?_
  refine use (R1 := RR X.K) C1 h1 fun s e2 F2 H2 y C2 q2 c2 h2 => ?_
  obtain ⟨k, rk, h3⟩ := At.rd C2.rel q2 h2
  have q1' := q1.carry c2
  cases r with
  | tmp v => cases v with
    | lst xs => cases k with
      | int n =>
        dsimp only at h3
        by_cases hh : -9223372036854775808 ≤ n ∧ n < 9223372036854775808 ∧ xs.length * n.toNat ≤ sizeLine
        · rw [if_pos hh] at h3
          obtain ⟨t, rfl, z2, ⟨us, z3, z4⟩, z5, z6⟩ := q1'
          refine ⟨t, n, us, rfl, rk.int, z3, by simpa using hh.1, by simpa using hh.2.1, by rw [← z4.length]; exact hh.2.2, fun p hp => ?_⟩
          obtain ⟨C3, n3, f3, m3⟩ := C2.grow (o := .lst (List.replicate n.toNat us).flatten) hp
          exact h3.ok (r := RV.tmp (.lst (List.replicate n.toNat xs).flatten)) rfl C3 ⟨p, rfl, f3, ⟨_, upd_same, z4.rep _⟩, n3, m3⟩
        · rw [if_neg hh] at h3
          exact h3.elim
      | _ => exact h3.elim
    | _ => cases k <;> exact h3.elim
  | dat v => cases k <;> exact h3.elim
  | bor i => cases k <;> exact h3.elim
structure Isi (K : PySem.W.Frag) (C : Addr) : Prop where
  cls : Cls K C
  at_ : PySem.W.findIn K (.ref C) "__class__" = some (some (.builtin "object.__class__"))
  get : PySem.W.specialIn K (.builtin "object.__class__") "__get__" = some (some (.builtin "getset_descriptor.__get__"))
  tak : PySem.W.takesIn K (.builtin "object.__class__") = some true
  obj : PySem.W.mroIn K C (.type "object") = some true
structure TOk (K : PySem.W.Frag) (T : List (Tg × Tg × Bool)) : Prop where
  ans : ∀ e ∈ T, PySem.W.kitOne K (tagT K e.1) (tagT K e.2.1) = some e.2.2
  own : ∀ e ∈ T, ∀ C, e.1 = .inr C → Isi K (He.ga K C)
theorem tag_of {K : PySem.W.Frag} {F H : Hp} {v : Val} {u : V} {a : Tg} (s : Same F H) (r : RdR K F H v u) (h : tagV v = some a) (own : ∀ C, a = .inr C → Isi K (He.ga K C)) : TyX K H u (tagT K a) := by
  cases v with
  | non => cases h; rw [r.non]; exact .base .non
  | bl b => cases h; rw [r.bl]; exact .base (.bl b)
  | int i => cases h; rw [r.int]; exact .base (.int i)
  | str x => cases h; rw [r.str]; exact .base (.str x)
  | ty n => cases h
  | glo x => cases h
  | tup xs =>
    cases h
    obtain ⟨p, us, rfl, z, _⟩ := r.tup s
    rcases z with (z | ⟨o, z⟩) | ⟨o, its, n, z1, z2, _⟩
    · exact .base (.tup z)
    · exact .fTuple z
    · exact .kTuple z1 z2
  | lst xs =>
    cases h
    obtain ⟨p, us, rfl, z, _⟩ := r.lst s
    rcases z with z | ⟨o, z⟩
    · exact .base (.lst z)
    · exact .base (.frz z)
  | obj C fs vs =>
    cases h
    obtain ⟨p, dx, us, rfl, z, _⟩ := r.obj s
    obtain ⟨i1, i2, i3, i4, i5⟩ := own C rfl
    exact .base (.ins z i1 i2 i3 i4 i5)
  | dct ks vs =>
    cases h
    obtain ⟨p, us, rfl, z, _⟩ := r.dct s
    exact .base (.dK z)
theorem v_isi {K : PySem.W.Frag} {W : WX} {T : List (Tg × Tg × Bool)} (hT : TOk K T) : FnV K W (fIsi T) (rIsi K) := by
  intro B F H e σ vs us Q C r h
  unfold fIsi at h
  split at h
  · rename_i v c
    split at h
    · rename_i a b ha hb
      cases z : T.find? fun e => decide (e.1 = a ∧ e.2.1 = b) with
      | none => simp only [z] at h; exact h.elim
      | some en =>
        simp only [z] at h
        obtain ⟨u, w, rfl, r1, r2⟩ := r.two
        have m := List.mem_of_find?_eq_some z
        have p := List.find?_some z
        have p' : en.1 = a ∧ en.2.1 = b := of_decide_eq_true p
        obtain ⟨rfl, rfl⟩ := p'
        refine ⟨u, w, _, tagT K en.2.1, en.2.2, rfl, ?_, tag_of C.rel.sub r1 ha (hT.own en m), hT.ans en m, h.ok rfl C (VR.bl _)⟩
        cases c with
        | ty n => cases hb' : en.2.1 with
          | inl n' =>
            rw [hb'] at hb
            cases hb
            rw [r2.ty]
            exact .ty n
          | inr C' => rw [hb'] at hb; cases hb
        | glo D => cases hb' : en.2.1 with
          | inr C' =>
            rw [hb'] at hb
            cases hb
            rw [r2.glo]
            exact .own _
          | inl n' => rw [hb'] at hb; cases hb
        | _ => cases hb
    · exact h.elim
  · exact h.elim
end Pu
set_option Elab.async false
set_option linter.all false
set_option maxRecDepth 100000
set_option maxHeartbeats 2000000
namespace Pu
open PySem PySem.Spec PyProof.Rows L2
def TabsB (K : PySem.W.Frag) (mg : Str → Option Value) (base : Heap) : Prop := ∀ p ∈ tabs3 K, LamX.TabB base mg p.1 p.2.1
theorem mem_tabs {K : PySem.W.Frag} {p : Addr × Str} (h : p ∈ tabsOf K) : ∃ c, (c, p) ∈ tabs3 K := by
  unfold tabsOf at h
  obtain ⟨q, h1, rfl⟩ := List.mem_map.mp h
  exact ⟨q.1, h1⟩
theorem law_goes {P : Program} {w : World} {K : PySem.W.Frag} {mg mb : Str → Option Value} {k : Nat} {fa a : Addr} {fd : FuncData} {x : Str} {sp : Sp} {s : Shared} {vs : List Value} {ns : List Int}
    (inK : K.In s.heap) (nl : ∀ b o, K.lookup b = some o → o.cls ≠ .type "list") (te : TabsE K s.heap) (globals : s.heap.Ns mainGlobals mg) (blts : s.heap.Ns builtinsNs mb) (boots : ∀ y : Str, y ≠ "__name__" → mb y = bootBuiltins y) (unlimited : s.heap.NoLimit) (calm : s.gens = #[])
    (hbm : ∃ (bm : Addr) (ob : Obj), mg "__builtins__" = some (.ref bm) ∧ bm ≠ builtinsNs ∧ s.heap.get? bm = some ob ∧ ob.cls = .type "module" ∧ ob.dict = some builtinsNs ∧ ob.data = .plain)
    (script : s.heap.get? a = some { cls := .type "list", data := .seq vs.toArray }) (allInt : IntsAre vs ns) (few : ns.length ≤ sizeLine) (room : Room k callerA)
    (F : ∀ base : Heap, K.In base → base.Ns mainGlobals mg → TabsB K mg base → FnG P w K mg base k fa fd [x] sp) (bt : ∀ (s : Shared) (u : Value), BindsTo s fd ⟨[u], []⟩ [(x, u)])
    (wish : ∀ H : Hp, Rd H a (.lst (ns.map V.int)) → LamX.Tabs (tabsOf K) H → sp [.ref a] H (fun v _ => v = .bl true) fun _ _ _ => False) :
    codeAny (model P w) callerA (.call (.ref fa) ⟨[.ref a], []⟩) (fun r s' => r = .ok (.ret (.bool true)) ∧ OldK s.heap s'.heap ∧ s'.os = s.os ∧ AllBare s'.gens) s := by
  have outK : K.lookup a = none := by
    cases q : K.lookup a with
    | none => rfl
    | some o =>
      have := inK a o q
      rw [script] at this
      cases this
      exact absurd rfl (nl a _ q)
  have tabAt : ∀ b, b ∈ (tabsOf K).map (·.1) → ∃ p ∈ tabs3 K, p.2.1 = b := fun b hb => by
    obtain ⟨p, hp, rfl⟩ := List.mem_map.mp hb
    obtain ⟨c, hc⟩ := mem_tabs hp
    exact ⟨_, hc, rfl⟩
  have tabIs : ∀ b, b ∈ (tabsOf K).map (·.1) → s.heap.get? b = some { cls := .none, data := .fields #[] } := fun b hb => by
    obtain ⟨p, hp, rfl⟩ := tabAt b hb
    exact te.empty p hp
  have tabMem : ∀ p ∈ tabs3 K, p.2.1 ∈ (tabsOf K).map (·.1) := fun p hp => List.mem_map.mpr ⟨p.2, List.mem_map.mpr ⟨p, hp, rfl⟩, rfl⟩
  have noTab : a ∉ (tabsOf K).map (·.1) := fun z => by
    have q := tabIs a z
    rw [script] at q
    cases (congrArg Obj.data (Option.some.inj q) : Data.seq vs.toArray _ = Data.fields #[])
  -- the script and the tables are tracked; nobody writes the script
  obtain ⟨H, here, tabs, only⟩ : ∃ H : Hp, H a = some (.frz { cls := .type "list", data := .seq vs.toArray } (.lst (ns.map V.int))) ∧ (∀ b, b ∈ (tabsOf K).map (·.1) → H b = some (.tbl #[])) ∧ ∀ b, b ≠ a → b ∉ (tabsOf K).map (·.1) → H b = none :=
    ⟨fun b => if b = a then some (.frz { cls := .type "list", data := .seq vs.toArray } (.lst (ns.map V.int))) else if b ∈ (tabsOf K).map (·.1) then some (.tbl #[]) else none, if_pos rfl, fun b hb => (if_neg fun z => noTab (by rw [← z]; exact hb)).trans (if_pos hb), fun b ne nt => (if_neg ne).trans (if_neg nt)⟩
  have sound : HOk P w H s.heap := fun b u z => by
    by_cases ne : b = a
    · subst ne
      rw [here] at z
      cases z
      exact ⟨script, by rw [List.length_map]; exact few, vs, _, vals_ints allInt, script⟩
    · by_cases hb : b ∈ (tabsOf K).map (·.1)
      · rw [tabs b hb] at z
        cases z
        exact tabIs b hb
      · rw [only b ne hb] at z; cases z
  have under : ∀ {b : Addr} {o : Obj}, s.heap.get? b = some o → b ≠ a → o ≠ { cls := .none, data := .fields #[] } → (hidT s.heap H).get? b = some o := fun {b o} e ne nt => hidT_get e (only _ ne fun hb => nt (Option.some.inj (e.symm.trans (tabIs b hb))))
  have table : ∀ {b : Addr} {m : Str → Option Value}, s.heap.Ns b m → (hidT s.heap H).Ns b m := fun {b m} h => by
    obtain ⟨o, es, ep, e, d, r⟩ := h
    refine ⟨o, es, ep, under e (fun z => ?_) (fun z => ?_), d, r⟩
    · subst z
      rw [script] at e
      cases e
      cases (show Data.seq vs.toArray _ = Data.dict es ep from d)
    · subst z
      cases (show Data.fields #[] = Data.dict es ep from d)
  have inB : K.In (hidT s.heap H) := fun b o e => hidT_get (inK b o e) (only b (fun z => by rw [z, outK] at e; cases e) fun hb => by
    obtain ⟨p, hp, rfl⟩ := tabAt b hb
    rw [te.out p hp] at e; cases e)
  have module_ : Mod K mg (hidT s.heap H) := by
    obtain ⟨mc, u1, u2⟩ := unlimited
    exact ⟨inB, table globals, ⟨mb, table blts, boots⟩, ⟨mc, table u1, u2⟩⟩
  have noFrame : ∀ b, b ∈ frs ([] : List Env) → False := fun b hb => by
    have : b ∈ ([] : List Addr) := hb
    simp at this
  have TB : TabsB K mg (hidT s.heap H) := fun p hp => by
    refine ⟨PySem.W.codeHd_of_K inB (te.hd p hp), ?_, fun z => ?_⟩
    · obtain ⟨bm, ob, b1, b2, b3, b4, b5, b6⟩ := hbm
      have nG : bm ≠ mainGlobals := fun q => by
        obtain ⟨o, es, ep, e, hd, _⟩ := globals
        rw [q, e] at b3
        cases b3
        rw [hd] at b6
        cases b6
      have nP : bm ≠ p.2.1 := fun q => by
        rw [q, te.empty p hp] at b3
        cases b3
        cases b6
      refine ⟨bm, ob, b1, b2, nG, nP, under b3 (fun q => ?_) (fun q => ?_), b4, b5, b6⟩
      · rw [q, script] at b3
        cases b3
        cases b6
      · rw [q] at b6
        cases b6
    · obtain ⟨o, es, ep, e, hd, _⟩ := globals
      rw [z, te.empty p hp] at e
      cases e
      cases hd
  have start : Env0 P w K mg (hidT s.heap H) callerA [] s H := ⟨rfl, module_, fun _ _ e => of_hidT e, Nat.le_of_eq (hidT_size _ _), trivial, fun b hb => (noFrame b hb).elim, sound, .of_eq calm⟩
  have tabsH : LamX.Tabs (tabsOf K) H := fun p hp => LamX.TabS.nil (tabs _ (List.mem_map.mpr ⟨p, hp, rfl⟩))
  have runs := (F _ inB (table globals) TB).goes callerA [] s H ⟨[.ref a], []⟩ [.ref a] [.ref a] _ _ room rfl start (bt s (.ref a)) (.cons rfl .nil) (wish H (.inr ⟨_, here⟩) tabsH)
  refine codeAny_mono runs fun res s' got => ?_
  match res, got with
  | .error z, got =>
    obtain ⟨_, _, _, _, _, _, _, _, _, _, _, _, no⟩ := got
    exact no.elim
  | .ok (.ret u), got =>
    obtain ⟨v, H', sameOs, bare, kept, sound', rel, isTrue⟩ := got
    have isTrue' : v = .bl true := isTrue
    subst isTrue'
    have eu : u = Value.bool true := rel
    have grown : ∀ b, b ∈ (tabsOf K).map (·.1) → ∃ more : Array Value, s'.heap.get? b = some { cls := .none, data := .fields more } := fun b hb => by
      obtain ⟨more, z⟩ := kept.tbls b #[] (tabs b hb)
      exact ⟨_, sound' b _ z⟩
    have stays : ∀ b o, b ∉ (tabsOf K).map (·.1) → s.heap.get? b = some o → s'.heap.get? b = some o := fun b o nb e => by
      by_cases ne : b = a
      · subst ne
        have still := (sound' b _ (kept.frzs b _ _ here)).1
        rw [script] at e
        cases e
        exact still
      · exact kept.keep b o e (only b ne nb) (fun hb => noFrame b hb) (by simp)
    refine ⟨by rw [eu], ⟨fun b o e => ?_, fun b o e => ?_⟩, sameOs, bare⟩
    · by_cases hb : b ∈ (tabsOf K).map (·.1)
      · obtain ⟨more, hm⟩ := grown b hb
        obtain ⟨p, hp, rfl⟩ := tabAt b hb
        have e' := te.empty p hp
        rw [e] at e'
        cases e'
        exact .inr (.inl ⟨((PySem.W.codeHd_of_K inK (te.hd p hp)).tab e).isCodeTable, rfl, #[], more, rfl, by rw [Array.empty_append]; exact hm⟩)
      · exact .inl (stays b o hb e)
    · by_cases hb : b ∈ (tabsOf K).map (·.1)
      · obtain ⟨more, hm⟩ := grown b hb
        exact ⟨_, hm⟩
      · exact ⟨o, stays b o hb e⟩
theorem prop_ok {K : PySem.W.Frag} {C f : Str} (h : (Fy.prop C f).ok K = true) : PropOf K (He.ga K C) f (He.ma K (He.ga K C) f) (gA K C f) := by
  unfold Fy.ok at h
  simp only [Bool.and_eq_true, decide_eq_true_eq] at h
  obtain ⟨h1, h2, h3, h4⟩ := h
  refine ⟨He.eqO_ok h1, He.eqO_ok h2, h3, ?_⟩
  unfold gA
  split at h4
  · rename_i g rest e
    exact ⟨rest, by rw [e]⟩
  · cases h4
theorem isi_ok {K : PySem.W.Frag} {C : Str} (h : (Fy.isi C).ok K = true) : Isi K (He.ga K C) := by
  unfold Fy.ok at h
  simp only [Bool.and_eq_true, decide_eq_true_eq] at h
  obtain ⟨h1, h2, h3, h4, h5⟩ := h
  exact ⟨He.cls_ok h5, He.eqO_ok h1, He.eqO_ok h2, h3, h4⟩
theorem kit_ok {K : PySem.W.Frag} {a b : Tg} {r : Bool} (h : (Fy.kit a b r).ok K = true) : PySem.W.kitOne K (tagT K a) (tagT K b) = some r := of_decide_eq_true h
theorem noLists_ok {K : PySem.W.Frag} (h : noLists K = true) : ∀ b o, K.lookup b = some o → o.cls ≠ .type "list" := by
  intro b o e z
  have go : ∀ {l : List (Addr × Obj)}, l.lookup b = some o → (b, o) ∈ l := fun {l} => by
    induction l with
    | nil => intro q; cases q
    | cons p l ih =>
      intro q
      obtain ⟨c, d⟩ := p
      by_cases hc : b = c
      · subst hc
        rw [List.lookup_cons_self] at q
        cases q
        exact List.mem_cons_self ..
      · rw [List.lookup_cons, beq_eq_false_iff_ne.mpr hc] at q
        exact List.mem_cons_of_mem _ (ih q)
  have := List.all_eq_true.mp h _ (go e)
  simp only [z] at this
  simp at this
theorem walk_goes {l : PySem.W.OpenLaw} {n k : Nat} {q : Program} {loose : List Str} {XP : (Str → Option Value) → Heap → Prop} {YP : World → Heap → Prop} {d : DefRec} {x : Str}
    (hn : l.most = some n) (hn2 : n ≤ sizeLine) (hdf : d.params.defaults = []) (room : Room k callerA)
    (F : ∀ (w : World) (mg : Str → Option Value) (fa : Addr) (h : Heap), YP w h → h.Ns mainGlobals mg → mg d.name = some (.ref fa) →
      ∃ (K : PySem.W.Frag) (fd : FuncData) (f : M RV), K.In h ∧ noLists K = true ∧ TabsE K h ∧ (∀ (s : Shared) (u : Value), BindsTo s fd ⟨[u], []⟩ [(x, u)]) ∧
        (∀ ns : List Int, ns.length ≤ n → ∃ e', f [.dat (.lst (ns.map .int))] = .ok (.dat (.bl true)) e') ∧
        ∀ base : Heap, K.In base → base.Ns mainGlobals mg → TabsB K mg base → FnG l.prog w K mg base k fa fd [x] (spG K 1 f)) :
    PySem.W.WalkO q loose XP YP l.row.toRowW d [] (fun f vs => PySem.call f vs) := by
  refine Att.attach_call hn hdf fun w s₀ s₁ mg mb fa o pm cd doc a vs ns G Y ho hd hcd hmg script allInt hlen calm => ?_
  obtain ⟨K, fd, f, inK, nl, te, bt, good, prom⟩ := F w mg fa _ Y G.T.g hmg
  refine law_goes inK (noLists_ok nl) te G.T.g G.T.b G.T.builtins G.T.nolimit calm G.T.bmain script allInt (Nat.le_trans hlen hn2) room prom bt fun H rd tb => ?_
  have iv : ∀ {F : Hp} {ns : List Int}, VRs K F (ns.map .int) (ns.map V.int) := fun {F ns} => by
    induction ns with
    | nil => exact .nil
    | cons i ns ih => exact .cons (.int i) ih
  -- known from the beginning: the script alone
  obtain ⟨F0, f1, f2⟩ : ∃ F0 : Hp, F0 a = H a ∧ ∀ b, b ≠ a → F0 b = none := ⟨fun b => if b = a then H b else none, if_pos rfl, fun b ne => if_neg ne⟩
  have rel : Rel K F0 H [.dat (.lst (ns.map .int))] [some (V.ref a)] := by
    refine ⟨fun b o q => ?_, rfl, fun i sl o h1 h2 => ?_, fun i j v w b h1 => ?_, tb, fun b ps q => ?_⟩
    · by_cases ne : b = a
      · subst ne; rw [f1] at q; exact q
      · rw [f2 b ne] at q; cases q
    · cases i with
      | zero =>
        cases h1; cases h2
        refine ⟨_, rfl, .lst ?_ iv⟩
        rcases rd with q | ⟨o, q⟩
        · exact .inl (f1.trans q)
        · exact .inr ⟨o, f1.trans q⟩
      | succ i => simp at h1
    · cases i with
      | zero => cases h1
      | succ i => simp at h1
    · by_cases ne : b = a
      · subst ne
        rw [f1] at q
        rcases rd with z | ⟨o, z⟩ <;> rw [z] at q <;> cases q
      · rw [f2 b ne] at q; cases q
  obtain ⟨e', he⟩ := good ns hlen
  refine ⟨rfl, 1, F0, _, rel, ?_⟩
  unfold At
  rw [he]
  intro F' H' u C r
  cases r
  rfl
end Pu
set_option Elab.async false
set_option linter.all false
set_option maxRecDepth 100000
namespace Pu
open PySem PySem.Spec PyProof.Rows L2
theorem noTakes {X : Cx} : L2N.Takes X noW := by
  intro u s' q
  obtain ⟨_, _, _, _, _, _, _, _, _, _, _, _, _, _, _, _, _, no⟩ := q
theorem Good.blk {X : Cx} {k : Nat} {W : WX} (G : Good X k W) {s : Shared} {H : Hp} {scope : Scope} {cenv : Env} {fp : List Addr} : Good (X.blk s H scope cenv fp) k noW :=
  ⟨G.nd, G.calm, G.room, G.gd, noTakes, PassesOwn.never⟩
structure BindK (d : He5.DefA) (ps : List Str) (n : Nat) (ks : List Str) (g : List Nat) : Prop where
  dfl : d.dfl = []
  nd : g.Nodup
  all : ∀ (kV doc pm : Value) (an : Option Addr) (cdv ct : Value) (us ws : List Value), us.length = n → ws.length = ks.length → bindArgs (PySem.W.fnOf d.name d.qual d.params d.body d.scope .none kV doc pm an cdv ct) ⟨us, ks.zip ws⟩ = pure (ps.zip (sel g (us ++ ws)))
section
variable {P : Program} {w : World} {K : PySem.W.Frag} {mg : Str → Option Value} {base : Heap} {k j n : Nat} {d : He5.DefA} {ps : List Str} {m : M RV}
theorem FnB.partsK {ks : List Str} {g : List Nat} {c : Nat} (B : FnB P w K mg base k d ps n m) (bd : BindK d ps c ks g) : ∃ fd, FnG P w K mg base k (d.at_ K) fd ps (spG K n m) ∧ KB K fd ps c ks g ∧ PySem.W.keepIn K (.ref (d.at_ K)) = true := by
  obtain ⟨fd, D, F⟩ := B.ex
  refine ⟨fd, F, ?_, D.kp⟩
  have e : d.dvs K = [] := by unfold He5.DefA.dvs; rw [bd.dfl]; rfl
  rw [e] at D
  exact kb_of D bd.nd bd.all
theorem fnB_of {N : List Str} {nn : Nat} {mb : S} (D : ∃ fd, FunD K d.name d.qual d.params d.body d.scope (d.dvs K) (d.kws K) (d.at_ K) fd) (S : FnScope N ps d.scope) (h1 : ps.length = n) (h2 : N.length = nn)
    (hb : ∀ (cdv : Value) (A : Around) (outer : List Env) (s : Shared) (H : Hp) (E : XK), Good (cxOf (L2N.CX P w) P w K mg base N d.qual d.scope (d.at_ K) cdv A outer s H E) k (fun c d _ H => E c d H) →
      SB (cxOf (L2N.CX P w) P w K mg base N d.qual d.scope (d.at_ K) cdv A outer s H E) (fun c d _ H => E c d H) n d.body mb) : FnB P w K mg base (k + 1) d ps n (fnDen n nn mb) := by
  obtain ⟨fd, D⟩ := D
  exact ⟨fd, D, fn_ok D S h1 h2 hb⟩
end
section
variable {X : Cx} {W : WX} {k n : Nat} {d : He5.DefA} {ps : List Str} {x m : Str} {p pos apos : Pos} {e o : Expr} {es : List Expr} {mf mo : M RV} {mr mk : M (List RV)} {kws : List Keyword}
theorem se_callD (ms : List Bool) (B : FnB X.prog X.w X.K X.mg X.base k d ps n mf) (bd : BindD d ps) (G : Good X k W) (gl : Gl X x) (at_ : X.mg x = some (.ref (d.at_ X.K))) (ha : SA X W (e :: es) mr) (hn : ms.length = n := by rfl) (n1 : (x == ("__debug__" : Str)) = false := by decide)
    (n2 : starEach (e :: es) X.env = (false, eval e X.env) :: starEach es X.env := by rfl) (n3 : (backTo pos (starEach es X.env)).any (·.1) = false := by rfl) : SE X W (.Call (.Name x p) (e :: es) [] pos) (mCall ms mf mr []) := by
  obtain ⟨fd, F, hb, kp⟩ := B.parts bd
  exact se_call ms F G gl at_ kp hb .nil VC.nil ha hn n1 n2 n3
theorem se_callD0 (B : FnB X.prog X.w X.K X.mg X.base k d ps 0 mf) (bd : BindD d ps) (G : Good X k W) (gl : Gl X x) (at_ : X.mg x = some (.ref (d.at_ X.K))) (n1 : (x == ("__debug__" : Str)) = false := by decide) : SE X W (.Call (.Name x p) [] [] pos) (mCall [] mf mNil []) := by
  obtain ⟨fd, F, hb, kp⟩ := B.parts bd
  exact se_call0 [] F G gl at_ kp hb .nil VC.nil rfl n1
theorem se_callDK {ks : List Str} {g : List Nat} {c : Nat} (ms : List Bool) (B : FnB X.prog X.w X.K X.mg X.base k d ps n mf) (bd : BindK d ps c ks g) (G : Good X k W) (gl : Gl X x) (at_ : X.mg x = some (.ref (d.at_ X.K))) (ha : SA X W (e :: es) mr) (hk : SK X W kws mk) (hn : ms.length = n := by rfl)
    (k1 : (backToKw pos (keywordEach kws X.env)).all (·.1.isSome) = true := by rfl) (k2 : (backToKw pos (keywordEach kws X.env)).filterMap (·.1) = ks := by rfl) (n1 : (x == ("__debug__" : Str)) = false := by decide)
    (n2 : starEach (e :: es) X.env = (false, eval e X.env) :: starEach es X.env := by rfl) (n3 : ((backTo pos (starEach (e :: es) X.env)).any (·.1) || (backToKw pos (keywordEach kws X.env)).any (·.1.isNone)) = false := by rfl) : SE X W (.Call (.Name x p) (e :: es) kws pos) (mCallK ms mf mr mk c ks.length g) := by
  obtain ⟨fd, F, hb, kp⟩ := B.partsK bd
  exact se_callK ms F G gl at_ kp hb ha hk hn k1 k2 n1 n2 n3
theorem se_callDK0 {ks : List Str} {g : List Nat} (ms : List Bool) (B : FnB X.prog X.w X.K X.mg X.base k d ps n mf) (bd : BindK d ps 0 ks g) (G : Good X k W) (gl : Gl X x) (at_ : X.mg x = some (.ref (d.at_ X.K))) (hk : SK X W kws mk) (hn : ms.length = n := by rfl)
    (k1 : (backToKw pos (keywordEach kws X.env)).all (·.1.isSome) = true := by rfl) (k2 : (backToKw pos (keywordEach kws X.env)).filterMap (·.1) = ks := by rfl) (n1 : (x == ("__debug__" : Str)) = false := by decide)
    (n3 : ((backTo pos (starEach [] X.env)).any (·.1) || (backToKw pos (keywordEach kws X.env)).any (·.1.isNone)) = false := by rfl) : SE X W (.Call (.Name x p) [] kws pos) (mCallK ms mf mNil mk 0 ks.length g) := by
  obtain ⟨fd, F, hb, kp⟩ := B.partsK bd
  exact se_callK0 ms F G gl at_ kp hb hk hn k1 k2 n1 n3
theorem se_makeD {C : Str} (ms : List Bool) (Mk : Mk X.K (He.ga X.K C) (d.at_ X.K)) (B : FnB X.prog X.w X.K X.mg X.base k d ps n mf) (bd : BindD d ps) (G : Good X (k + 1) W) (gl : Gl X x) (at_ : X.mg x = some (.ref (He.ga X.K C))) (ha : SA X W (e :: es) mr) (hn : ms.length + 1 = n := by rfl) (n1 : (x == ("__debug__" : Str)) = false := by decide)
    (n2 : starEach (e :: es) X.env = (false, eval e X.env) :: starEach es X.env := by rfl) (n3 : (backTo pos (starEach es X.env)).any (·.1) = false := by rfl) : SE X W (.Call (.Name x p) (e :: es) [] pos) (mMake C ms mf mr []) := by
  obtain ⟨fd, F, hb, kp⟩ := B.parts bd
  exact se_make ms Mk F G gl at_ hb .nil VC.nil ha hn n1 n2 n3
theorem se_methD {pl : Sem Bool} {C : Str} (ms : List Bool) (ho : SE X W o mo) (c : Cls X.K (He.ga X.K C)) (hm : Meth X.K (He.ga X.K C) m (d.at_ X.K)) (B : FnB X.prog X.w X.K X.mg X.base k d ps n mf) (bd : BindD d ps) (G : Good X k W) (ha : SA X W (e :: es) mr) (hn : ms.length = n := by rfl)
    (n2 : starEach (e :: es) X.env = (false, eval e X.env) :: starEach es X.env := by rfl) (n3 : (backTo pos (starEach es X.env)).any (·.1) = false := by rfl)
    (look : eval (.Call (.Attribute o m apos) (e :: es) [] pos) X.env = (do
      let ov ← eval o X.env
      standAt apos.atName
      let (f, first) ← holding [ov] (getMethod ov m pl)
      callWith pos f first (backTo pos (starEach (e :: es) X.env)) (backToKw pos (keywordEach [] X.env))) := by rfl) : SE X W (.Call (.Attribute o m apos) (e :: es) [] pos) (mMeth C m ms mf mo mr []) := by
  obtain ⟨fd, F, hb, kp⟩ := B.parts bd
  exact se_meth ms ho c hm F G rfl hb .nil VC.nil ha hn n2 n3 look
theorem se_methD0 {pl : Sem Bool} {C : Str} (ms : List Bool) (ho : SE X W o mo) (c : Cls X.K (He.ga X.K C)) (hm : Meth X.K (He.ga X.K C) m (d.at_ X.K)) (B : FnB X.prog X.w X.K X.mg X.base k d ps n mf) (bd : BindD d ps) (G : Good X k W) (hn : ms.length = n := by rfl)
    (look : eval (.Call (.Attribute o m apos) [] [] pos) X.env = (do
      let ov ← eval o X.env
      standAt apos.atName
      let (f, first) ← holding [ov] (getMethod ov m pl)
      callWith pos f first (backTo pos (starEach [] X.env)) (backToKw pos (keywordEach [] X.env))) := by rfl) : SE X W (.Call (.Attribute o m apos) [] [] pos) (mMeth C m ms mf mo mNil []) := by
  obtain ⟨fd, F, hb, kp⟩ := B.parts bd
  exact se_meth0 ms ho c hm F G rfl hb .nil VC.nil hn look
theorem se_propD {C f : Str} (ho : SE X W o mo) (c : Cls X.K (He.ga X.K C)) {p : Addr} (hp : PropOf X.K (He.ga X.K C) f p (d.at_ X.K)) (B : FnB X.prog X.w X.K X.mg X.base k d ps 1 mf) (bd : BindD d ps) (G : Good X (k + 1) W)
    (plain : attributeBase o f X.env (eval o X.env) = eval o X.env := by rfl) : SE X W (.Attribute o f pos) (mProp C mf mo) := by
  obtain ⟨fd, F, hb, kp⟩ := B.parts bd
  exact se_prop ho c hp F G hb plain
end
section
variable {X : Cx} {W : WX} {x : Str} {pos : Pos}
theorem se_gInt {i : Int} (gl : Gl X x) (h : ∃ t, X.mg x = some (.int i t)) (hd : (x == ("__debug__" : Str)) = false := by decide) : SE X W (.Name x pos) (mV (.int i)) := by
  obtain ⟨t, e⟩ := h
  exact se_gloV (u := .int i) gl e ⟨t, rfl⟩ (fun _ => .int i) hd
theorem se_gStr {z : Str} (gl : Gl X x) (h : ∃ t, X.mg x = some (.str z t)) (hd : (x == ("__debug__" : Str)) = false := by decide) : SE X W (.Name x pos) (mV (.str z)) := by
  obtain ⟨t, e⟩ := h
  exact se_gloV (u := .str z) gl e ⟨t, rfl⟩ (fun _ => .str z) hd
def flatG : Val → Bool
  | .non | .bl _ | .int _ | .str _ | .ty _ | .glo _ => true
  | _ => false
theorem gv_ok {K : PySem.W.Frag} {F : Hp} : ∀ {vs : List Val}, vs.all flatG = true → VRs K F vs ((vs.map gv).map (He.Dv.v K))
  | [], _ => .nil
  | v :: vs, h => by
    rw [List.all_cons, Bool.and_eq_true] at h
    refine .cons ?_ (gv_ok h.2)
    have h1 := h.1
    cases v with
    | non => exact .non
    | bl b => exact .bl b
    | int i => exact .int i
    | str z => exact .str z
    | ty n => exact .ty n
    | glo z => exact .glo z
    | _ => cases h1
theorem se_gTup {vs : List Val} (gl : Gl X x) (at_ : X.mg x = some (.ref (He.ga X.K x))) (h : He.tupB X.K x (vs.map gv) = true) (hf : vs.all flatG = true := by rfl) (hd : (x == ("__debug__" : Str)) = false := by decide) : SE X W (.Name x pos) (mV (.tup vs)) :=
  se_gloV (u := .ref (He.ga X.K x)) gl at_ rfl (fun F => .tup (He.tupB_ok h F) (gv_ok hf)) hd
end
theorem funD_fd {K : PySem.W.Frag} {x x' q q' : Str} {p p' : Arguments} {b b' : List Stmt} {sc sc' : Scope} {dvs dvs' : List V} {kws kws' : List (Str × V)} {f : Addr} {fd fd' : FuncData} (F : FunD K x q p b sc dvs kws f fd) (F' : FunD K x' q' p' b' sc' dvs' kws' f fd') : fd = fd' := by
  obtain ⟨_, _, _, _, _, _, _, _, _, _, _, l1, _⟩ := F.ex
  obtain ⟨_, _, _, _, _, _, _, _, _, _, _, l2, _⟩ := F'.ex
  rw [l1] at l2
  cases l2
  rfl
end Pu
set_option Elab.async false
set_option linter.all false
set_option maxRecDepth 100000
namespace Pu.O
open PySem PySem.Spec PyProof.Rows L2 Pu
section
variable {α β : Type} {m : M α} {e : Ev} {Q Q' : α → Ev → Prop} {R : β → Ev → Prop}
theorem ok_ex : Ok m e Q ↔ ∃ a e', m e = .ok a e' ∧ Q a e' := by
  unfold Ok
  cases h : m e with
  | ok a e' => exact ⟨fun z => ⟨a, e', rfl, z⟩, fun ⟨b, f, z, y⟩ => by cases z; exact y⟩
  | _ => exact ⟨fun z => z.elim, fun ⟨b, f, z, y⟩ => nomatch z⟩
theorem ok_bind {f : α → M β} : Ok (m.bind f) e R ↔ Ok m e fun a e' => Ok (f a) e' R := by
  unfold Ok M.bind
  cases m e <;> rfl
theorem ok_bad : Ok M.bad e Q ↔ False := Iff.rfl
theorem ok_ite {c : Prop} [Decidable c] {a b : M α} : Ok (if c then a else b) e Q ↔ (c → Ok a e Q) ∧ (¬c → Ok b e Q) := by
  by_cases h : c <;> simp [h]
end
variable {e : Ev}
theorem ok_mV {v : Val} {Q : RV → Ev → Prop} : Ok (mV v) e Q ↔ Q (.dat v) e := Iff.rfl
theorem ok_var {i : Nat} {Q : RV → Ev → Prop} : Ok (mVar i) e Q ↔ match e[i]? with
    | some (.dat v) => Q (.dat v) e
    | some (.own _) => Q (.bor i) e
    | _ => False := by
  unfold Ok mVar
  cases e[i]? with
  | none => exact Iff.rfl
  | some s => cases s <;> exact Iff.rfl
theorem ok_rdD {v : Val} {Q : Val → Ev → Prop} : Ok (M.rd (.dat v)) e Q ↔ Q v e := Iff.rfl
theorem ok_rdT {v : Val} {Q : Val → Ev → Prop} : Ok (M.rd (.tmp v)) e Q ↔ Q v e := Iff.rfl
theorem ok_rdB {i : Nat} {Q : Val → Ev → Prop} : Ok (M.rd (.bor i)) e Q ↔ match e[i]? with
    | some (.own v) => Q v e
    | some (.dat v) => Q v e
    | _ => False := by
  unfold Ok M.rd rd
  cases h : e[i]? with
  | none => simp [h]
  | some s => cases s <;> simp [h]
theorem ok_dtD {v : Val} {Q : Val → Ev → Prop} : Ok (M.dt (.dat v)) e Q ↔ Q v e := Iff.rfl
theorem ok_dtT {v : Val} {Q : Val → Ev → Prop} : Ok (M.dt (.tmp v)) e Q ↔ Q v e := Iff.rfl
theorem ok_dtB {i : Nat} {Q : Val → Ev → Prop} : Ok (M.dt (.bor i)) e Q ↔ match e[i]? with
    | some (.own v) => Q v (e.set i (.dat v))
    | some (.dat v) => Q v e
    | _ => False := by
  unfold Ok M.dt
  cases h : e[i]? with
  | none => simp [h]
  | some s => cases s <;> simp [h]
theorem ok_rds0 {Q : List Val → Ev → Prop} : Ok (M.rds []) e Q ↔ Q [] e := Iff.rfl
theorem ok_rdsC {r : RV} {rs : List RV} {Q : List Val → Ev → Prop} : Ok (M.rds (r :: rs)) e Q ↔ Ok (M.rd r) e fun v e1 => Ok (M.rds rs) e1 fun vs e2 => Q (v :: vs) e2 := by
  show Ok ((M.rd r).bind fun v => (M.rds rs).bind fun vs => M.ret (v :: vs)) e Q ↔ _
  rw [ok_bind]
  simp only [ok_bind, ok_ret]
theorem ok_dts0 {Q : List Val → Ev → Prop} : Ok (M.dts []) e Q ↔ Q [] e := Iff.rfl
theorem ok_dtsC {r : RV} {rs : List RV} {Q : List Val → Ev → Prop} : Ok (M.dts (r :: rs)) e Q ↔ Ok (M.dt r) e fun v e1 => Ok (M.dts rs) e1 fun vs e2 => Q (v :: vs) e2 := by
  show Ok ((M.dt r).bind fun v => (M.dts rs).bind fun vs => M.ret (v :: vs)) e Q ↔ _
  rw [ok_bind]
  simp only [ok_bind, ok_ret]
theorem ok_nil {Q : List RV → Ev → Prop} : Ok mNil e Q ↔ Q [] e := Iff.rfl
theorem ok_cons {a : M RV} {r : M (List RV)} {Q : List RV → Ev → Prop} : Ok (mCons a r) e Q ↔ Ok a e fun x e1 => Ok r e1 fun xs e2 => Q (x :: xs) e2 := by
  unfold mCons; simp only [ok_bind, ok_ret]
theorem ok_bin {f : Val → Val → M RV} {a b : M RV} {Q : RV → Ev → Prop} : Ok (mBin f a b) e Q ↔ Ok a e fun r e1 => Ok b e1 fun s e2 => Ok (M.rd r) e2 fun v e3 => Ok (M.rd s) e3 fun w e4 => Ok (f v w) e4 Q := by
  unfold mBin; simp only [ok_bind]
theorem ok_cb {f : List Val → M RV} {ms : M (List RV)} {Q : RV → Ev → Prop} : Ok (mCB f ms) e Q ↔ Ok ms e fun rs e1 => Ok (M.rds rs) e1 fun vs e2 => Ok (f vs) e2 Q := by
  unfold mCB; simp only [ok_bind]
theorem ok_tup {r : M (List RV)} {Q : RV → Ev → Prop} : Ok (mTup r) e Q ↔ Ok r e fun rs e1 => Ok (M.dts rs) e1 fun vs e2 => vs.length ≤ sizeLine ∧ Q (.dat (.tup vs)) e2 := by
  unfold mTup
  simp only [ok_bind, ok_ite, ok_ret, ok_bad]
  apply iff_of_eq; congr 1; funext rs e1; congr 1; funext vs e2
  apply propext
  by_cases h : vs.length ≤ sizeLine <;> simp [h]
theorem ok_lst {r : M (List RV)} {Q : RV → Ev → Prop} : Ok (mLst r) e Q ↔ Ok r e fun rs e1 => Ok (M.dts rs) e1 fun vs e2 => vs.length ≤ sizeLine ∧ Q (.tmp (.lst vs)) e2 := by
  unfold mLst
  simp only [ok_bind, ok_ite, ok_ret, ok_bad]
  apply iff_of_eq; congr 1; funext rs e1; congr 1; funext vs e2
  apply propext
  by_cases h : vs.length ≤ sizeLine <;> simp [h]
theorem ok_tru {m : M RV} {Q : Bool → Ev → Prop} : Ok (mTru m) e Q ↔ Ok m e fun r e1 => Ok (M.rd r) e1 fun v e2 => Ok (truV v) e2 Q := by
  unfold mTru; simp only [ok_bind]
theorem ok_truB {b : Bool} {Q : Bool → Ev → Prop} : Ok (truV (.bl b)) e Q ↔ Q b e := Iff.rfl
theorem ok_truI {i : Int} {Q : Bool → Ev → Prop} : Ok (truV (.int i)) e Q ↔ Q (i != 0) e := Iff.rfl
theorem ok_truN {Q : Bool → Ev → Prop} : Ok (truV .non) e Q ↔ Q false e := Iff.rfl
theorem ok_truL {xs : List Val} {Q : Bool → Ev → Prop} : Ok (truV (.lst xs)) e Q ↔ Q (!xs.isEmpty) e := Iff.rfl
theorem ok_truT {xs : List Val} {Q : Bool → Ev → Prop} : Ok (truV (.tup xs)) e Q ↔ Q (!xs.isEmpty) e := Iff.rfl
theorem ok_and {a b : M Bool} {Q : Bool → Ev → Prop} : Ok (mAnd a b) e Q ↔ Ok a e fun c e1 => (c = true → Ok b e1 Q) ∧ (¬ c = true → Q false e1) := by
  unfold mAnd; simp only [ok_bind, ok_ite, ok_ret]
theorem ok_or {a b : M Bool} {Q : Bool → Ev → Prop} : Ok (mOr a b) e Q ↔ Ok a e fun c e1 => (c = true → Q true e1) ∧ (¬ c = true → Ok b e1 Q) := by
  unfold mOr; simp only [ok_bind, ok_ite, ok_ret]
theorem ok_not {a : M Bool} {Q : Bool → Ev → Prop} : Ok (mNot a) e Q ↔ Ok a e fun c e1 => Q (!c) e1 := by
  unfold mNot; simp only [ok_bind, ok_ret]
theorem ok_ifE {c : M Bool} {a b : M RV} {Q : RV → Ev → Prop} : Ok (mIfE c a b) e Q ↔ Ok c e fun k e1 => (k = true → Ok a e1 Q) ∧ (¬ k = true → Ok b e1 Q) := by
  unfold mIfE; simp only [ok_bind, ok_ite]
theorem ok_andV {a b : M RV} {Q : RV → Ev → Prop} : Ok (mAndV a b) e Q ↔ Ok a e fun r e1 => Ok (M.rd r) e1 fun v e2 => match v with
    | .bl c => (c = true → Ok b e2 Q) ∧ (¬ c = true → Q (.dat (.bl false)) e2)
    | _ => False := by
  unfold mAndV; simp only [ok_bind]
  apply iff_of_eq; congr 1; funext r e1; congr 1; funext v e2
  cases v <;> simp only [ok_ite, ok_mV, ok_bad]
theorem ok_orV {a b : M RV} {Q : RV → Ev → Prop} : Ok (mOrV a b) e Q ↔ Ok a e fun r e1 => Ok (M.rd r) e1 fun v e2 => match v with
    | .bl c => (c = true → Q (.dat (.bl true)) e2) ∧ (¬ c = true → Ok b e2 Q)
    | _ => False := by
  unfold mOrV; simp only [ok_bind]
  apply iff_of_eq; congr 1; funext r e1; congr 1; funext v e2
  cases v <;> simp only [ok_ite, ok_mV, ok_bad]
theorem ok_notV {a : M RV} {Q : RV → Ev → Prop} : Ok (mNotV a) e Q ↔ Ok a e fun r e1 => Ok (M.rd r) e1 fun v e2 => match v with
    | .bl c => Q (.dat (.bl (!c))) e2
    | _ => False := by
  unfold mNotV; simp only [ok_bind]
  apply iff_of_eq; congr 1; funext r e1; congr 1; funext v e2
  cases v <;> simp only [ok_mV, ok_bad]
theorem ok_neg {a : M RV} {Q : RV → Ev → Prop} : Ok (mNeg a) e Q ↔ Ok a e fun r e1 => Ok (M.rd r) e1 fun v e2 => match v with
    | .int i => Q (.dat (.int (-i))) e2
    | _ => False := by
  unfold mNeg; simp only [ok_bind]
  apply iff_of_eq; congr 1; funext r e1; congr 1; funext v e2
  cases v <;> simp only [ok_mV, ok_bad]
theorem ok_chain {f g : Val → Val → M RV} {a b c : M RV} {Q : RV → Ev → Prop} : Ok (mChain f g a b c) e Q ↔ Ok a e fun r e1 => Ok b e1 fun s e2 => Ok (M.rd r) e2 fun v e3 => Ok (M.rd s) e3 fun w e4 => Ok (f v w) e4 fun z e5 => Ok (M.rd z) e5 fun k e6 => match k with
    | .bl k => (k = true → Ok c e6 fun t e7 => Ok (M.rd s) e7 fun w' e8 => Ok (M.rd t) e8 fun x e9 => Ok (g w' x) e9 Q) ∧ (¬ k = true → Q (.dat (.bl false)) e6)
    | _ => False := by
  unfold mChain; simp only [ok_bind]
  apply iff_of_eq; congr 1; funext r e1; congr 1; funext s e2; congr 1; funext v e3; congr 1; funext w e4; congr 1; funext z e5; congr 1; funext k e6
  cases k with
  | bl k => cases k <;> simp [ok_bind, ok_mV]
  | _ => simp only [ok_bad]
theorem ok_seq {a b : S} {Q : Out → Ev → Prop} : Ok (mSeq a b) e Q ↔ Ok a e fun o e1 => match o with
    | .nx => Ok b e1 Q
    | .bk => Q .bk e1
    | .ct => Q .ct e1
    | .rt r => Q (.rt r) e1 := by
  unfold Ok mSeq
  cases a e with
  | ok o e' => cases o <;> exact Iff.rfl
  | _ => exact Iff.rfl
theorem ok_skip {Q : Out → Ev → Prop} : Ok mSkip e Q ↔ Q .nx e := Iff.rfl
theorem ok_retS {m : M RV} {Q : Out → Ev → Prop} : Ok (mRet m) e Q ↔ Ok m e fun r e1 => Q (.rt r) e1 := by
  unfold mRet; rw [ok_bind]; exact Iff.rfl
theorem ok_retN {Q : Out → Ev → Prop} : Ok mRetN e Q ↔ Q (.rt (.dat .non)) e := Iff.rfl
theorem ok_bk {Q : Out → Ev → Prop} : Ok mBk e Q ↔ Q .bk e := Iff.rfl
theorem ok_ct {Q : Out → Ev → Prop} : Ok mCt e Q ↔ Q .ct e := Iff.rfl
theorem ok_ex1 {m : M RV} {Q : Out → Ev → Prop} : Ok (mEx m) e Q ↔ Ok m e fun _ e1 => Q .nx e1 := by
  unfold mEx; rw [ok_bind]; exact Iff.rfl
theorem ok_if {c : M Bool} {a b : S} {Q : Out → Ev → Prop} : Ok (mIf c a b) e Q ↔ Ok c e fun k e1 => (k = true → Ok a e1 Q) ∧ (¬ k = true → Ok b e1 Q) := by
  unfold mIf; simp only [ok_bind, ok_ite]
theorem ok_set {i : Nat} {m : M RV} {Q : Out → Ev → Prop} : Ok (mSet i m) e Q ↔ Ok m e fun r e1 => match r with
    | .dat v => Q .nx (e1.set i (.dat v))
    | .tmp v => Q .nx (e1.set i (.own v))
    | .bor j => Ok (M.dt (.bor j)) e1 fun v e2 => Q .nx (e2.set i (.dat v)) := by
  unfold mSet; rw [ok_bind]
  apply iff_of_eq; congr 1; funext r e1
  cases r with
  | dat v => rfl
  | tmp v => rfl
  | bor j => exact propext (by show Ok ((M.dt (.bor j)).bind _) e1 Q ↔ _; rw [ok_bind]; exact Iff.rfl)
theorem ok_setP {i : Nat} {m : M RV} {Q : Out → Ev → Prop} : Ok (mSetP i m) e Q ↔ Ok m e fun r e1 => Ok (M.dt r) e1 fun v e2 => Q .nx (e2.set i (.dat v)) := by
  unfold mSetP; simp only [ok_bind]; exact Iff.rfl
theorem ok_asg {mg : Val → M Unit} {m : M RV} {Q : Out → Ev → Prop} : Ok (mAsg mg m) e Q ↔ Ok m e fun r e1 => Ok (M.dt r) e1 fun v e2 => Ok (mg v) e2 fun _ e3 => Q .nx e3 := by
  unfold mAsg; simp only [ok_bind]; exact Iff.rfl
theorem ok_gN {i : Nat} {v : Val} {Q : Unit → Ev → Prop} : Ok (gN i v) e Q ↔ Q () (e.set i (.dat v)) := Iff.rfl
theorem ok_gsN {Q : Unit → Ev → Prop} : Ok (gsN []) e Q ↔ Q () e := Iff.rfl
theorem ok_gsC {m : Val → M Unit} {ms : List Val → M Unit} {v : Val} {vs : List Val} {Q : Unit → Ev → Prop} : Ok (gsC m ms (v :: vs)) e Q ↔ Ok (m v) e fun _ e1 => Ok (ms vs) e1 Q := by
  show Ok ((m v).bind fun _ => ms vs) e Q ↔ _
  rw [ok_bind]
theorem ok_gT {n : Nat} {ms : List Val → M Unit} {xs : List Val} {Q : Unit → Ev → Prop} : Ok (gT n ms (.tup xs)) e Q ↔ xs.length = n ∧ Ok (ms xs) e Q := by
  show Ok (if xs.length = n then ms xs else M.bad) e Q ↔ _
  by_cases h : xs.length = n <;> simp [h, ok_bad]
theorem ok_gSb {mo mi : M RV} {v : Val} {Q : Unit → Ev → Prop} : Ok (gSb mo mi v) e Q ↔ Ok mo e fun r e1 => Ok mi e1 fun s e2 => Ok (M.rd s) e2 fun k e3 => match r, k with
    | .bor j, .int k => (match e3[j]? with
      | some (.own (.lst xs)) => (match ixN xs.length k with
        | some n => Q () (e3.set j (.own (.lst (xs.set n v))))
        | none => False)
      | _ => False)
    | _, _ => False := by
  unfold gSb; simp only [ok_bind]
  apply iff_of_eq; congr 1; funext r e1; congr 1; funext s e2; congr 1; funext k e3
  cases r with
  | bor j => cases k with
    | int k =>
      apply propext
      unfold Ok
      dsimp only
      cases e3[j]? with
      | none => exact Iff.rfl
      | some sl => cases sl with
        | own w => cases w with
          | lst xs =>
            dsimp only
            cases ixN xs.length k <;> exact Iff.rfl
          | _ => exact Iff.rfl
        | _ => exact Iff.rfl
    | _ => rfl
  | _ => cases k <;> rfl
theorem ok_par {p : Bool} {is : List Nat} {as : M (List RV)} {Q : Out → Ev → Prop} : Ok (mPar p is as) e Q ↔ Ok as e fun rs e1 => rs.length = is.length ∧ ((noBor rs = true ∧ p = false → Q .nx (setsE is rs e1)) ∧ (¬ (noBor rs = true ∧ p = false) → Ok (M.dts rs) e1 fun vs e2 => Q .nx (setsE is (vs.map .dat) e2))) := by
  unfold mPar; rw [ok_bind]
  apply iff_of_eq; congr 1; funext rs e1
  apply propext
  by_cases h : rs.length = is.length
  · rw [if_pos h]
    by_cases hb : noBor rs = true ∧ p = false
    · rw [if_pos hb]
      exact ⟨fun z => ⟨h, fun _ => z, fun y => absurd hb y⟩, fun z => z.2.1 hb⟩
    · rw [if_neg hb]
      simp only [ok_bind]
      refine ⟨fun z => ⟨h, fun y => absurd y hb, fun _ => z⟩, fun z => z.2.2 hb⟩
  · rw [if_neg h]
    simp [h, ok_bad]
theorem ok_put {C f : Str} {mo mv : M RV} {Q : Out → Ev → Prop} : Ok (mPut C f mo mv) e Q ↔ Ok mv e fun r0 e1 => Ok (M.dt r0) e1 fun v e2 => Ok mo e2 fun r e3 => match r with
    | .bor i => (match e3[i]? with
      | some (.own (.obj C' fs vs)) => C' = C ∧ fs.length < 1000 ∧ Q .nx (e3.set i (.own (.obj C (putFs f fs) (putVs f v fs vs))))
      | _ => False)
    | _ => False := by
  unfold mPut; simp only [ok_bind]
  apply iff_of_eq; congr 1; funext r0 e1; congr 1; funext v e2; congr 1; funext r e3
  cases r with
  | bor i =>
    apply propext
    unfold Ok
    dsimp only
    cases e3[i]? with
    | none => exact Iff.rfl
    | some sl => cases sl with
      | own w => cases w with
        | obj C' fs vs =>
          dsimp only
          by_cases h : C' = C ∧ fs.length < 1000
          · simp [h]
          · rw [if_neg h]
            exact ⟨fun z => z.elim, fun z => h ⟨z.1, z.2.1⟩⟩
        | _ => exact Iff.rfl
      | _ => exact Iff.rfl
  | _ => rfl
theorem ok_get {C f : Str} {mo : M RV} {Q : RV → Ev → Prop} : Ok (mGet C f mo) e Q ↔ Ok mo e fun r e1 => Ok (M.rd r) e1 fun v e2 => match v with
    | .obj C' fs vs => C' = C ∧ (match lookV f fs vs with
      | some w => Q (.dat w) e2
      | none => False)
    | _ => False := by
  unfold mGet; simp only [ok_bind]
  apply iff_of_eq; congr 1; funext r e1; congr 1; funext v e2
  cases v with
  | obj C' fs vs =>
    apply propext
    dsimp only
    by_cases h : C' = C
    · simp only [h, if_true, true_and]
      cases lookV f fs vs <;> exact Iff.rfl
    · simp [h, ok_bad]
  | _ => rfl
theorem ok_run {ms : List Bool} {f : M RV} {rs : List RV} {Q : RV → Ev → Prop} : Ok (runF ms f rs) e Q ↔ match argsE ms rs e with
    | some (p, e1) => Ok f p fun r p' => match r with
      | .dat v => Q (.dat v) (backE ms rs p' e1)
      | .tmp v => Q (.tmp v) (backE ms rs p' e1)
      | .bor _ => False
    | none => False := by
  unfold Ok runF
  cases argsE ms rs e with
  | none => exact Iff.rfl
  | some pr =>
    obtain ⟨p, e1⟩ := pr
    dsimp only
    cases f p with
    | ok r p' => cases r <;> exact Iff.rfl
    | _ => exact Iff.rfl
theorem ok_call {ms : List Bool} {f : M RV} {as : M (List RV)} {Q : RV → Ev → Prop} : Ok (mCall ms f as []) e Q ↔ Ok as e fun rs e1 => Ok (runF ms f rs) e1 Q := by
  unfold mCall; simp only [ok_bind, List.map_nil, List.append_nil]
theorem ok_callK {ms : List Bool} {f : M RV} {as ks : M (List RV)} {n m : Nat} {g : List Nat} {Q : RV → Ev → Prop} : Ok (mCallK ms f as ks n m g) e Q ↔ Ok as e fun rs e1 => Ok ks e1 fun zs e2 => (rs.length = n ∧ zs.length = m) ∧ Ok (runF ms f (sel g (rs ++ zs))) e2 Q := by
  unfold mCallK; simp only [ok_bind]
  apply iff_of_eq; congr 1; funext rs e1; congr 1; funext zs e2
  apply propext
  by_cases h : rs.length = n ∧ zs.length = m <;> simp [h, ok_bad]
theorem ok_make {C : Str} {ms : List Bool} {f : M RV} {as : M (List RV)} {Q : RV → Ev → Prop} : Ok (mMake C ms f as []) e Q ↔ Ok as e fun rs e1 => match argsE (true :: ms) (.tmp (.obj C [] []) :: rs) e1 with
    | some (p, e2) => Ok f p fun r p' => match r with
      | .dat .non => (match p'[0]? with
        | some (Slot.own v) => Q (.tmp v) (backE (true :: ms) (.tmp (.obj C [] []) :: rs) p' e2)
        | _ => False)
      | _ => False
    | none => False := by
  unfold mMake; simp only [ok_bind, List.map_nil, List.append_nil]
  apply iff_of_eq; congr 1; funext rs e1
  apply propext
  unfold Ok runMk
  cases argsE (true :: ms) (.tmp (.obj C [] []) :: rs) e1 with
  | none => exact Iff.rfl
  | some pr =>
    obtain ⟨p, e2⟩ := pr
    dsimp only
    cases f p with
    | ok r p' => cases r with
      | dat v => cases v with
        | non =>
          dsimp only
          cases p'[0]? with
          | none => exact Iff.rfl
          | some sl => cases sl <;> exact Iff.rfl
        | _ => exact Iff.rfl
      | _ => exact Iff.rfl
    | _ => exact Iff.rfl
theorem ok_prop {C : Str} {f mo : M RV} {Q : RV → Ev → Prop} : Ok (mProp C f mo) e Q ↔ Ok mo e fun r e1 => Ok (M.rd r) e1 fun v e2 => match v with
    | .obj C' _ _ => C' = C ∧ Ok (runF [true] f [r]) e2 Q
    | _ => False := by
  unfold mProp; simp only [ok_bind]
  apply iff_of_eq; congr 1; funext r e1; congr 1; funext v e2
  cases v with
  | obj C' fs vs =>
    apply propext
    dsimp only
    by_cases h : C' = C
    · simp only [h, if_true, true_and]
      unfold Ok noRs
      cases runF [true] f [r] e2 <;> exact Iff.rfl
    · simp [h, ok_bad]
  | _ => rfl
theorem ok_den {n nn : Nat} {b : S} {Q : RV → Ev → Prop} (h : e.length = n) : Ok (fnDen n nn b) e Q ↔ Ok b (e ++ List.replicate (nn - n) Slot.un) fun o e' => match o with
    | .nx => Q (.dat .non) (outE (e'.take n))
    | .rt (.dat v) => Q (.dat v) (outE (e'.take n))
    | .rt (.tmp v) => Q (.tmp v) (outE (e'.take n))
    | .rt (.bor i) => (match e'[i]? with
      | some (.own v) => Q (.tmp v) (outE ((e'.set i .un).take n))
      | some (.dat v) => Q (.dat v) (outE (e'.take n))
      | _ => False)
    | _ => False := by
  unfold Ok fnDen
  rw [if_pos h]
  cases b (e ++ List.replicate (nn - n) Slot.un) with
  | ok o e' => cases o with
    | rt r => cases r with
      | bor i =>
        dsimp only [retV]
        cases e'[i]? with
        | none => exact Iff.rfl
        | some sl => cases sl <;> exact Iff.rfl
      | _ => exact Iff.rfl
    | _ => exact Iff.rfl
  | _ => exact Iff.rfl
theorem ok_for {mi : M (List Val)} {mt : Val → M Unit} {mb : S} {Q : Out → Ev → Prop} : Ok (mFor mi mt mb) e Q ↔ Ok mi e fun vs e1 => Ok (loopS mt mb vs) e1 Q := by
  unfold mFor; rw [ok_bind]
theorem ok_loop0 {mt : Val → M Unit} {mb : S} {Q : Out → Ev → Prop} : Ok (loopS mt mb []) e Q ↔ Q .nx e := Iff.rfl
theorem ok_loopC {mt : Val → M Unit} {mb : S} {v : Val} {vs : List Val} {Q : Out → Ev → Prop} : Ok (loopS mt mb (v :: vs)) e Q ↔ Ok (mt v) e fun _ e1 => Ok mb e1 fun o e2 => match o with
    | .nx => Ok (loopS mt mb vs) e2 Q
    | .ct => Ok (loopS mt mb vs) e2 Q
    | .bk => Q .nx e2
    | .rt r => Q (.rt r) e2 := by
  unfold Ok
  conv => lhs; unfold loopS
  cases mt v e with
  | ok u e1 =>
    dsimp only
    cases mb e1 with
    | ok o e2 => cases o <;> exact Iff.rfl
    | _ => exact Iff.rfl
  | _ => exact Iff.rfl
theorem Ok.loop {mt : Val → M Unit} {mb : S} (P : Nat → Ev → Prop) : ∀ {vs : List Val} {e : Ev} {i : Nat}, P i e → (∀ (j : Nat) (v : Val) (e : Ev), vs[j]? = some v → P (i + j) e → Ok (mt v) e fun _ e1 => Ok mb e1 fun o e2 => (o = .nx ∨ o = .ct) ∧ P (i + j + 1) e2) →
    Ok (loopS mt mb vs) e fun o e' => o = .nx ∧ P (i + vs.length) e'
  | [], e, i, h, _ => by rw [ok_loop0]; exact ⟨rfl, h⟩
  | v :: vs, e, i, h, st => by
    rw [ok_loopC]
    refine Ok.mono (st 0 v e rfl h) fun _ e1 h1 => Ok.mono h1 fun o e2 h2 => ?_
    have go : Ok (loopS mt mb vs) e2 fun o e' => o = .nx ∧ P (i + (v :: vs).length) e' := by
      have := Ok.loop (i := i + 1) P (vs := vs) (e := e2) h2.2 fun j w e3 hj hp => by
        have := st (j + 1) w e3 (by simpa using hj) (by rw [show i + (j + 1) = i + 1 + j by omega]; exact hp)
        rw [show i + 1 + j + 1 = i + (j + 1) + 1 by omega]; exact this
      refine Ok.mono this fun o e' q => ⟨q.1, ?_⟩
      rw [List.length_cons, show i + (vs.length + 1) = i + 1 + vs.length by omega]; exact q.2
    rcases h2.1 with q | q <;> subst q <;> exact go
theorem ok_items {m : M RV} {Q : List Val → Ev → Prop} : Ok (mItems m) e Q ↔ Ok m e fun r e1 => Ok (M.dt r) e1 fun v e2 => match v with
    | .lst xs => Q xs e2
    | .tup xs => Q xs e2
    | _ => False := by
  unfold mItems; simp only [ok_bind]
  apply iff_of_eq; congr 1; funext r e1; congr 1; funext v e2
  cases v <;> rfl
theorem ok_rng1 {m : M RV} {Q : List Val → Ev → Prop} : Ok (mRng1 m) e Q ↔ Ok m e fun r e1 => Ok (M.rd r) e1 fun v e2 => match v with
    | .int j => (-4611686018427387904 ≤ j ∧ j < 4611686018427387904) ∧ Q (rangeV 0 j) e2
    | _ => False := by
  unfold mRng1; simp only [ok_bind]
  apply iff_of_eq; congr 1; funext r e1; congr 1; funext v e2
  cases v with
  | int j =>
    apply propext
    dsimp only
    by_cases h : -4611686018427387904 ≤ j ∧ j < 4611686018427387904 <;> simp [h, ok_bad, ok_ret]
  | _ => rfl
theorem ok_rng2 {a b : M RV} {Q : List Val → Ev → Prop} : Ok (mRng2 a b) e Q ↔ Ok a e fun r e1 => Ok b e1 fun s e2 => Ok (M.rd r) e2 fun v e3 => Ok (M.rd s) e3 fun w e4 => match v, w with
    | .int i, .int j => (-4611686018427387904 ≤ i ∧ i < 4611686018427387904 ∧ -4611686018427387904 ≤ j ∧ j < 4611686018427387904) ∧ Q (rangeV i j) e4
    | _, _ => False := by
  unfold mRng2; simp only [ok_bind]
  apply iff_of_eq; congr 1; funext r e1; congr 1; funext s e2; congr 1; funext v e3; congr 1; funext w e4
  cases v with
  | int i => cases w with
    | int j =>
      apply propext
      dsimp only
      by_cases h : -4611686018427387904 ≤ i ∧ i < 4611686018427387904 ∧ -4611686018427387904 ≤ j ∧ j < 4611686018427387904
      · rw [if_pos h]; exact ⟨fun z => ⟨h, z⟩, fun z => z.2⟩
      · rw [if_neg h]; exact ⟨fun z => z.elim, fun z => h z.1⟩
    | _ => rfl
  | _ => cases w <;> rfl
theorem ok_comp {ws : List Nat} {mi : M (List Val)} {mt : Val → M Unit} {mc : M Bool} {me : M RV} {Q : RV → Ev → Prop} : Ok (mComp ws mi mt mc me) e Q ↔ Ok mi e fun vs e1 => Ok (compS ws mt mc me vs []) (wipeE e1 ws) fun acc e2 => Q (.tmp (.lst acc)) e2 := by
  unfold mComp; rw [ok_bind]
  apply iff_of_eq; congr 1; funext vs e1
  apply propext
  unfold Ok
  dsimp only
  cases compS ws mt mc me vs [] (wipeE e1 ws) <;> exact Iff.rfl
theorem ok_yes {Q : Bool → Ev → Prop} : Ok mYes e Q ↔ Q true e := Iff.rfl
theorem ok_sl {a : M RV} {lo hi : M (Option Int)} {Q : RV → Ev → Prop} : Ok (mSl a lo hi) e Q ↔ Ok a e fun r e1 => Ok lo e1 fun l e2 => Ok hi e2 fun u e3 => Ok (M.rd r) e3 fun v e4 => Ok (slV v l u) e4 Q := by
  unfold mSl; simp only [ok_bind]
theorem ok_noP {Q : Option Int → Ev → Prop} : Ok mNoP e Q ↔ Q none e := Iff.rfl
theorem ok_pt {a : M RV} {Q : Option Int → Ev → Prop} : Ok (mPt a) e Q ↔ Ok a e fun r e1 => Ok (M.rd r) e1 fun v e2 => match v with
    | .int i => Q (some i) e2
    | _ => False := by
  unfold mPt; simp only [ok_bind]
  apply iff_of_eq; congr 1; funext r e1; congr 1; funext v e2
  cases v <;> rfl
theorem ok_slL {xs : List Val} {l u : Option Int} {Q : RV → Ev → Prop} : Ok (slV (.lst xs) l u) e Q ↔ Q (.tmp (.lst (cutA xs l u))) e := Iff.rfl
theorem ok_slT {xs : List Val} {l u : Option Int} {Q : RV → Ev → Prop} : Ok (slV (.tup xs) l u) e Q ↔ Q (.dat (.tup (cutA xs l u))) e := Iff.rfl
theorem ok_rep {a b : M RV} {Q : RV → Ev → Prop} : Ok (mRep a b) e Q ↔ Ok a e fun r e1 => Ok b e1 fun s e2 => Ok (M.rd s) e2 fun k e3 => match r, k with
    | .tmp (.lst xs), .int n => (-9223372036854775808 ≤ n ∧ n < 9223372036854775808 ∧ xs.length * n.toNat ≤ sizeLine) ∧ Q (.tmp (.lst (List.replicate n.toNat xs).flatten)) e3
    | _, _ => False := by
  unfold mRep; simp only [ok_bind]
  apply iff_of_eq; congr 1; funext r e1; congr 1; funext s e2; congr 1; funext k e3
  cases r with
  | tmp v => cases v with
    | lst xs => cases k with
      | int n =>
        apply propext
        dsimp only
        by_cases h : -9223372036854775808 ≤ n ∧ n < 9223372036854775808 ∧ xs.length * n.toNat ≤ sizeLine
        · rw [if_pos h]; exact ⟨fun z => ⟨h, z⟩, fun z => z.2⟩
        · rw [if_neg h]; exact ⟨fun z => z.elim, fun z => h z.1⟩
      | _ => rfl
    | _ => cases k <;> rfl
  | _ => cases k <;> rfl
theorem ok_app {mo ma : M RV} {Q : RV → Ev → Prop} : Ok (mApp mo ma) e Q ↔ Ok mo e fun r e1 => Ok (M.rd r) e1 fun v0 e2 => match r, v0 with
    | .bor i, .lst _ => Ok ma e2 fun s e3 => Ok (M.dt s) e3 fun v e4 => (match e4[i]? with
      | some (.own (.lst xs)) => xs.length < sizeLine ∧ Q (.dat .non) (e4.set i (.own (.lst (xs ++ [v]))))
      | _ => False)
    | _, _ => False := by
  unfold mApp; simp only [ok_bind]
  apply iff_of_eq; congr 1; funext r e1; congr 1; funext v0 e2
  cases r with
  | bor i => cases v0 with
    | lst xs0 =>
      apply propext
      dsimp only
      simp only [ok_bind]
      apply iff_of_eq; congr 1; funext s e3; congr 1; funext v e4
      apply propext
      unfold Ok
      dsimp only
      cases e4[i]? with
      | none => exact Iff.rfl
      | some sl => cases sl with
        | own w => cases w with
          | lst xs =>
            dsimp only
            by_cases h : xs.length < sizeLine <;> simp [h]
          | _ => exact Iff.rfl
        | _ => exact Iff.rfl
    | _ => rfl
  | _ => cases v0 <;> rfl
end Pu.O
namespace Pu
open PySem PySem.Spec PyProof.Rows L2
section
variable {α β : Type} {m : M α} {e : Ev} {Q Q' : α → Ev → Prop} {R : β → Ev → Prop}
theorem ok_ex : Ok m e Q ↔ ∃ a e', m e = .ok a e' ∧ Q a e' := O.ok_ex
theorem ok_bind {f : α → M β} : Ok (m.bind f) e R ↔ Ok m e fun a e' => Ok (f a) e' R := O.ok_bind
theorem ok_bad : Ok M.bad e Q ↔ False := O.ok_bad
theorem ok_ite {c : Prop} [Decidable c] {a b : M α} : Ok (if c then a else b) e Q ↔ (c → Ok a e Q) ∧ (¬c → Ok b e Q) := O.ok_ite
end
variable {e : Ev}
theorem ok_mV {v : Val} {Q : RV → Ev → Prop} : Ok (mV v) e Q ↔ Q (.dat v) e := O.ok_mV
theorem ok_var {i : Nat} {Q : RV → Ev → Prop} : Ok (mVar i) e Q ↔ match e[i]? with
    | some (.dat v) => Q (.dat v) e
    | some (.own _) => Q (.bor i) e
    | _ => False := O.ok_var
theorem ok_rdD {v : Val} {Q : Val → Ev → Prop} : Ok (M.rd (.dat v)) e Q ↔ Q v e := O.ok_rdD
theorem ok_rdT {v : Val} {Q : Val → Ev → Prop} : Ok (M.rd (.tmp v)) e Q ↔ Q v e := O.ok_rdT
theorem ok_rdB {i : Nat} {Q : Val → Ev → Prop} : Ok (M.rd (.bor i)) e Q ↔ match e[i]? with
    | some (.own v) => Q v e
    | some (.dat v) => Q v e
    | _ => False := O.ok_rdB
theorem ok_dtD {v : Val} {Q : Val → Ev → Prop} : Ok (M.dt (.dat v)) e Q ↔ Q v e := O.ok_dtD
theorem ok_dtT {v : Val} {Q : Val → Ev → Prop} : Ok (M.dt (.tmp v)) e Q ↔ Q v e := O.ok_dtT
theorem ok_dtB {i : Nat} {Q : Val → Ev → Prop} : Ok (M.dt (.bor i)) e Q ↔ match e[i]? with
    | some (.own v) => Q v (e.set i (.dat v))
    | some (.dat v) => Q v e
    | _ => False := O.ok_dtB
theorem ok_rds0 {Q : List Val → Ev → Prop} : Ok (M.rds []) e Q ↔ Q [] e := O.ok_rds0
theorem ok_rdsC {r : RV} {rs : List RV} {Q : List Val → Ev → Prop} : Ok (M.rds (r :: rs)) e Q ↔ Ok (M.rd r) e fun v e1 => Ok (M.rds rs) e1 fun vs e2 => Q (v :: vs) e2 := O.ok_rdsC
theorem ok_dts0 {Q : List Val → Ev → Prop} : Ok (M.dts []) e Q ↔ Q [] e := O.ok_dts0
theorem ok_dtsC {r : RV} {rs : List RV} {Q : List Val → Ev → Prop} : Ok (M.dts (r :: rs)) e Q ↔ Ok (M.dt r) e fun v e1 => Ok (M.dts rs) e1 fun vs e2 => Q (v :: vs) e2 := O.ok_dtsC
theorem ok_nil {Q : List RV → Ev → Prop} : Ok mNil e Q ↔ Q [] e := O.ok_nil
theorem ok_cons {a : M RV} {r : M (List RV)} {Q : List RV → Ev → Prop} : Ok (mCons a r) e Q ↔ Ok a e fun x e1 => Ok r e1 fun xs e2 => Q (x :: xs) e2 := O.ok_cons
theorem ok_bin {f : Val → Val → M RV} {a b : M RV} {Q : RV → Ev → Prop} : Ok (mBin f a b) e Q ↔ Ok a e fun r e1 => Ok b e1 fun s e2 => Ok (M.rd r) e2 fun v e3 => Ok (M.rd s) e3 fun w e4 => Ok (f v w) e4 Q := O.ok_bin
theorem ok_cb {f : List Val → M RV} {ms : M (List RV)} {Q : RV → Ev → Prop} : Ok (mCB f ms) e Q ↔ Ok ms e fun rs e1 => Ok (M.rds rs) e1 fun vs e2 => Ok (f vs) e2 Q := O.ok_cb
theorem ok_tup {r : M (List RV)} {Q : RV → Ev → Prop} : Ok (mTup r) e Q ↔ Ok r e fun rs e1 => Ok (M.dts rs) e1 fun vs e2 => vs.length ≤ sizeLine ∧ Q (.dat (.tup vs)) e2 := O.ok_tup
theorem ok_lst {r : M (List RV)} {Q : RV → Ev → Prop} : Ok (mLst r) e Q ↔ Ok r e fun rs e1 => Ok (M.dts rs) e1 fun vs e2 => vs.length ≤ sizeLine ∧ Q (.tmp (.lst vs)) e2 := O.ok_lst
theorem ok_tru {m : M RV} {Q : Bool → Ev → Prop} : Ok (mTru m) e Q ↔ Ok m e fun r e1 => Ok (M.rd r) e1 fun v e2 => Ok (truV v) e2 Q := O.ok_tru
theorem ok_truB {b : Bool} {Q : Bool → Ev → Prop} : Ok (truV (.bl b)) e Q ↔ Q b e := O.ok_truB
theorem ok_truI {i : Int} {Q : Bool → Ev → Prop} : Ok (truV (.int i)) e Q ↔ Q (i != 0) e := O.ok_truI
theorem ok_truN {Q : Bool → Ev → Prop} : Ok (truV .non) e Q ↔ Q false e := O.ok_truN
theorem ok_truL {xs : List Val} {Q : Bool → Ev → Prop} : Ok (truV (.lst xs)) e Q ↔ Q (!xs.isEmpty) e := O.ok_truL
theorem ok_truT {xs : List Val} {Q : Bool → Ev → Prop} : Ok (truV (.tup xs)) e Q ↔ Q (!xs.isEmpty) e := O.ok_truT
theorem ok_and {a b : M Bool} {Q : Bool → Ev → Prop} : Ok (mAnd a b) e Q ↔ Ok a e fun c e1 => (c = true → Ok b e1 Q) ∧ (¬ c = true → Q false e1) := O.ok_and
theorem ok_or {a b : M Bool} {Q : Bool → Ev → Prop} : Ok (mOr a b) e Q ↔ Ok a e fun c e1 => (c = true → Q true e1) ∧ (¬ c = true → Ok b e1 Q) := O.ok_or
theorem ok_not {a : M Bool} {Q : Bool → Ev → Prop} : Ok (mNot a) e Q ↔ Ok a e fun c e1 => Q (!c) e1 := O.ok_not
theorem ok_ifE {c : M Bool} {a b : M RV} {Q : RV → Ev → Prop} : Ok (mIfE c a b) e Q ↔ Ok c e fun k e1 => (k = true → Ok a e1 Q) ∧ (¬ k = true → Ok b e1 Q) := O.ok_ifE
theorem ok_andV {a b : M RV} {Q : RV → Ev → Prop} : Ok (mAndV a b) e Q ↔ Ok a e fun r e1 => Ok (M.rd r) e1 fun v e2 => match v with
    | .bl c => (c = true → Ok b e2 Q) ∧ (¬ c = true → Q (.dat (.bl false)) e2)
    | _ => False := O.ok_andV
theorem ok_orV {a b : M RV} {Q : RV → Ev → Prop} : Ok (mOrV a b) e Q ↔ Ok a e fun r e1 => Ok (M.rd r) e1 fun v e2 => match v with
    | .bl c => (c = true → Q (.dat (.bl true)) e2) ∧ (¬ c = true → Ok b e2 Q)
    | _ => False := O.ok_orV
theorem ok_notV {a : M RV} {Q : RV → Ev → Prop} : Ok (mNotV a) e Q ↔ Ok a e fun r e1 => Ok (M.rd r) e1 fun v e2 => match v with
    | .bl c => Q (.dat (.bl (!c))) e2
    | _ => False := O.ok_notV
theorem ok_neg {a : M RV} {Q : RV → Ev → Prop} : Ok (mNeg a) e Q ↔ Ok a e fun r e1 => Ok (M.rd r) e1 fun v e2 => match v with
    | .int i => Q (.dat (.int (-i))) e2
    | _ => False := O.ok_neg
theorem ok_chain {f g : Val → Val → M RV} {a b c : M RV} {Q : RV → Ev → Prop} : Ok (mChain f g a b c) e Q ↔ Ok a e fun r e1 => Ok b e1 fun s e2 => Ok (M.rd r) e2 fun v e3 => Ok (M.rd s) e3 fun w e4 => Ok (f v w) e4 fun z e5 => Ok (M.rd z) e5 fun k e6 => match k with
    | .bl k => (k = true → Ok c e6 fun t e7 => Ok (M.rd s) e7 fun w' e8 => Ok (M.rd t) e8 fun x e9 => Ok (g w' x) e9 Q) ∧ (¬ k = true → Q (.dat (.bl false)) e6)
    | _ => False := O.ok_chain
theorem ok_seq {a b : S} {Q : Out → Ev → Prop} : Ok (mSeq a b) e Q ↔ Ok a e fun o e1 => match o with
    | .nx => Ok b e1 Q
    | .bk => Q .bk e1
    | .ct => Q .ct e1
    | .rt r => Q (.rt r) e1 := O.ok_seq
theorem ok_skip {Q : Out → Ev → Prop} : Ok mSkip e Q ↔ Q .nx e := O.ok_skip
theorem ok_retS {m : M RV} {Q : Out → Ev → Prop} : Ok (mRet m) e Q ↔ Ok m e fun r e1 => Q (.rt r) e1 := O.ok_retS
theorem ok_retN {Q : Out → Ev → Prop} : Ok mRetN e Q ↔ Q (.rt (.dat .non)) e := O.ok_retN
theorem ok_bk {Q : Out → Ev → Prop} : Ok mBk e Q ↔ Q .bk e := O.ok_bk
theorem ok_ct {Q : Out → Ev → Prop} : Ok mCt e Q ↔ Q .ct e := O.ok_ct
theorem ok_ex1 {m : M RV} {Q : Out → Ev → Prop} : Ok (mEx m) e Q ↔ Ok m e fun _ e1 => Q .nx e1 := O.ok_ex1
theorem ok_if {c : M Bool} {a b : S} {Q : Out → Ev → Prop} : Ok (mIf c a b) e Q ↔ Ok c e fun k e1 => (k = true → Ok a e1 Q) ∧ (¬ k = true → Ok b e1 Q) := O.ok_if
theorem ok_set {i : Nat} {m : M RV} {Q : Out → Ev → Prop} : Ok (mSet i m) e Q ↔ Ok m e fun r e1 => match r with
    | .dat v => Q .nx (e1.set i (.dat v))
    | .tmp v => Q .nx (e1.set i (.own v))
    | .bor j => Ok (M.dt (.bor j)) e1 fun v e2 => Q .nx (e2.set i (.dat v)) := O.ok_set
theorem ok_setP {i : Nat} {m : M RV} {Q : Out → Ev → Prop} : Ok (mSetP i m) e Q ↔ Ok m e fun r e1 => Ok (M.dt r) e1 fun v e2 => Q .nx (e2.set i (.dat v)) := O.ok_setP
theorem ok_asg {mg : Val → M Unit} {m : M RV} {Q : Out → Ev → Prop} : Ok (mAsg mg m) e Q ↔ Ok m e fun r e1 => Ok (M.dt r) e1 fun v e2 => Ok (mg v) e2 fun _ e3 => Q .nx e3 := O.ok_asg
theorem ok_gN {i : Nat} {v : Val} {Q : Unit → Ev → Prop} : Ok (gN i v) e Q ↔ Q () (e.set i (.dat v)) := O.ok_gN
theorem ok_gsN {Q : Unit → Ev → Prop} : Ok (gsN []) e Q ↔ Q () e := O.ok_gsN
theorem ok_gsC {m : Val → M Unit} {ms : List Val → M Unit} {v : Val} {vs : List Val} {Q : Unit → Ev → Prop} : Ok (gsC m ms (v :: vs)) e Q ↔ Ok (m v) e fun _ e1 => Ok (ms vs) e1 Q := O.ok_gsC
theorem ok_gT {n : Nat} {ms : List Val → M Unit} {xs : List Val} {Q : Unit → Ev → Prop} : Ok (gT n ms (.tup xs)) e Q ↔ xs.length = n ∧ Ok (ms xs) e Q := O.ok_gT
theorem ok_gSb {mo mi : M RV} {v : Val} {Q : Unit → Ev → Prop} : Ok (gSb mo mi v) e Q ↔ Ok mo e fun r e1 => Ok mi e1 fun s e2 => Ok (M.rd s) e2 fun k e3 => match r, k with
    | .bor j, .int k => (match e3[j]? with
      | some (.own (.lst xs)) => (match ixN xs.length k with
        | some n => Q () (e3.set j (.own (.lst (xs.set n v))))
        | none => False)
      | _ => False)
    | _, _ => False := O.ok_gSb
theorem ok_par {p : Bool} {is : List Nat} {as : M (List RV)} {Q : Out → Ev → Prop} : Ok (mPar p is as) e Q ↔ Ok as e fun rs e1 => rs.length = is.length ∧ ((noBor rs = true ∧ p = false → Q .nx (setsE is rs e1)) ∧ (¬ (noBor rs = true ∧ p = false) → Ok (M.dts rs) e1 fun vs e2 => Q .nx (setsE is (vs.map .dat) e2))) := O.ok_par
theorem ok_put {C f : Str} {mo mv : M RV} {Q : Out → Ev → Prop} : Ok (mPut C f mo mv) e Q ↔ Ok mv e fun r0 e1 => Ok (M.dt r0) e1 fun v e2 => Ok mo e2 fun r e3 => match r with
    | .bor i => (match e3[i]? with
      | some (.own (.obj C' fs vs)) => C' = C ∧ fs.length < 1000 ∧ Q .nx (e3.set i (.own (.obj C (putFs f fs) (putVs f v fs vs))))
      | _ => False)
    | _ => False := O.ok_put
theorem ok_get {C f : Str} {mo : M RV} {Q : RV → Ev → Prop} : Ok (mGet C f mo) e Q ↔ Ok mo e fun r e1 => Ok (M.rd r) e1 fun v e2 => match v with
    | .obj C' fs vs => C' = C ∧ (match lookV f fs vs with
      | some w => Q (.dat w) e2
      | none => False)
    | _ => False := O.ok_get
theorem ok_run {ms : List Bool} {f : M RV} {rs : List RV} {Q : RV → Ev → Prop} : Ok (runF ms f rs) e Q ↔ match argsE ms rs e with
    | some (p, e1) => Ok f p fun r p' => match r with
      | .dat v => Q (.dat v) (backE ms rs p' e1)
      | .tmp v => Q (.tmp v) (backE ms rs p' e1)
      | .bor _ => False
    | none => False := O.ok_run
theorem ok_call {ms : List Bool} {f : M RV} {as : M (List RV)} {Q : RV → Ev → Prop} : Ok (mCall ms f as []) e Q ↔ Ok as e fun rs e1 => Ok (runF ms f rs) e1 Q := O.ok_call
theorem ok_callK {ms : List Bool} {f : M RV} {as ks : M (List RV)} {n m : Nat} {g : List Nat} {Q : RV → Ev → Prop} : Ok (mCallK ms f as ks n m g) e Q ↔ Ok as e fun rs e1 => Ok ks e1 fun zs e2 => (rs.length = n ∧ zs.length = m) ∧ Ok (runF ms f (sel g (rs ++ zs))) e2 Q := O.ok_callK
theorem ok_make {C : Str} {ms : List Bool} {f : M RV} {as : M (List RV)} {Q : RV → Ev → Prop} : Ok (mMake C ms f as []) e Q ↔ Ok as e fun rs e1 => match argsE (true :: ms) (.tmp (.obj C [] []) :: rs) e1 with
    | some (p, e2) => Ok f p fun r p' => match r with
      | .dat .non => (match p'[0]? with
        | some (Slot.own v) => Q (.tmp v) (backE (true :: ms) (.tmp (.obj C [] []) :: rs) p' e2)
        | _ => False)
      | _ => False
    | none => False := O.ok_make
theorem ok_prop {C : Str} {f mo : M RV} {Q : RV → Ev → Prop} : Ok (mProp C f mo) e Q ↔ Ok mo e fun r e1 => Ok (M.rd r) e1 fun v e2 => match v with
    | .obj C' _ _ => C' = C ∧ Ok (runF [true] f [r]) e2 Q
    | _ => False := O.ok_prop
theorem ok_den {n nn : Nat} {b : S} {Q : RV → Ev → Prop} (h : e.length = n) : Ok (fnDen n nn b) e Q ↔ Ok b (e ++ List.replicate (nn - n) Slot.un) fun o e' => match o with
    | .nx => Q (.dat .non) (outE (e'.take n))
    | .rt (.dat v) => Q (.dat v) (outE (e'.take n))
    | .rt (.tmp v) => Q (.tmp v) (outE (e'.take n))
    | .rt (.bor i) => (match e'[i]? with
      | some (.own v) => Q (.tmp v) (outE ((e'.set i .un).take n))
      | some (.dat v) => Q (.dat v) (outE (e'.take n))
      | _ => False)
    | _ => False := O.ok_den h
theorem ok_for {mi : M (List Val)} {mt : Val → M Unit} {mb : S} {Q : Out → Ev → Prop} : Ok (mFor mi mt mb) e Q ↔ Ok mi e fun vs e1 => Ok (loopS mt mb vs) e1 Q := O.ok_for
theorem ok_loop0 {mt : Val → M Unit} {mb : S} {Q : Out → Ev → Prop} : Ok (loopS mt mb []) e Q ↔ Q .nx e := O.ok_loop0
theorem ok_loopC {mt : Val → M Unit} {mb : S} {v : Val} {vs : List Val} {Q : Out → Ev → Prop} : Ok (loopS mt mb (v :: vs)) e Q ↔ Ok (mt v) e fun _ e1 => Ok mb e1 fun o e2 => match o with
    | .nx => Ok (loopS mt mb vs) e2 Q
    | .ct => Ok (loopS mt mb vs) e2 Q
    | .bk => Q .nx e2
    | .rt r => Q (.rt r) e2 := O.ok_loopC
theorem Ok.loop {mt : Val → M Unit} {mb : S} (P : Nat → Ev → Prop) : ∀ {vs : List Val} {e : Ev} {i : Nat}, P i e → (∀ (j : Nat) (v : Val) (e : Ev), vs[j]? = some v → P (i + j) e → Ok (mt v) e fun _ e1 => Ok mb e1 fun o e2 => (o = .nx ∨ o = .ct) ∧ P (i + j + 1) e2) →
    Ok (loopS mt mb vs) e fun o e' => o = .nx ∧ P (i + vs.length) e' := O.Ok.loop P
theorem ok_items {m : M RV} {Q : List Val → Ev → Prop} : Ok (mItems m) e Q ↔ Ok m e fun r e1 => Ok (M.dt r) e1 fun v e2 => match v with
    | .lst xs => Q xs e2
    | .tup xs => Q xs e2
    | _ => False := O.ok_items
theorem ok_rng1 {m : M RV} {Q : List Val → Ev → Prop} : Ok (mRng1 m) e Q ↔ Ok m e fun r e1 => Ok (M.rd r) e1 fun v e2 => match v with
    | .int j => (-4611686018427387904 ≤ j ∧ j < 4611686018427387904) ∧ Q (rangeV 0 j) e2
    | _ => False := O.ok_rng1
theorem ok_rng2 {a b : M RV} {Q : List Val → Ev → Prop} : Ok (mRng2 a b) e Q ↔ Ok a e fun r e1 => Ok b e1 fun s e2 => Ok (M.rd r) e2 fun v e3 => Ok (M.rd s) e3 fun w e4 => match v, w with
    | .int i, .int j => (-4611686018427387904 ≤ i ∧ i < 4611686018427387904 ∧ -4611686018427387904 ≤ j ∧ j < 4611686018427387904) ∧ Q (rangeV i j) e4
    | _, _ => False := O.ok_rng2
theorem ok_comp {ws : List Nat} {mi : M (List Val)} {mt : Val → M Unit} {mc : M Bool} {me : M RV} {Q : RV → Ev → Prop} : Ok (mComp ws mi mt mc me) e Q ↔ Ok mi e fun vs e1 => Ok (compS ws mt mc me vs []) (wipeE e1 ws) fun acc e2 => Q (.tmp (.lst acc)) e2 := O.ok_comp
theorem ok_yes {Q : Bool → Ev → Prop} : Ok mYes e Q ↔ Q true e := O.ok_yes
theorem ok_sl {a : M RV} {lo hi : M (Option Int)} {Q : RV → Ev → Prop} : Ok (mSl a lo hi) e Q ↔ Ok a e fun r e1 => Ok lo e1 fun l e2 => Ok hi e2 fun u e3 => Ok (M.rd r) e3 fun v e4 => Ok (slV v l u) e4 Q := O.ok_sl
theorem ok_noP {Q : Option Int → Ev → Prop} : Ok mNoP e Q ↔ Q none e := O.ok_noP
theorem ok_pt {a : M RV} {Q : Option Int → Ev → Prop} : Ok (mPt a) e Q ↔ Ok a e fun r e1 => Ok (M.rd r) e1 fun v e2 => match v with
    | .int i => Q (some i) e2
    | _ => False := O.ok_pt
theorem ok_slL {xs : List Val} {l u : Option Int} {Q : RV → Ev → Prop} : Ok (slV (.lst xs) l u) e Q ↔ Q (.tmp (.lst (cutA xs l u))) e := O.ok_slL
theorem ok_slT {xs : List Val} {l u : Option Int} {Q : RV → Ev → Prop} : Ok (slV (.tup xs) l u) e Q ↔ Q (.dat (.tup (cutA xs l u))) e := O.ok_slT
theorem ok_rep {a b : M RV} {Q : RV → Ev → Prop} : Ok (mRep a b) e Q ↔ Ok a e fun r e1 => Ok b e1 fun s e2 => Ok (M.rd s) e2 fun k e3 => match r, k with
    | .tmp (.lst xs), .int n => (-9223372036854775808 ≤ n ∧ n < 9223372036854775808 ∧ xs.length * n.toNat ≤ sizeLine) ∧ Q (.tmp (.lst (List.replicate n.toNat xs).flatten)) e3
    | _, _ => False := O.ok_rep
theorem ok_app {mo ma : M RV} {Q : RV → Ev → Prop} : Ok (mApp mo ma) e Q ↔ Ok mo e fun r e1 => Ok (M.rd r) e1 fun v0 e2 => match r, v0 with
    | .bor i, .lst _ => Ok ma e2 fun s e3 => Ok (M.dt s) e3 fun v e4 => (match e4[i]? with
      | some (.own (.lst xs)) => xs.length < sizeLine ∧ Q (.dat .non) (e4.set i (.own (.lst (xs ++ [v]))))
      | _ => False)
    | _, _ => False := O.ok_app
end Pu
set_option Elab.async false
set_option linter.all false
set_option maxRecDepth 100000
namespace Pu
open PySem PySem.Spec PyProof.Rows L2
variable {e : Ev} {Q : RV → Ev → Prop}
theorem ok_ic {c : Int → Int → Prop} [∀ i j, Decidable (c i j)] {g : Int → Int → Val} {i j : Int} : Ok (oIC c g (.int i) (.int j)) e Q ↔ c i j ∧ Q (.dat (g i j)) e := by
  unfold oIC
  dsimp only
  by_cases h : c i j
  · rw [if_pos h]; exact ⟨fun z => ⟨h, z⟩, fun z => z.2⟩
  · rw [if_neg h]; exact ⟨fun z => z.elim, fun z => h z.1⟩
theorem ok_oSub {i j : Int} : Ok (oSub (.int i) (.int j)) e Q ↔ Q (.dat (.int (i - j))) e := Iff.rfl
theorem ok_oMul {i j : Int} : Ok (oMul (.int i) (.int j)) e Q ↔ cMul i j ∧ Q (.dat (.int (i * j))) e := ok_ic
theorem ok_oDiv {i j : Int} : Ok (oDiv (.int i) (.int j)) e Q ↔ cDiv i j ∧ Q (.dat (.int (i / j))) e := ok_ic
theorem ok_oMod {i j : Int} : Ok (oMod (.int i) (.int j)) e Q ↔ cMod i j ∧ Q (.dat (.int (i % j))) e := ok_ic
theorem ok_oPow {i j : Int} : Ok (oPow (.int i) (.int j)) e Q ↔ cPow i j ∧ Q (.dat (.int (i ^ j.toNat))) e := ok_ic
theorem ok_oLt {i j : Int} : Ok (oLt (.int i) (.int j)) e Q ↔ Q (.dat (.bl (decide (i < j)))) e := Iff.rfl
theorem ok_oLe {i j : Int} : Ok (oLe (.int i) (.int j)) e Q ↔ Q (.dat (.bl (decide (i ≤ j)))) e := Iff.rfl
theorem ok_oGt {i j : Int} : Ok (oGt (.int i) (.int j)) e Q ↔ Q (.dat (.bl (decide (j < i)))) e := Iff.rfl
theorem ok_oGe {i j : Int} : Ok (oGe (.int i) (.int j)) e Q ↔ Q (.dat (.bl (decide (j ≤ i)))) e := Iff.rfl
theorem ok_oAdd {i j : Int} : Ok (oAdd (.int i) (.int j)) e Q ↔ Q (.dat (.int (i + j))) e := Iff.rfl
theorem ok_oAddL {a b : List Val} : Ok (oAdd (.lst a) (.lst b)) e Q ↔ a.length + b.length ≤ sizeLine ∧ Q (.tmp (.lst (a ++ b))) e := by
  show Ok (if _ then _ else _) e Q ↔ _
  by_cases h : a.length + b.length ≤ sizeLine
  · rw [if_pos h]; exact ⟨fun z => ⟨h, z⟩, fun z => z.2⟩
  · rw [if_neg h]; exact ⟨fun z => z.elim, fun z => h z.1⟩
theorem ok_oAddT {a b : List Val} : Ok (oAdd (.tup a) (.tup b)) e Q ↔ a.length + b.length ≤ sizeLine ∧ Q (.dat (.tup (a ++ b))) e := by
  show Ok (if _ then _ else _) e Q ↔ _
  by_cases h : a.length + b.length ≤ sizeLine
  · rw [if_pos h]; exact ⟨fun z => ⟨h, z⟩, fun z => z.2⟩
  · rw [if_neg h]; exact ⟨fun z => z.elim, fun z => h z.1⟩
theorem ok_oAddI {i j : Int} : Ok (oAddI (.int i) (.int j)) e Q ↔ Q (.dat (.int (i + j))) e := Iff.rfl
theorem ok_oEqI {i j : Int} : Ok (oEq (.int i) (.int j)) e Q ↔ (dOk (.int i) = true ∧ dOk (.int j) = true) ∧ Q (.dat (.bl (veq (.int i) (.int j)))) e := by
  show Ok (if (dOk (.int i) && dOk (.int j)) = true then mV (.bl (veq (.int i) (.int j))) else M.bad) e Q ↔ _
  by_cases h : (dOk (.int i) && dOk (.int j)) = true
  · rw [if_pos h]; rw [Bool.and_eq_true] at h; exact ⟨fun z => ⟨h, z⟩, fun z => z.2⟩
  · rw [if_neg h]; rw [Bool.and_eq_true] at h; exact ⟨fun z => z.elim, fun z => h z.1⟩
theorem ok_oEqL {xs ys : List Val} : Ok (oEq (.lst xs) (.lst ys)) e Q ↔ (dOk (.lst xs) = true ∧ dOk (.lst ys) = true) ∧ Q (.dat (.bl (veq (.lst xs) (.lst ys)))) e := by
  show Ok (if (dOk (.lst xs) && dOk (.lst ys)) = true then mV (.bl (veq (.lst xs) (.lst ys))) else M.bad) e Q ↔ _
  by_cases h : (dOk (.lst xs) && dOk (.lst ys)) = true
  · rw [if_pos h]; rw [Bool.and_eq_true] at h; exact ⟨fun z => ⟨h, z⟩, fun z => z.2⟩
  · rw [if_neg h]; rw [Bool.and_eq_true] at h; exact ⟨fun z => z.elim, fun z => h z.1⟩
theorem ok_oEqT {xs ys : List Val} : Ok (oEq (.tup xs) (.tup ys)) e Q ↔ (dOk (.tup xs) = true ∧ dOk (.tup ys) = true) ∧ Q (.dat (.bl (veq (.tup xs) (.tup ys)))) e := by
  show Ok (if (dOk (.tup xs) && dOk (.tup ys)) = true then mV (.bl (veq (.tup xs) (.tup ys))) else M.bad) e Q ↔ _
  by_cases h : (dOk (.tup xs) && dOk (.tup ys)) = true
  · rw [if_pos h]; rw [Bool.and_eq_true] at h; exact ⟨fun z => ⟨h, z⟩, fun z => z.2⟩
  · rw [if_neg h]; rw [Bool.and_eq_true] at h; exact ⟨fun z => z.elim, fun z => h z.1⟩
theorem ok_oEqB {i j : Bool} : Ok (oEq (.bl i) (.bl j)) e Q ↔ (dOk (.bl i) = true ∧ dOk (.bl j) = true) ∧ Q (.dat (.bl (veq (.bl i) (.bl j)))) e := by
  show Ok (if (dOk (.bl i) && dOk (.bl j)) = true then mV (.bl (veq (.bl i) (.bl j))) else M.bad) e Q ↔ _
  by_cases h : (dOk (.bl i) && dOk (.bl j)) = true
  · rw [if_pos h]; rw [Bool.and_eq_true] at h; exact ⟨fun z => ⟨h, z⟩, fun z => z.2⟩
  · rw [if_neg h]; rw [Bool.and_eq_true] at h; exact ⟨fun z => z.elim, fun z => h z.1⟩
theorem ok_oEqN {i : Int} : Ok (oEq (.int i) (.non)) e Q ↔ (dOk (.int i) = true ∧ dOk (.non) = true) ∧ Q (.dat (.bl (veq (.int i) (.non)))) e := by
  show Ok (if (dOk (.int i) && dOk (.non)) = true then mV (.bl (veq (.int i) (.non))) else M.bad) e Q ↔ _
  by_cases h : (dOk (.int i) && dOk (.non)) = true
  · rw [if_pos h]; rw [Bool.and_eq_true] at h; exact ⟨fun z => ⟨h, z⟩, fun z => z.2⟩
  · rw [if_neg h]; rw [Bool.and_eq_true] at h; exact ⟨fun z => z.elim, fun z => h z.1⟩
theorem ok_oEqS {a b : Str} : Ok (oEq (.str a) (.str b)) e Q ↔ Q (.dat (.bl (decide (a = b)))) e := Iff.rfl
theorem ok_oNeI {i j : Int} : Ok (oNe (.int i) (.int j)) e Q ↔ (dOk (.int i) = true ∧ dOk (.int j) = true) ∧ Q (.dat (.bl (!veq (.int i) (.int j)))) e := by
  show Ok (if (dOk (.int i) && dOk (.int j)) = true then mV (.bl (!veq (.int i) (.int j))) else M.bad) e Q ↔ _
  by_cases h : (dOk (.int i) && dOk (.int j)) = true
  · rw [if_pos h]; rw [Bool.and_eq_true] at h; exact ⟨fun z => ⟨h, z⟩, fun z => z.2⟩
  · rw [if_neg h]; rw [Bool.and_eq_true] at h; exact ⟨fun z => z.elim, fun z => h z.1⟩
theorem ok_oNeL {xs ys : List Val} : Ok (oNe (.lst xs) (.lst ys)) e Q ↔ (dOk (.lst xs) = true ∧ dOk (.lst ys) = true) ∧ Q (.dat (.bl (!veq (.lst xs) (.lst ys)))) e := by
  show Ok (if (dOk (.lst xs) && dOk (.lst ys)) = true then mV (.bl (!veq (.lst xs) (.lst ys))) else M.bad) e Q ↔ _
  by_cases h : (dOk (.lst xs) && dOk (.lst ys)) = true
  · rw [if_pos h]; rw [Bool.and_eq_true] at h; exact ⟨fun z => ⟨h, z⟩, fun z => z.2⟩
  · rw [if_neg h]; rw [Bool.and_eq_true] at h; exact ⟨fun z => z.elim, fun z => h z.1⟩
theorem ok_oNeT {xs ys : List Val} : Ok (oNe (.tup xs) (.tup ys)) e Q ↔ (dOk (.tup xs) = true ∧ dOk (.tup ys) = true) ∧ Q (.dat (.bl (!veq (.tup xs) (.tup ys)))) e := by
  show Ok (if (dOk (.tup xs) && dOk (.tup ys)) = true then mV (.bl (!veq (.tup xs) (.tup ys))) else M.bad) e Q ↔ _
  by_cases h : (dOk (.tup xs) && dOk (.tup ys)) = true
  · rw [if_pos h]; rw [Bool.and_eq_true] at h; exact ⟨fun z => ⟨h, z⟩, fun z => z.2⟩
  · rw [if_neg h]; rw [Bool.and_eq_true] at h; exact ⟨fun z => z.elim, fun z => h z.1⟩
theorem ok_oNeB {i j : Bool} : Ok (oNe (.bl i) (.bl j)) e Q ↔ (dOk (.bl i) = true ∧ dOk (.bl j) = true) ∧ Q (.dat (.bl (!veq (.bl i) (.bl j)))) e := by
  show Ok (if (dOk (.bl i) && dOk (.bl j)) = true then mV (.bl (!veq (.bl i) (.bl j))) else M.bad) e Q ↔ _
  by_cases h : (dOk (.bl i) && dOk (.bl j)) = true
  · rw [if_pos h]; rw [Bool.and_eq_true] at h; exact ⟨fun z => ⟨h, z⟩, fun z => z.2⟩
  · rw [if_neg h]; rw [Bool.and_eq_true] at h; exact ⟨fun z => z.elim, fun z => h z.1⟩
theorem ok_oNeN {i : Int} : Ok (oNe (.int i) (.non)) e Q ↔ (dOk (.int i) = true ∧ dOk (.non) = true) ∧ Q (.dat (.bl (!veq (.int i) (.non)))) e := by
  show Ok (if (dOk (.int i) && dOk (.non)) = true then mV (.bl (!veq (.int i) (.non))) else M.bad) e Q ↔ _
  by_cases h : (dOk (.int i) && dOk (.non)) = true
  · rw [if_pos h]; rw [Bool.and_eq_true] at h; exact ⟨fun z => ⟨h, z⟩, fun z => z.2⟩
  · rw [if_neg h]; rw [Bool.and_eq_true] at h; exact ⟨fun z => z.elim, fun z => h z.1⟩
theorem ok_oNeS {a b : Str} : Ok (oNe (.str a) (.str b)) e Q ↔ Q (.dat (.bl (!decide (a = b)))) e := Iff.rfl
theorem ok_oIs {x : Val} : Ok (oIs x .non) e Q ↔ Q (.dat (.bl (isNon x))) e := Iff.rfl
theorem ok_oIsN {x : Val} : Ok (oIsN x .non) e Q ↔ Q (.dat (.bl (!isNon x))) e := Iff.rfl
theorem ok_ixL {xs : List Val} {i : Int} : Ok (oIx (.lst xs) (.int i)) e Q ↔ ∃ v, atI xs i = some v ∧ Q (.dat v) e := by
  show Ok (match atI xs i with
    | some v => mV v
    | none => M.bad) e Q ↔ _
  cases atI xs i with
  | none => simp [ok_bad]
  | some v => simp [ok_mV]
theorem ok_ixT {xs : List Val} {i : Int} : Ok (oIx (.tup xs) (.int i)) e Q ↔ ∃ v, atI xs i = some v ∧ Q (.dat v) e := by
  show Ok (match atI xs i with
    | some v => mV v
    | none => M.bad) e Q ↔ _
  cases atI xs i with
  | none => simp [ok_bad]
  | some v => simp [ok_mV]
theorem atI_lit {α : Type} {xs : List α} (k : Nat) {a : α} (h : xs[k]? = some a) : atI xs (k : Int) = some a := by
  have hl : k < xs.length := (List.getElem?_eq_some_iff.mp h).1
  unfold atI ixN
  rw [if_pos (by omega), if_pos (by omega)]
  simpa using h
theorem ixn_lit {n : Nat} (k : Nat) (h : k < n) : ixN n (k : Int) = some k := by
  unfold ixN
  rw [if_pos (by omega), if_pos (by omega)]
  simp
section
variable {a b c d f : Val} {l : List Val}
theorem ix_0 : Ok (oIx (.lst (a :: l)) (.int 0)) e Q ↔ Q (.dat a) e := by rw [ok_ixL, show atI (a :: l) 0 = some a from atI_lit 0 rfl]; simp
theorem ix_1 : Ok (oIx (.lst (a :: b :: l)) (.int 1)) e Q ↔ Q (.dat b) e := by rw [ok_ixL, show atI (a :: b :: l) 1 = some b from atI_lit 1 rfl]; simp
theorem ix_2 : Ok (oIx (.lst (a :: b :: c :: l)) (.int 2)) e Q ↔ Q (.dat c) e := by rw [ok_ixL, show atI (a :: b :: c :: l) 2 = some c from atI_lit 2 rfl]; simp
theorem ix_3 : Ok (oIx (.lst (a :: b :: c :: d :: l)) (.int 3)) e Q ↔ Q (.dat d) e := by rw [ok_ixL, show atI (a :: b :: c :: d :: l) 3 = some d from atI_lit 3 rfl]; simp
theorem ix_4 : Ok (oIx (.lst (a :: b :: c :: d :: f :: l)) (.int 4)) e Q ↔ Q (.dat f) e := by rw [ok_ixL, show atI (a :: b :: c :: d :: f :: l) 4 = some f from atI_lit 4 rfl]; simp
theorem it_0 : Ok (oIx (.tup (a :: l)) (.int 0)) e Q ↔ Q (.dat a) e := by rw [ok_ixT, show atI (a :: l) 0 = some a from atI_lit 0 rfl]; simp
theorem it_1 : Ok (oIx (.tup (a :: b :: l)) (.int 1)) e Q ↔ Q (.dat b) e := by rw [ok_ixT, show atI (a :: b :: l) 1 = some b from atI_lit 1 rfl]; simp
theorem it_2 : Ok (oIx (.tup (a :: b :: c :: l)) (.int 2)) e Q ↔ Q (.dat c) e := by rw [ok_ixT, show atI (a :: b :: c :: l) 2 = some c from atI_lit 2 rfl]; simp
theorem it_3 : Ok (oIx (.tup (a :: b :: c :: d :: l)) (.int 3)) e Q ↔ Q (.dat d) e := by rw [ok_ixT, show atI (a :: b :: c :: d :: l) 3 = some d from atI_lit 3 rfl]; simp
end
theorem ixn_0 {n : Nat} : ixN (n + 1) 0 = some 0 := ixn_lit 0 (by omega)
theorem ixn_1 {n : Nat} : ixN (n + 1 + 1) 1 = some 1 := ixn_lit 1 (by omega)
theorem ixn_2 {n : Nat} : ixN (n + 1 + 1 + 1) 2 = some 2 := ixn_lit 2 (by omega)
theorem atI_mem {xs : List Val} {i : Int} (h0 : 0 ≤ i) (h1 : i < xs.length) : ∃ v ∈ xs, atI xs i = some v := by
  have hl : i.toNat < xs.length := by omega
  refine ⟨xs[i.toNat], List.getElem_mem hl, ?_⟩
  unfold atI ixN
  rw [if_pos h0, if_pos h1]
  simp [List.getElem?_eq_getElem hl]
theorem ok_d1 {nn : Nat} {b : S} {s0 : Slot} : Ok (fnDen 1 nn b) [s0] Q ↔ Ok b ([s0] ++ List.replicate (nn - 1) Slot.un) fun o e' => match o with
    | .nx => Q (.dat .non) (outE (e'.take 1))
    | .rt (.dat v) => Q (.dat v) (outE (e'.take 1))
    | .rt (.tmp v) => Q (.tmp v) (outE (e'.take 1))
    | .rt (.bor i) => (match e'[i]? with
      | some (.own v) => Q (.tmp v) (outE ((e'.set i .un).take 1))
      | some (.dat v) => Q (.dat v) (outE (e'.take 1))
      | _ => False)
    | _ => False := ok_den rfl
theorem ok_d2 {nn : Nat} {b : S} {s0 s1 : Slot} : Ok (fnDen 2 nn b) [s0, s1] Q ↔ Ok b ([s0, s1] ++ List.replicate (nn - 2) Slot.un) fun o e' => match o with
    | .nx => Q (.dat .non) (outE (e'.take 2))
    | .rt (.dat v) => Q (.dat v) (outE (e'.take 2))
    | .rt (.tmp v) => Q (.tmp v) (outE (e'.take 2))
    | .rt (.bor i) => (match e'[i]? with
      | some (.own v) => Q (.tmp v) (outE ((e'.set i .un).take 2))
      | some (.dat v) => Q (.dat v) (outE (e'.take 2))
      | _ => False)
    | _ => False := ok_den rfl
theorem ok_d3 {nn : Nat} {b : S} {s0 s1 s2 : Slot} : Ok (fnDen 3 nn b) [s0, s1, s2] Q ↔ Ok b ([s0, s1, s2] ++ List.replicate (nn - 3) Slot.un) fun o e' => match o with
    | .nx => Q (.dat .non) (outE (e'.take 3))
    | .rt (.dat v) => Q (.dat v) (outE (e'.take 3))
    | .rt (.tmp v) => Q (.tmp v) (outE (e'.take 3))
    | .rt (.bor i) => (match e'[i]? with
      | some (.own v) => Q (.tmp v) (outE ((e'.set i .un).take 3))
      | some (.dat v) => Q (.dat v) (outE (e'.take 3))
      | _ => False)
    | _ => False := ok_den rfl
theorem ok_d4 {nn : Nat} {b : S} {s0 s1 s2 s3 : Slot} : Ok (fnDen 4 nn b) [s0, s1, s2, s3] Q ↔ Ok b ([s0, s1, s2, s3] ++ List.replicate (nn - 4) Slot.un) fun o e' => match o with
    | .nx => Q (.dat .non) (outE (e'.take 4))
    | .rt (.dat v) => Q (.dat v) (outE (e'.take 4))
    | .rt (.tmp v) => Q (.tmp v) (outE (e'.take 4))
    | .rt (.bor i) => (match e'[i]? with
      | some (.own v) => Q (.tmp v) (outE ((e'.set i .un).take 4))
      | some (.dat v) => Q (.dat v) (outE (e'.take 4))
      | _ => False)
    | _ => False := ok_den rfl
theorem ok_d5 {nn : Nat} {b : S} {s0 s1 s2 s3 s4 : Slot} : Ok (fnDen 5 nn b) [s0, s1, s2, s3, s4] Q ↔ Ok b ([s0, s1, s2, s3, s4] ++ List.replicate (nn - 5) Slot.un) fun o e' => match o with
    | .nx => Q (.dat .non) (outE (e'.take 5))
    | .rt (.dat v) => Q (.dat v) (outE (e'.take 5))
    | .rt (.tmp v) => Q (.tmp v) (outE (e'.take 5))
    | .rt (.bor i) => (match e'[i]? with
      | some (.own v) => Q (.tmp v) (outE ((e'.set i .un).take 5))
      | some (.dat v) => Q (.dat v) (outE (e'.take 5))
      | _ => False)
    | _ => False := ok_den rfl
theorem ok_d6 {nn : Nat} {b : S} {s0 s1 s2 s3 s4 s5 : Slot} : Ok (fnDen 6 nn b) [s0, s1, s2, s3, s4, s5] Q ↔ Ok b ([s0, s1, s2, s3, s4, s5] ++ List.replicate (nn - 6) Slot.un) fun o e' => match o with
    | .nx => Q (.dat .non) (outE (e'.take 6))
    | .rt (.dat v) => Q (.dat v) (outE (e'.take 6))
    | .rt (.tmp v) => Q (.tmp v) (outE (e'.take 6))
    | .rt (.bor i) => (match e'[i]? with
      | some (.own v) => Q (.tmp v) (outE ((e'.set i .un).take 6))
      | some (.dat v) => Q (.dat v) (outE (e'.take 6))
      | _ => False)
    | _ => False := ok_den rfl
theorem ok_d7 {nn : Nat} {b : S} {s0 s1 s2 s3 s4 s5 s6 : Slot} : Ok (fnDen 7 nn b) [s0, s1, s2, s3, s4, s5, s6] Q ↔ Ok b ([s0, s1, s2, s3, s4, s5, s6] ++ List.replicate (nn - 7) Slot.un) fun o e' => match o with
    | .nx => Q (.dat .non) (outE (e'.take 7))
    | .rt (.dat v) => Q (.dat v) (outE (e'.take 7))
    | .rt (.tmp v) => Q (.tmp v) (outE (e'.take 7))
    | .rt (.bor i) => (match e'[i]? with
      | some (.own v) => Q (.tmp v) (outE ((e'.set i .un).take 7))
      | some (.dat v) => Q (.dat v) (outE (e'.take 7))
      | _ => False)
    | _ => False := ok_den rfl
section
variable {l : List Slot} {v : Val} {P : Val → Ev → Prop}
theorem vD_0 : Ok (mVar 0) (.dat v :: l) Q ↔ Q (.dat v) (.dat v :: l) := Iff.rfl
theorem vO_0 : Ok (mVar 0) (.own v :: l) Q ↔ Q (.bor 0) (.own v :: l) := Iff.rfl
theorem rD_0 : Ok (M.rd (.bor 0)) (.dat v :: l) P ↔ P v (.dat v :: l) := Iff.rfl
theorem rO_0 : Ok (M.rd (.bor 0)) (.own v :: l) P ↔ P v (.own v :: l) := Iff.rfl
theorem kD_0 : Ok (M.dt (.bor 0)) (.dat v :: l) P ↔ P v (.dat v :: l) := Iff.rfl
theorem kO_0 : Ok (M.dt (.bor 0)) (.own v :: l) P ↔ P v (.dat v :: l) := Iff.rfl
theorem vD_1 {s0 : Slot} : Ok (mVar 1) (s0 :: .dat v :: l) Q ↔ Q (.dat v) (s0 :: .dat v :: l) := Iff.rfl
theorem vO_1 {s0 : Slot} : Ok (mVar 1) (s0 :: .own v :: l) Q ↔ Q (.bor 1) (s0 :: .own v :: l) := Iff.rfl
theorem rD_1 {s0 : Slot} : Ok (M.rd (.bor 1)) (s0 :: .dat v :: l) P ↔ P v (s0 :: .dat v :: l) := Iff.rfl
theorem rO_1 {s0 : Slot} : Ok (M.rd (.bor 1)) (s0 :: .own v :: l) P ↔ P v (s0 :: .own v :: l) := Iff.rfl
theorem kD_1 {s0 : Slot} : Ok (M.dt (.bor 1)) (s0 :: .dat v :: l) P ↔ P v (s0 :: .dat v :: l) := Iff.rfl
theorem kO_1 {s0 : Slot} : Ok (M.dt (.bor 1)) (s0 :: .own v :: l) P ↔ P v (s0 :: .dat v :: l) := Iff.rfl
theorem vD_2 {s0 s1 : Slot} : Ok (mVar 2) (s0 :: s1 :: .dat v :: l) Q ↔ Q (.dat v) (s0 :: s1 :: .dat v :: l) := Iff.rfl
theorem vO_2 {s0 s1 : Slot} : Ok (mVar 2) (s0 :: s1 :: .own v :: l) Q ↔ Q (.bor 2) (s0 :: s1 :: .own v :: l) := Iff.rfl
theorem rD_2 {s0 s1 : Slot} : Ok (M.rd (.bor 2)) (s0 :: s1 :: .dat v :: l) P ↔ P v (s0 :: s1 :: .dat v :: l) := Iff.rfl
theorem rO_2 {s0 s1 : Slot} : Ok (M.rd (.bor 2)) (s0 :: s1 :: .own v :: l) P ↔ P v (s0 :: s1 :: .own v :: l) := Iff.rfl
theorem kD_2 {s0 s1 : Slot} : Ok (M.dt (.bor 2)) (s0 :: s1 :: .dat v :: l) P ↔ P v (s0 :: s1 :: .dat v :: l) := Iff.rfl
theorem kO_2 {s0 s1 : Slot} : Ok (M.dt (.bor 2)) (s0 :: s1 :: .own v :: l) P ↔ P v (s0 :: s1 :: .dat v :: l) := Iff.rfl
theorem vD_3 {s0 s1 s2 : Slot} : Ok (mVar 3) (s0 :: s1 :: s2 :: .dat v :: l) Q ↔ Q (.dat v) (s0 :: s1 :: s2 :: .dat v :: l) := Iff.rfl
theorem vO_3 {s0 s1 s2 : Slot} : Ok (mVar 3) (s0 :: s1 :: s2 :: .own v :: l) Q ↔ Q (.bor 3) (s0 :: s1 :: s2 :: .own v :: l) := Iff.rfl
theorem rD_3 {s0 s1 s2 : Slot} : Ok (M.rd (.bor 3)) (s0 :: s1 :: s2 :: .dat v :: l) P ↔ P v (s0 :: s1 :: s2 :: .dat v :: l) := Iff.rfl
theorem rO_3 {s0 s1 s2 : Slot} : Ok (M.rd (.bor 3)) (s0 :: s1 :: s2 :: .own v :: l) P ↔ P v (s0 :: s1 :: s2 :: .own v :: l) := Iff.rfl
theorem kD_3 {s0 s1 s2 : Slot} : Ok (M.dt (.bor 3)) (s0 :: s1 :: s2 :: .dat v :: l) P ↔ P v (s0 :: s1 :: s2 :: .dat v :: l) := Iff.rfl
theorem kO_3 {s0 s1 s2 : Slot} : Ok (M.dt (.bor 3)) (s0 :: s1 :: s2 :: .own v :: l) P ↔ P v (s0 :: s1 :: s2 :: .dat v :: l) := Iff.rfl
theorem vD_4 {s0 s1 s2 s3 : Slot} : Ok (mVar 4) (s0 :: s1 :: s2 :: s3 :: .dat v :: l) Q ↔ Q (.dat v) (s0 :: s1 :: s2 :: s3 :: .dat v :: l) := Iff.rfl
theorem vO_4 {s0 s1 s2 s3 : Slot} : Ok (mVar 4) (s0 :: s1 :: s2 :: s3 :: .own v :: l) Q ↔ Q (.bor 4) (s0 :: s1 :: s2 :: s3 :: .own v :: l) := Iff.rfl
theorem rD_4 {s0 s1 s2 s3 : Slot} : Ok (M.rd (.bor 4)) (s0 :: s1 :: s2 :: s3 :: .dat v :: l) P ↔ P v (s0 :: s1 :: s2 :: s3 :: .dat v :: l) := Iff.rfl
theorem rO_4 {s0 s1 s2 s3 : Slot} : Ok (M.rd (.bor 4)) (s0 :: s1 :: s2 :: s3 :: .own v :: l) P ↔ P v (s0 :: s1 :: s2 :: s3 :: .own v :: l) := Iff.rfl
theorem kD_4 {s0 s1 s2 s3 : Slot} : Ok (M.dt (.bor 4)) (s0 :: s1 :: s2 :: s3 :: .dat v :: l) P ↔ P v (s0 :: s1 :: s2 :: s3 :: .dat v :: l) := Iff.rfl
theorem kO_4 {s0 s1 s2 s3 : Slot} : Ok (M.dt (.bor 4)) (s0 :: s1 :: s2 :: s3 :: .own v :: l) P ↔ P v (s0 :: s1 :: s2 :: s3 :: .dat v :: l) := Iff.rfl
theorem vD_5 {s0 s1 s2 s3 s4 : Slot} : Ok (mVar 5) (s0 :: s1 :: s2 :: s3 :: s4 :: .dat v :: l) Q ↔ Q (.dat v) (s0 :: s1 :: s2 :: s3 :: s4 :: .dat v :: l) := Iff.rfl
theorem vO_5 {s0 s1 s2 s3 s4 : Slot} : Ok (mVar 5) (s0 :: s1 :: s2 :: s3 :: s4 :: .own v :: l) Q ↔ Q (.bor 5) (s0 :: s1 :: s2 :: s3 :: s4 :: .own v :: l) := Iff.rfl
theorem rD_5 {s0 s1 s2 s3 s4 : Slot} : Ok (M.rd (.bor 5)) (s0 :: s1 :: s2 :: s3 :: s4 :: .dat v :: l) P ↔ P v (s0 :: s1 :: s2 :: s3 :: s4 :: .dat v :: l) := Iff.rfl
theorem rO_5 {s0 s1 s2 s3 s4 : Slot} : Ok (M.rd (.bor 5)) (s0 :: s1 :: s2 :: s3 :: s4 :: .own v :: l) P ↔ P v (s0 :: s1 :: s2 :: s3 :: s4 :: .own v :: l) := Iff.rfl
theorem kD_5 {s0 s1 s2 s3 s4 : Slot} : Ok (M.dt (.bor 5)) (s0 :: s1 :: s2 :: s3 :: s4 :: .dat v :: l) P ↔ P v (s0 :: s1 :: s2 :: s3 :: s4 :: .dat v :: l) := Iff.rfl
theorem kO_5 {s0 s1 s2 s3 s4 : Slot} : Ok (M.dt (.bor 5)) (s0 :: s1 :: s2 :: s3 :: s4 :: .own v :: l) P ↔ P v (s0 :: s1 :: s2 :: s3 :: s4 :: .dat v :: l) := Iff.rfl
theorem vD_6 {s0 s1 s2 s3 s4 s5 : Slot} : Ok (mVar 6) (s0 :: s1 :: s2 :: s3 :: s4 :: s5 :: .dat v :: l) Q ↔ Q (.dat v) (s0 :: s1 :: s2 :: s3 :: s4 :: s5 :: .dat v :: l) := Iff.rfl
theorem vO_6 {s0 s1 s2 s3 s4 s5 : Slot} : Ok (mVar 6) (s0 :: s1 :: s2 :: s3 :: s4 :: s5 :: .own v :: l) Q ↔ Q (.bor 6) (s0 :: s1 :: s2 :: s3 :: s4 :: s5 :: .own v :: l) := Iff.rfl
theorem rD_6 {s0 s1 s2 s3 s4 s5 : Slot} : Ok (M.rd (.bor 6)) (s0 :: s1 :: s2 :: s3 :: s4 :: s5 :: .dat v :: l) P ↔ P v (s0 :: s1 :: s2 :: s3 :: s4 :: s5 :: .dat v :: l) := Iff.rfl
theorem rO_6 {s0 s1 s2 s3 s4 s5 : Slot} : Ok (M.rd (.bor 6)) (s0 :: s1 :: s2 :: s3 :: s4 :: s5 :: .own v :: l) P ↔ P v (s0 :: s1 :: s2 :: s3 :: s4 :: s5 :: .own v :: l) := Iff.rfl
theorem kD_6 {s0 s1 s2 s3 s4 s5 : Slot} : Ok (M.dt (.bor 6)) (s0 :: s1 :: s2 :: s3 :: s4 :: s5 :: .dat v :: l) P ↔ P v (s0 :: s1 :: s2 :: s3 :: s4 :: s5 :: .dat v :: l) := Iff.rfl
theorem kO_6 {s0 s1 s2 s3 s4 s5 : Slot} : Ok (M.dt (.bor 6)) (s0 :: s1 :: s2 :: s3 :: s4 :: s5 :: .own v :: l) P ↔ P v (s0 :: s1 :: s2 :: s3 :: s4 :: s5 :: .dat v :: l) := Iff.rfl
theorem vD_7 {s0 s1 s2 s3 s4 s5 s6 : Slot} : Ok (mVar 7) (s0 :: s1 :: s2 :: s3 :: s4 :: s5 :: s6 :: .dat v :: l) Q ↔ Q (.dat v) (s0 :: s1 :: s2 :: s3 :: s4 :: s5 :: s6 :: .dat v :: l) := Iff.rfl
theorem vO_7 {s0 s1 s2 s3 s4 s5 s6 : Slot} : Ok (mVar 7) (s0 :: s1 :: s2 :: s3 :: s4 :: s5 :: s6 :: .own v :: l) Q ↔ Q (.bor 7) (s0 :: s1 :: s2 :: s3 :: s4 :: s5 :: s6 :: .own v :: l) := Iff.rfl
theorem rD_7 {s0 s1 s2 s3 s4 s5 s6 : Slot} : Ok (M.rd (.bor 7)) (s0 :: s1 :: s2 :: s3 :: s4 :: s5 :: s6 :: .dat v :: l) P ↔ P v (s0 :: s1 :: s2 :: s3 :: s4 :: s5 :: s6 :: .dat v :: l) := Iff.rfl
theorem rO_7 {s0 s1 s2 s3 s4 s5 s6 : Slot} : Ok (M.rd (.bor 7)) (s0 :: s1 :: s2 :: s3 :: s4 :: s5 :: s6 :: .own v :: l) P ↔ P v (s0 :: s1 :: s2 :: s3 :: s4 :: s5 :: s6 :: .own v :: l) := Iff.rfl
theorem kD_7 {s0 s1 s2 s3 s4 s5 s6 : Slot} : Ok (M.dt (.bor 7)) (s0 :: s1 :: s2 :: s3 :: s4 :: s5 :: s6 :: .dat v :: l) P ↔ P v (s0 :: s1 :: s2 :: s3 :: s4 :: s5 :: s6 :: .dat v :: l) := Iff.rfl
theorem kO_7 {s0 s1 s2 s3 s4 s5 s6 : Slot} : Ok (M.dt (.bor 7)) (s0 :: s1 :: s2 :: s3 :: s4 :: s5 :: s6 :: .own v :: l) P ↔ P v (s0 :: s1 :: s2 :: s3 :: s4 :: s5 :: s6 :: .dat v :: l) := Iff.rfl
theorem vD_8 {s0 s1 s2 s3 s4 s5 s6 s7 : Slot} : Ok (mVar 8) (s0 :: s1 :: s2 :: s3 :: s4 :: s5 :: s6 :: s7 :: .dat v :: l) Q ↔ Q (.dat v) (s0 :: s1 :: s2 :: s3 :: s4 :: s5 :: s6 :: s7 :: .dat v :: l) := Iff.rfl
theorem vO_8 {s0 s1 s2 s3 s4 s5 s6 s7 : Slot} : Ok (mVar 8) (s0 :: s1 :: s2 :: s3 :: s4 :: s5 :: s6 :: s7 :: .own v :: l) Q ↔ Q (.bor 8) (s0 :: s1 :: s2 :: s3 :: s4 :: s5 :: s6 :: s7 :: .own v :: l) := Iff.rfl
theorem rD_8 {s0 s1 s2 s3 s4 s5 s6 s7 : Slot} : Ok (M.rd (.bor 8)) (s0 :: s1 :: s2 :: s3 :: s4 :: s5 :: s6 :: s7 :: .dat v :: l) P ↔ P v (s0 :: s1 :: s2 :: s3 :: s4 :: s5 :: s6 :: s7 :: .dat v :: l) := Iff.rfl
theorem rO_8 {s0 s1 s2 s3 s4 s5 s6 s7 : Slot} : Ok (M.rd (.bor 8)) (s0 :: s1 :: s2 :: s3 :: s4 :: s5 :: s6 :: s7 :: .own v :: l) P ↔ P v (s0 :: s1 :: s2 :: s3 :: s4 :: s5 :: s6 :: s7 :: .own v :: l) := Iff.rfl
theorem kD_8 {s0 s1 s2 s3 s4 s5 s6 s7 : Slot} : Ok (M.dt (.bor 8)) (s0 :: s1 :: s2 :: s3 :: s4 :: s5 :: s6 :: s7 :: .dat v :: l) P ↔ P v (s0 :: s1 :: s2 :: s3 :: s4 :: s5 :: s6 :: s7 :: .dat v :: l) := Iff.rfl
theorem kO_8 {s0 s1 s2 s3 s4 s5 s6 s7 : Slot} : Ok (M.dt (.bor 8)) (s0 :: s1 :: s2 :: s3 :: s4 :: s5 :: s6 :: s7 :: .own v :: l) P ↔ P v (s0 :: s1 :: s2 :: s3 :: s4 :: s5 :: s6 :: s7 :: .dat v :: l) := Iff.rfl
theorem vD_9 {s0 s1 s2 s3 s4 s5 s6 s7 s8 : Slot} : Ok (mVar 9) (s0 :: s1 :: s2 :: s3 :: s4 :: s5 :: s6 :: s7 :: s8 :: .dat v :: l) Q ↔ Q (.dat v) (s0 :: s1 :: s2 :: s3 :: s4 :: s5 :: s6 :: s7 :: s8 :: .dat v :: l) := Iff.rfl
theorem vO_9 {s0 s1 s2 s3 s4 s5 s6 s7 s8 : Slot} : Ok (mVar 9) (s0 :: s1 :: s2 :: s3 :: s4 :: s5 :: s6 :: s7 :: s8 :: .own v :: l) Q ↔ Q (.bor 9) (s0 :: s1 :: s2 :: s3 :: s4 :: s5 :: s6 :: s7 :: s8 :: .own v :: l) := Iff.rfl
theorem rD_9 {s0 s1 s2 s3 s4 s5 s6 s7 s8 : Slot} : Ok (M.rd (.bor 9)) (s0 :: s1 :: s2 :: s3 :: s4 :: s5 :: s6 :: s7 :: s8 :: .dat v :: l) P ↔ P v (s0 :: s1 :: s2 :: s3 :: s4 :: s5 :: s6 :: s7 :: s8 :: .dat v :: l) := Iff.rfl
theorem rO_9 {s0 s1 s2 s3 s4 s5 s6 s7 s8 : Slot} : Ok (M.rd (.bor 9)) (s0 :: s1 :: s2 :: s3 :: s4 :: s5 :: s6 :: s7 :: s8 :: .own v :: l) P ↔ P v (s0 :: s1 :: s2 :: s3 :: s4 :: s5 :: s6 :: s7 :: s8 :: .own v :: l) := Iff.rfl
theorem kD_9 {s0 s1 s2 s3 s4 s5 s6 s7 s8 : Slot} : Ok (M.dt (.bor 9)) (s0 :: s1 :: s2 :: s3 :: s4 :: s5 :: s6 :: s7 :: s8 :: .dat v :: l) P ↔ P v (s0 :: s1 :: s2 :: s3 :: s4 :: s5 :: s6 :: s7 :: s8 :: .dat v :: l) := Iff.rfl
theorem kO_9 {s0 s1 s2 s3 s4 s5 s6 s7 s8 : Slot} : Ok (M.dt (.bor 9)) (s0 :: s1 :: s2 :: s3 :: s4 :: s5 :: s6 :: s7 :: s8 :: .own v :: l) P ↔ P v (s0 :: s1 :: s2 :: s3 :: s4 :: s5 :: s6 :: s7 :: s8 :: .dat v :: l) := Iff.rfl
theorem vD_10 {s0 s1 s2 s3 s4 s5 s6 s7 s8 s9 : Slot} : Ok (mVar 10) (s0 :: s1 :: s2 :: s3 :: s4 :: s5 :: s6 :: s7 :: s8 :: s9 :: .dat v :: l) Q ↔ Q (.dat v) (s0 :: s1 :: s2 :: s3 :: s4 :: s5 :: s6 :: s7 :: s8 :: s9 :: .dat v :: l) := Iff.rfl
theorem vO_10 {s0 s1 s2 s3 s4 s5 s6 s7 s8 s9 : Slot} : Ok (mVar 10) (s0 :: s1 :: s2 :: s3 :: s4 :: s5 :: s6 :: s7 :: s8 :: s9 :: .own v :: l) Q ↔ Q (.bor 10) (s0 :: s1 :: s2 :: s3 :: s4 :: s5 :: s6 :: s7 :: s8 :: s9 :: .own v :: l) := Iff.rfl
theorem rD_10 {s0 s1 s2 s3 s4 s5 s6 s7 s8 s9 : Slot} : Ok (M.rd (.bor 10)) (s0 :: s1 :: s2 :: s3 :: s4 :: s5 :: s6 :: s7 :: s8 :: s9 :: .dat v :: l) P ↔ P v (s0 :: s1 :: s2 :: s3 :: s4 :: s5 :: s6 :: s7 :: s8 :: s9 :: .dat v :: l) := Iff.rfl
theorem rO_10 {s0 s1 s2 s3 s4 s5 s6 s7 s8 s9 : Slot} : Ok (M.rd (.bor 10)) (s0 :: s1 :: s2 :: s3 :: s4 :: s5 :: s6 :: s7 :: s8 :: s9 :: .own v :: l) P ↔ P v (s0 :: s1 :: s2 :: s3 :: s4 :: s5 :: s6 :: s7 :: s8 :: s9 :: .own v :: l) := Iff.rfl
theorem kD_10 {s0 s1 s2 s3 s4 s5 s6 s7 s8 s9 : Slot} : Ok (M.dt (.bor 10)) (s0 :: s1 :: s2 :: s3 :: s4 :: s5 :: s6 :: s7 :: s8 :: s9 :: .dat v :: l) P ↔ P v (s0 :: s1 :: s2 :: s3 :: s4 :: s5 :: s6 :: s7 :: s8 :: s9 :: .dat v :: l) := Iff.rfl
theorem kO_10 {s0 s1 s2 s3 s4 s5 s6 s7 s8 s9 : Slot} : Ok (M.dt (.bor 10)) (s0 :: s1 :: s2 :: s3 :: s4 :: s5 :: s6 :: s7 :: s8 :: s9 :: .own v :: l) P ↔ P v (s0 :: s1 :: s2 :: s3 :: s4 :: s5 :: s6 :: s7 :: s8 :: s9 :: .dat v :: l) := Iff.rfl
theorem vD_11 {s0 s1 s2 s3 s4 s5 s6 s7 s8 s9 s10 : Slot} : Ok (mVar 11) (s0 :: s1 :: s2 :: s3 :: s4 :: s5 :: s6 :: s7 :: s8 :: s9 :: s10 :: .dat v :: l) Q ↔ Q (.dat v) (s0 :: s1 :: s2 :: s3 :: s4 :: s5 :: s6 :: s7 :: s8 :: s9 :: s10 :: .dat v :: l) := Iff.rfl
theorem vO_11 {s0 s1 s2 s3 s4 s5 s6 s7 s8 s9 s10 : Slot} : Ok (mVar 11) (s0 :: s1 :: s2 :: s3 :: s4 :: s5 :: s6 :: s7 :: s8 :: s9 :: s10 :: .own v :: l) Q ↔ Q (.bor 11) (s0 :: s1 :: s2 :: s3 :: s4 :: s5 :: s6 :: s7 :: s8 :: s9 :: s10 :: .own v :: l) := Iff.rfl
theorem rD_11 {s0 s1 s2 s3 s4 s5 s6 s7 s8 s9 s10 : Slot} : Ok (M.rd (.bor 11)) (s0 :: s1 :: s2 :: s3 :: s4 :: s5 :: s6 :: s7 :: s8 :: s9 :: s10 :: .dat v :: l) P ↔ P v (s0 :: s1 :: s2 :: s3 :: s4 :: s5 :: s6 :: s7 :: s8 :: s9 :: s10 :: .dat v :: l) := Iff.rfl
theorem rO_11 {s0 s1 s2 s3 s4 s5 s6 s7 s8 s9 s10 : Slot} : Ok (M.rd (.bor 11)) (s0 :: s1 :: s2 :: s3 :: s4 :: s5 :: s6 :: s7 :: s8 :: s9 :: s10 :: .own v :: l) P ↔ P v (s0 :: s1 :: s2 :: s3 :: s4 :: s5 :: s6 :: s7 :: s8 :: s9 :: s10 :: .own v :: l) := Iff.rfl
theorem kD_11 {s0 s1 s2 s3 s4 s5 s6 s7 s8 s9 s10 : Slot} : Ok (M.dt (.bor 11)) (s0 :: s1 :: s2 :: s3 :: s4 :: s5 :: s6 :: s7 :: s8 :: s9 :: s10 :: .dat v :: l) P ↔ P v (s0 :: s1 :: s2 :: s3 :: s4 :: s5 :: s6 :: s7 :: s8 :: s9 :: s10 :: .dat v :: l) := Iff.rfl
theorem kO_11 {s0 s1 s2 s3 s4 s5 s6 s7 s8 s9 s10 : Slot} : Ok (M.dt (.bor 11)) (s0 :: s1 :: s2 :: s3 :: s4 :: s5 :: s6 :: s7 :: s8 :: s9 :: s10 :: .own v :: l) P ↔ P v (s0 :: s1 :: s2 :: s3 :: s4 :: s5 :: s6 :: s7 :: s8 :: s9 :: s10 :: .dat v :: l) := Iff.rfl
theorem vD_12 {s0 s1 s2 s3 s4 s5 s6 s7 s8 s9 s10 s11 : Slot} : Ok (mVar 12) (s0 :: s1 :: s2 :: s3 :: s4 :: s5 :: s6 :: s7 :: s8 :: s9 :: s10 :: s11 :: .dat v :: l) Q ↔ Q (.dat v) (s0 :: s1 :: s2 :: s3 :: s4 :: s5 :: s6 :: s7 :: s8 :: s9 :: s10 :: s11 :: .dat v :: l) := Iff.rfl
theorem vO_12 {s0 s1 s2 s3 s4 s5 s6 s7 s8 s9 s10 s11 : Slot} : Ok (mVar 12) (s0 :: s1 :: s2 :: s3 :: s4 :: s5 :: s6 :: s7 :: s8 :: s9 :: s10 :: s11 :: .own v :: l) Q ↔ Q (.bor 12) (s0 :: s1 :: s2 :: s3 :: s4 :: s5 :: s6 :: s7 :: s8 :: s9 :: s10 :: s11 :: .own v :: l) := Iff.rfl
theorem rD_12 {s0 s1 s2 s3 s4 s5 s6 s7 s8 s9 s10 s11 : Slot} : Ok (M.rd (.bor 12)) (s0 :: s1 :: s2 :: s3 :: s4 :: s5 :: s6 :: s7 :: s8 :: s9 :: s10 :: s11 :: .dat v :: l) P ↔ P v (s0 :: s1 :: s2 :: s3 :: s4 :: s5 :: s6 :: s7 :: s8 :: s9 :: s10 :: s11 :: .dat v :: l) := Iff.rfl
theorem rO_12 {s0 s1 s2 s3 s4 s5 s6 s7 s8 s9 s10 s11 : Slot} : Ok (M.rd (.bor 12)) (s0 :: s1 :: s2 :: s3 :: s4 :: s5 :: s6 :: s7 :: s8 :: s9 :: s10 :: s11 :: .own v :: l) P ↔ P v (s0 :: s1 :: s2 :: s3 :: s4 :: s5 :: s6 :: s7 :: s8 :: s9 :: s10 :: s11 :: .own v :: l) := Iff.rfl
theorem kD_12 {s0 s1 s2 s3 s4 s5 s6 s7 s8 s9 s10 s11 : Slot} : Ok (M.dt (.bor 12)) (s0 :: s1 :: s2 :: s3 :: s4 :: s5 :: s6 :: s7 :: s8 :: s9 :: s10 :: s11 :: .dat v :: l) P ↔ P v (s0 :: s1 :: s2 :: s3 :: s4 :: s5 :: s6 :: s7 :: s8 :: s9 :: s10 :: s11 :: .dat v :: l) := Iff.rfl
theorem kO_12 {s0 s1 s2 s3 s4 s5 s6 s7 s8 s9 s10 s11 : Slot} : Ok (M.dt (.bor 12)) (s0 :: s1 :: s2 :: s3 :: s4 :: s5 :: s6 :: s7 :: s8 :: s9 :: s10 :: s11 :: .own v :: l) P ↔ P v (s0 :: s1 :: s2 :: s3 :: s4 :: s5 :: s6 :: s7 :: s8 :: s9 :: s10 :: s11 :: .dat v :: l) := Iff.rfl
theorem vD_13 {s0 s1 s2 s3 s4 s5 s6 s7 s8 s9 s10 s11 s12 : Slot} : Ok (mVar 13) (s0 :: s1 :: s2 :: s3 :: s4 :: s5 :: s6 :: s7 :: s8 :: s9 :: s10 :: s11 :: s12 :: .dat v :: l) Q ↔ Q (.dat v) (s0 :: s1 :: s2 :: s3 :: s4 :: s5 :: s6 :: s7 :: s8 :: s9 :: s10 :: s11 :: s12 :: .dat v :: l) := Iff.rfl
theorem vO_13 {s0 s1 s2 s3 s4 s5 s6 s7 s8 s9 s10 s11 s12 : Slot} : Ok (mVar 13) (s0 :: s1 :: s2 :: s3 :: s4 :: s5 :: s6 :: s7 :: s8 :: s9 :: s10 :: s11 :: s12 :: .own v :: l) Q ↔ Q (.bor 13) (s0 :: s1 :: s2 :: s3 :: s4 :: s5 :: s6 :: s7 :: s8 :: s9 :: s10 :: s11 :: s12 :: .own v :: l) := Iff.rfl
theorem rD_13 {s0 s1 s2 s3 s4 s5 s6 s7 s8 s9 s10 s11 s12 : Slot} : Ok (M.rd (.bor 13)) (s0 :: s1 :: s2 :: s3 :: s4 :: s5 :: s6 :: s7 :: s8 :: s9 :: s10 :: s11 :: s12 :: .dat v :: l) P ↔ P v (s0 :: s1 :: s2 :: s3 :: s4 :: s5 :: s6 :: s7 :: s8 :: s9 :: s10 :: s11 :: s12 :: .dat v :: l) := Iff.rfl
theorem rO_13 {s0 s1 s2 s3 s4 s5 s6 s7 s8 s9 s10 s11 s12 : Slot} : Ok (M.rd (.bor 13)) (s0 :: s1 :: s2 :: s3 :: s4 :: s5 :: s6 :: s7 :: s8 :: s9 :: s10 :: s11 :: s12 :: .own v :: l) P ↔ P v (s0 :: s1 :: s2 :: s3 :: s4 :: s5 :: s6 :: s7 :: s8 :: s9 :: s10 :: s11 :: s12 :: .own v :: l) := Iff.rfl
theorem kD_13 {s0 s1 s2 s3 s4 s5 s6 s7 s8 s9 s10 s11 s12 : Slot} : Ok (M.dt (.bor 13)) (s0 :: s1 :: s2 :: s3 :: s4 :: s5 :: s6 :: s7 :: s8 :: s9 :: s10 :: s11 :: s12 :: .dat v :: l) P ↔ P v (s0 :: s1 :: s2 :: s3 :: s4 :: s5 :: s6 :: s7 :: s8 :: s9 :: s10 :: s11 :: s12 :: .dat v :: l) := Iff.rfl
theorem kO_13 {s0 s1 s2 s3 s4 s5 s6 s7 s8 s9 s10 s11 s12 : Slot} : Ok (M.dt (.bor 13)) (s0 :: s1 :: s2 :: s3 :: s4 :: s5 :: s6 :: s7 :: s8 :: s9 :: s10 :: s11 :: s12 :: .own v :: l) P ↔ P v (s0 :: s1 :: s2 :: s3 :: s4 :: s5 :: s6 :: s7 :: s8 :: s9 :: s10 :: s11 :: s12 :: .dat v :: l) := Iff.rfl
theorem vD_14 {s0 s1 s2 s3 s4 s5 s6 s7 s8 s9 s10 s11 s12 s13 : Slot} : Ok (mVar 14) (s0 :: s1 :: s2 :: s3 :: s4 :: s5 :: s6 :: s7 :: s8 :: s9 :: s10 :: s11 :: s12 :: s13 :: .dat v :: l) Q ↔ Q (.dat v) (s0 :: s1 :: s2 :: s3 :: s4 :: s5 :: s6 :: s7 :: s8 :: s9 :: s10 :: s11 :: s12 :: s13 :: .dat v :: l) := Iff.rfl
theorem vO_14 {s0 s1 s2 s3 s4 s5 s6 s7 s8 s9 s10 s11 s12 s13 : Slot} : Ok (mVar 14) (s0 :: s1 :: s2 :: s3 :: s4 :: s5 :: s6 :: s7 :: s8 :: s9 :: s10 :: s11 :: s12 :: s13 :: .own v :: l) Q ↔ Q (.bor 14) (s0 :: s1 :: s2 :: s3 :: s4 :: s5 :: s6 :: s7 :: s8 :: s9 :: s10 :: s11 :: s12 :: s13 :: .own v :: l) := Iff.rfl
theorem rD_14 {s0 s1 s2 s3 s4 s5 s6 s7 s8 s9 s10 s11 s12 s13 : Slot} : Ok (M.rd (.bor 14)) (s0 :: s1 :: s2 :: s3 :: s4 :: s5 :: s6 :: s7 :: s8 :: s9 :: s10 :: s11 :: s12 :: s13 :: .dat v :: l) P ↔ P v (s0 :: s1 :: s2 :: s3 :: s4 :: s5 :: s6 :: s7 :: s8 :: s9 :: s10 :: s11 :: s12 :: s13 :: .dat v :: l) := Iff.rfl
theorem rO_14 {s0 s1 s2 s3 s4 s5 s6 s7 s8 s9 s10 s11 s12 s13 : Slot} : Ok (M.rd (.bor 14)) (s0 :: s1 :: s2 :: s3 :: s4 :: s5 :: s6 :: s7 :: s8 :: s9 :: s10 :: s11 :: s12 :: s13 :: .own v :: l) P ↔ P v (s0 :: s1 :: s2 :: s3 :: s4 :: s5 :: s6 :: s7 :: s8 :: s9 :: s10 :: s11 :: s12 :: s13 :: .own v :: l) := Iff.rfl
theorem kD_14 {s0 s1 s2 s3 s4 s5 s6 s7 s8 s9 s10 s11 s12 s13 : Slot} : Ok (M.dt (.bor 14)) (s0 :: s1 :: s2 :: s3 :: s4 :: s5 :: s6 :: s7 :: s8 :: s9 :: s10 :: s11 :: s12 :: s13 :: .dat v :: l) P ↔ P v (s0 :: s1 :: s2 :: s3 :: s4 :: s5 :: s6 :: s7 :: s8 :: s9 :: s10 :: s11 :: s12 :: s13 :: .dat v :: l) := Iff.rfl
theorem kO_14 {s0 s1 s2 s3 s4 s5 s6 s7 s8 s9 s10 s11 s12 s13 : Slot} : Ok (M.dt (.bor 14)) (s0 :: s1 :: s2 :: s3 :: s4 :: s5 :: s6 :: s7 :: s8 :: s9 :: s10 :: s11 :: s12 :: s13 :: .own v :: l) P ↔ P v (s0 :: s1 :: s2 :: s3 :: s4 :: s5 :: s6 :: s7 :: s8 :: s9 :: s10 :: s11 :: s12 :: s13 :: .dat v :: l) := Iff.rfl
theorem vD_15 {s0 s1 s2 s3 s4 s5 s6 s7 s8 s9 s10 s11 s12 s13 s14 : Slot} : Ok (mVar 15) (s0 :: s1 :: s2 :: s3 :: s4 :: s5 :: s6 :: s7 :: s8 :: s9 :: s10 :: s11 :: s12 :: s13 :: s14 :: .dat v :: l) Q ↔ Q (.dat v) (s0 :: s1 :: s2 :: s3 :: s4 :: s5 :: s6 :: s7 :: s8 :: s9 :: s10 :: s11 :: s12 :: s13 :: s14 :: .dat v :: l) := Iff.rfl
theorem vO_15 {s0 s1 s2 s3 s4 s5 s6 s7 s8 s9 s10 s11 s12 s13 s14 : Slot} : Ok (mVar 15) (s0 :: s1 :: s2 :: s3 :: s4 :: s5 :: s6 :: s7 :: s8 :: s9 :: s10 :: s11 :: s12 :: s13 :: s14 :: .own v :: l) Q ↔ Q (.bor 15) (s0 :: s1 :: s2 :: s3 :: s4 :: s5 :: s6 :: s7 :: s8 :: s9 :: s10 :: s11 :: s12 :: s13 :: s14 :: .own v :: l) := Iff.rfl
theorem rD_15 {s0 s1 s2 s3 s4 s5 s6 s7 s8 s9 s10 s11 s12 s13 s14 : Slot} : Ok (M.rd (.bor 15)) (s0 :: s1 :: s2 :: s3 :: s4 :: s5 :: s6 :: s7 :: s8 :: s9 :: s10 :: s11 :: s12 :: s13 :: s14 :: .dat v :: l) P ↔ P v (s0 :: s1 :: s2 :: s3 :: s4 :: s5 :: s6 :: s7 :: s8 :: s9 :: s10 :: s11 :: s12 :: s13 :: s14 :: .dat v :: l) := Iff.rfl
theorem rO_15 {s0 s1 s2 s3 s4 s5 s6 s7 s8 s9 s10 s11 s12 s13 s14 : Slot} : Ok (M.rd (.bor 15)) (s0 :: s1 :: s2 :: s3 :: s4 :: s5 :: s6 :: s7 :: s8 :: s9 :: s10 :: s11 :: s12 :: s13 :: s14 :: .own v :: l) P ↔ P v (s0 :: s1 :: s2 :: s3 :: s4 :: s5 :: s6 :: s7 :: s8 :: s9 :: s10 :: s11 :: s12 :: s13 :: s14 :: .own v :: l) := Iff.rfl
theorem kD_15 {s0 s1 s2 s3 s4 s5 s6 s7 s8 s9 s10 s11 s12 s13 s14 : Slot} : Ok (M.dt (.bor 15)) (s0 :: s1 :: s2 :: s3 :: s4 :: s5 :: s6 :: s7 :: s8 :: s9 :: s10 :: s11 :: s12 :: s13 :: s14 :: .dat v :: l) P ↔ P v (s0 :: s1 :: s2 :: s3 :: s4 :: s5 :: s6 :: s7 :: s8 :: s9 :: s10 :: s11 :: s12 :: s13 :: s14 :: .dat v :: l) := Iff.rfl
theorem kO_15 {s0 s1 s2 s3 s4 s5 s6 s7 s8 s9 s10 s11 s12 s13 s14 : Slot} : Ok (M.dt (.bor 15)) (s0 :: s1 :: s2 :: s3 :: s4 :: s5 :: s6 :: s7 :: s8 :: s9 :: s10 :: s11 :: s12 :: s13 :: s14 :: .own v :: l) P ↔ P v (s0 :: s1 :: s2 :: s3 :: s4 :: s5 :: s6 :: s7 :: s8 :: s9 :: s10 :: s11 :: s12 :: s13 :: s14 :: .dat v :: l) := Iff.rfl
end
theorem cMul_r {i j : Int} (h1 : -18446744073709551616 < j) (h2 : j < 18446744073709551616) : cMul i j ↔ True := ⟨fun _ => trivial, fun _ => .inr (.inl ⟨h1, h2⟩)⟩
theorem cMul_l {i j : Int} (h1 : -18446744073709551616 < i) (h2 : i < 18446744073709551616) : cMul i j ↔ True := ⟨fun _ => trivial, fun _ => .inl ⟨h1, h2⟩⟩
theorem strq {a b : String} : (Str.ofString a = Str.ofString b) ↔ a = b := by
  refine ⟨fun h => ?_, fun h => by rw [h]⟩
  rw [Str.ofString_eq_toList, Str.ofString_eq_toList] at h
  have h2 : (a.toList.map Char.toNat).toArray = (b.toList.map Char.toNat).toArray := congrArg Str.cps h
  have h3 : a.toList.map Char.toNat = b.toList.map Char.toNat := by simpa using h2
  have inj : ∀ x y : Char, x.toNat = y.toNat → x = y := fun x y q => Char.ext (UInt32.toNat_inj.mp q)
  have h4 : ∀ {l m : List Char}, l.map Char.toNat = m.map Char.toNat → l = m := fun {l} => by
    induction l with
    | nil => intro m q; cases m <;> simp_all
    | cons c l ih =>
      intro m q
      cases m with
      | nil => simp at q
      | cons d m =>
        simp only [List.map_cons, List.cons.injEq] at q
        rw [inj c d q.1, ih q.2]
  exact String.toList_inj.mp (h4 h3)
theorem sz {n : Nat} (h : n ≤ 1000) : (n ≤ sizeLine) ↔ True := ⟨fun _ => trivial, fun _ => by rw [sizeLine_eq]; omega⟩
theorem szl {n : Nat} (h : n ≤ 1000) : (n < sizeLine) ↔ True := ⟨fun _ => trivial, fun _ => by rw [sizeLine_eq]; omega⟩
theorem dOk_int {i : Int} : dOk (.int i) = true ↔ True := ⟨fun _ => trivial, fun _ => rfl⟩
theorem dOk_bl {i : Bool} : dOk (.bl i) = true ↔ True := ⟨fun _ => trivial, fun _ => rfl⟩
theorem dOk_non : dOk .non = true ↔ True := ⟨fun _ => trivial, fun _ => rfl⟩
theorem veq_int {i j : Int} : veq (.int i) (.int j) = decide (i = j) := by
  first
    | rfl
    | (unfold veq; simp [toP, PyData.eqv])
theorem veq_str {a b : Str} : veq (.str a) (.str b) = decide (a = b) := by
  first
    | rfl
    | (unfold veq; simp [toP, PyData.eqv])
theorem ok_len {xs : List Val} : Ok (fLen [.lst xs]) e Q ↔ Q (.dat (.int xs.length)) e := Iff.rfl
theorem ok_lenT {xs : List Val} : Ok (fLen [.tup xs]) e Q ↔ Q (.dat (.int xs.length)) e := Iff.rfl
theorem ok_absI {i : Int} : Ok (fAbs [.int i]) e Q ↔ Q (.dat (.int (if i < 0 then -i else i))) e := Iff.rfl
theorem ok_intI {i : Int} : Ok (fInt [.int i]) e Q ↔ Q (.dat (.int i)) e := Iff.rfl
theorem ok_max2 {i j : Int} : Ok (fMax2 [.int i, .int j]) e Q ↔ Q (.dat (.int (if j > i then j else i))) e := Iff.rfl
theorem ok_min2 {i j : Int} : Ok (fMin2 [.int i, .int j]) e Q ↔ Q (.dat (.int (if j < i then j else i))) e := Iff.rfl
theorem ok_gTL {n : Nat} {ms : List Val → M Unit} {xs : List Val} {Q : Unit → Ev → Prop} : Ok (gT n ms (.lst xs)) e Q ↔ xs.length = n ∧ Ok (ms xs) e Q := by
  show Ok (if xs.length = n then ms xs else M.bad) e Q ↔ _
  by_cases h : xs.length = n
  · rw [if_pos h]; exact ⟨fun z => ⟨h, z⟩, fun z => z.2⟩
  · rw [if_neg h]; exact ⟨fun z => (ok_bad.mp z).elim, fun z => absurd z.1 h⟩
theorem ok_repr {v : Val} : Ok (fRepr [v]) e Q ↔ rOk v = true ∧ Q (.dat (.str (shownV v))) e := by
  show Ok (if rOk v = true then _ else _) e Q ↔ _
  by_cases h : rOk v = true
  · rw [if_pos h]; exact ⟨fun z => ⟨h, z⟩, fun z => z.2⟩
  · rw [if_neg h]; exact ⟨fun z => z.elim, fun z => h z.1⟩
theorem ok_all {bs : List Bool} : Ok (fAll [.lst (bs.map .bl)]) e Q ↔ Q (.dat (.bl (bs.all id))) e := by
  have h : bls? (bs.map Val.bl) = some bs := by
    induction bs with
    | nil => rfl
    | cons b bs ih => simp [bls?, ih]
  show Ok (match bls? (bs.map Val.bl) with
    | some bs => mV (.bl (bs.all id))
    | _ => M.bad) e Q ↔ _
  rw [h]
  exact Iff.rfl
theorem trues {rs : List Val} (h : ∀ r ∈ rs, r = .bl true) : rs = (List.replicate rs.length true).map .bl := by
  induction rs with
  | nil => rfl
  | cons r rs ih =>
    rw [h r (List.mem_cons_self ..), List.length_cons, List.replicate_succ, List.map_cons, ← ih fun r hr => h r (List.mem_cons_of_mem _ hr)]
theorem ok_allT {rs : List Val} (h : ∀ r ∈ rs, r = .bl true) : Ok (fAll [.lst rs]) e Q ↔ Q (.dat (.bl true)) e := by
  have h2 := trues h
  rw [h2, ok_all]
  have h3 : ∀ n : Nat, (List.replicate n true).all id = true := fun n => by induction n with
    | zero => rfl
    | succ n ih => rw [List.replicate_succ, List.all_cons, ih]; rfl
  rw [h3]
theorem veqs_self : ∀ (xs : List Val), (∀ x ∈ xs, veq x x = true) → PyData.eqvAll (toPs xs) (toPs xs) = true
  | [], _ => by first | rfl | simp [toPs, PyData.eqvAll]
  | x :: xs, h => by
    have h1 := h x (List.mem_cons_self ..)
    have h2 := veqs_self xs fun y hy => h y (List.mem_cons_of_mem _ hy)
    unfold veq at h1
    simp [toPs, PyData.eqvAll, h1, h2]
theorem veq_lst {xs : List Val} (h : ∀ x ∈ xs, veq x x = true) : veq (.lst xs) (.lst xs) = true := by
  unfold veq
  simp [toP, PyData.eqv, veqs_self xs h]
theorem veq_tup {xs : List Val} (h : ∀ x ∈ xs, veq x x = true) : veq (.tup xs) (.tup xs) = true := by
  unfold veq
  simp [toP, PyData.eqv, veqs_self xs h]
end Pu
set_option Elab.async false
set_option linter.all false
set_option maxRecDepth 100000
namespace Pu
open PySem PySem.Spec PyProof.Rows L2
def rDm : List V → Hp → VK → Prop := fun xs H Q => ∃ i j, xs = [.int i, .int j] ∧ CDivW i j ∧ ∀ p, H p = none → Q (.ref p) (upd H p (.tup [.int (i / j), .int (i % j)]))
theorem c_dm {X : Cx} : CallR X (.builtin "divmod") rDm := by
  rintro pins s σ H xs us Q I r ⟨i, j, rfl, hc, q⟩
  obtain ⟨u, w, rfl, ⟨t, rfl⟩, ⟨t', rfl⟩⟩ := vals2 r
  have pos : (0 : Int) < j := hc.1
  refine divmod_int (by omega) ?_ (.inl (PyProof.noPylong_of_log2 hc.2))
  rw [Int.fdiv_eq_ediv_of_nonneg i (by omega), Int.fmod_eq_emod_of_nonneg i (by omega)]
  have new : H s.heap.objs.size = none := I.hok.fresh (Nat.le_refl _)
  refine ⟨.ref s.heap.objs.size, _, I.laid (fun b o e => Heap.get?_push_of_some _ e) (Nat.le_refl _) ?_, rfl, q _ new⟩
  refine ⟨by rw [sizeLine_eq]; show 2 ≤ 16777216; decide, [.int (i / j) s.toks, .int (i % j) (s.toks + 1)], .cons ⟨_, rfl⟩ (.cons ⟨_, rfl⟩ .nil), _, Heap.get?_push_size s.heap rfl, rfl, 0, rfl⟩
def fDm (vs : List Val) : M RV := match vs with
  | [.int i, .int j] => if cDiv i j then mV (.tup [.int (i / j), .int (i % j)]) else M.bad
  | _ => M.bad
theorem v_dm {K : PySem.W.Frag} {W : WX} : FnV K W fDm rDm := by
  intro B F H e σ vs us Q C r h
  unfold fDm at h
  split at h
  · rename_i i j
    obtain ⟨u, z, rfl, r1, r2⟩ := r.two
    by_cases hc : cDiv i j
    · rw [if_pos hc] at h
      refine ⟨i, j, by rw [r1.int, r2.int], divD hc, fun p hp => ?_⟩
      obtain ⟨C3, s3, e3⟩ := C.growF (o := .tup [.int (i / j), .int (i % j)]) hp
      exact h.ok rfl C3 (VR.tup (SqT.of e3) (.cons (.int _) (.cons (.int _) .nil)))
    · rw [if_neg hc] at h
      exact h.elim
  · exact h.elim
theorem ok_dm {e : Ev} {Q : RV → Ev → Prop} {i j : Int} : Ok (fDm [.int i, .int j]) e Q ↔ cDiv i j ∧ Q (.dat (.tup [.int (i / j), .int (i % j)])) e := by
  show Ok (if cDiv i j then _ else M.bad) e Q ↔ _
  by_cases h : cDiv i j
  · rw [if_pos h]; exact ⟨fun z => ⟨h, z⟩, fun z => z.2⟩
  · rw [if_neg h]; exact ⟨fun z => z.elim, fun z => h z.1⟩
def fMax3 (vs : List Val) : M RV := match vs with
  | [.int a, .int b, .int c] => mV (.int (if (if a < b then b else a) < c then c else (if a < b then b else a)))
  | _ => M.bad
theorem v_max3 {K : PySem.W.Frag} {W : WX} : FnV K W fMax3 (rNuC3 nuMax3) := by
  intro B F H e σ vs us Q C r h
  unfold fMax3 at h
  split at h
  · rename_i a b c
    cases r with
    | cons r1 r =>
      obtain ⟨y, z, rfl, r2, r3⟩ := r.two
      refine ⟨.int a, .int b, .int c, .int (if (if a < b then b else a) < c then c else (if a < b then b else a)), by rw [r1.int, r2.int, r3.int], ?_, h.ok rfl C (VR.int _)⟩
      have two : ∀ i j : Int, nuMax2 (.int i) (.int j) = some (.int (if i < j then j else i)) := fun i j => by
        show (some (decide (i < j))).map _ = _
        by_cases h : i < j <;> simp [h]
      show (nuMax2 (.int a) (.int b)).bind _ = _
      rw [two]
      exact two _ c
  · exact h.elim
theorem ok_max3 {e : Ev} {Q : RV → Ev → Prop} {a b c : Int} : Ok (fMax3 [.int a, .int b, .int c]) e Q ↔ Q (.dat (.int (if (if a < b then b else a) < c then c else (if a < b then b else a)))) e := Iff.rfl
def fMin3 (vs : List Val) : M RV := match vs with
  | [.int a, .int b, .int c] => mV (.int (if c < (if b < a then b else a) then c else (if b < a then b else a)))
  | _ => M.bad
theorem v_min3 {K : PySem.W.Frag} {W : WX} : FnV K W fMin3 (rNuC3 nuMin3) := by
  intro B F H e σ vs us Q C r h
  unfold fMin3 at h
  split at h
  · rename_i a b c
    cases r with
    | cons r1 r =>
      obtain ⟨y, z, rfl, r2, r3⟩ := r.two
      refine ⟨.int a, .int b, .int c, .int (if c < (if b < a then b else a) then c else (if b < a then b else a)), by rw [r1.int, r2.int, r3.int], ?_, h.ok rfl C (VR.int _)⟩
      have two : ∀ i j : Int, nuMin2 (.int i) (.int j) = some (.int (if j < i then j else i)) := fun i j => by
        show (some (decide (j < i))).map _ = _
        by_cases h : j < i <;> simp [h]
      show (nuMin2 (.int a) (.int b)).bind _ = _
      rw [two]
      exact two _ c
  · exact h.elim
theorem ok_min3 {e : Ev} {Q : RV → Ev → Prop} {a b c : Int} : Ok (fMin3 [.int a, .int b, .int c]) e Q ↔ Q (.dat (.int (if c < (if b < a then b else a) then c else (if b < a then b else a)))) e := Iff.rfl
end Pu
set_option Elab.async false
set_option linter.all false
set_option maxRecDepth 100000
set_option maxHeartbeats 2000000
namespace Pu
open PySem PySem.Spec PyProof.Rows L2
theorem newEnum {v : Value} {ob : Obj} {H : Heap → Prop} (B : Begins v ob H) :
    Meets (Builtin.«enumerate.__new__» ⟨[.type "enumerate", v], []⟩) (fun _ R s => H s.heap ∧
      R (.ok (.ret (.ref (s.heap.push ob).objs.size))) { s with heap := (s.heap.push ob).push { cls := .type "enumerate", data := .fields #[.none, .bool false, .ref s.heap.objs.size, rawInt 0, .none, .none] } }) :=
  .of_wp fun P w A R s both => by
    obtain ⟨hp, g, d, tk, os⟩ := s
    obtain ⟨here, wish⟩ := both
    have sub := sub_enumerate
    have begin_ : ∀ {A' : Around} {E : Value → Shared → Prop} {Q : Value → Shared → Prop}, Q (.ref hp.objs.size) ⟨hp.push ob, g, d, tk, os⟩ → wpAny (model P w) A' (pyIter v) Q E ⟨hp, g, d, tk, os⟩ :=
      fun {A' E Q} q => B.iter P w A' E ⟨hp, g, d, tk, os⟩ Q here q
    wp_walk using begin_
    refine wpAny_stack_any fun st => wpAny_pure ?_
    split
    · rename_i c _ _ _ _ _
      cases (c == Value.type "enumerate") <;> (wp_walk using begin_; exact ⟨_, rfl, wish⟩)
    · wp_walk using begin_
      exact ⟨_, rfl, wish⟩
section
variable {P : Program} {w : World} {A : Around} {E : Value → Shared → Prop} {s : Shared}
theorem callEnum {v : Value} {ob : Obj} {H : Heap → Prop} {Q : Value → Shared → Prop} (B : Begins v ob H) (here : H s.heap)
    (k : ∀ h', IsEnum h' (s.heap.objs.size + 1) s.heap.objs.size 0 .none → h'.get? s.heap.objs.size = some ob → h'.objs.size = s.heap.objs.size + 2 →
      (∀ b o, s.heap.get? b = some o → h'.get? b = some o) → Q (.ref (s.heap.objs.size + 1)) { s with heap := h' }) :
    wpAny (model P w) A (call (.type "enumerate") [v]) Q E s := by
  have size1 : (s.heap.push ob).objs.size = s.heap.objs.size + 1 := Heap.size_push ..
  refine callType_new F.called_enumerate (by decide) (F.typeCall_enumerate_1 _) (F.newCall_enumerate_1 _) (fun obj => F.args_object_init_2 obj _) F.entry_enumerate_new (newEnum B) ⟨here, ?_⟩
  have top_ := Heap.get?_push_size (s.heap.push ob) (o := { cls := .type "enumerate", data := .fields #[.none, .bool false, .ref s.heap.objs.size, rawInt 0, .none, .none] }) rfl
  show _ ∧ _
  rw [size1] at top_ ⊢
  exact ⟨⟨_, top_, rfl⟩, k _ top_ (Heap.get?_push_of_some _ (Heap.get?_push_size _ B.free)) (by rw [Heap.size_push, size1]) fun b o x => Heap.get?_push_of_some _ (Heap.get?_push_of_some _ x)⟩
end
def SqB (K : PySem.W.Frag) : Bool → Hp → Addr → List V → Prop
  | true, H, a, xs => SqL K H a xs
  | false, H, a, xs => SqT K H a xs
def StB : Bool → Heap → Addr → Array Value → Prop
  | true, h, a, vs => h.IsList a vs
  | false, h, a, vs => h.IsTuple a vs
def itObj : Bool → Addr → Obj
  | true, a => { cls := .type "list_iterator", data := .fields #[.ref a, .int 0 0] }
  | false, a => { cls := .type "tuple_iterator", data := .fields #[.ref a, .int 0 0] }
theorem begB (b : Bool) (a : Addr) (vs : Array Value) : Begins (.ref a) (itObj b a) fun h => StB b h a vs := by
  cases b
  · exact begins_tuple a vs
  · exact begins_list a vs
theorem itB_new {b : Bool} {h : Heap} {it a : Addr} (e : h.get? it = some (itObj b a)) : ItB b h it a 0 := by
  cases b <;> exact ⟨_, e, rfl, rfl⟩
theorem ItB.lt {b : Bool} {h : Heap} {it a : Addr} {i : Nat} (x : ItB b h it a i) : it < h.objs.size := by
  obtain ⟨o, ho, _⟩ := x.obj
  exact Heap.lt_size ho
theorem StB.lt {b : Bool} {h : Heap} {a : Addr} {vs : Array Value} (x : StB b h a vs) : a < h.objs.size := by
  cases b <;> (obtain ⟨o, ho, _⟩ := x; exact Heap.lt_size ho)
section
variable {X : Cx} {pins : List (Addr × Obj)} {σ : Sig} {H : Hp} {s : Shared} {a : Addr} {xs ys : List V} {b : Bool}
theorem sqB_at (I : Inv X pins σ H s) (h : SqB X.K b H a xs) : ∃ its : List Value, Vals xs its ∧ StB b s.heap a its.toArray := by
  cases b
  · obtain ⟨its, r, p, _⟩ := I.tuple h
    exact ⟨its, r, p⟩
  · obtain ⟨its, r, p, _⟩ := I.list h
    exact ⟨its, r, p.isList⟩
theorem sqB_inj (I : Inv X pins σ H s) (h : SqB X.K b H a xs) (h' : SqB X.K b H a ys) : xs = ys := by
  cases b
  · exact I.tuple_inj h h'
  · exact I.list_inj h h'
end
theorem drawB {P : Program} {w : World} {A : Around} (b : Bool) (hh : A.handled = none) (it a : Addr) (ne : a ≠ it) (vs : Array Value) :
    Draws P w A it [it, a] vs.size (fun i v => vs[i]? = some v) (fun i h => ItB b h it a i ∧ StB b h a vs) := by
  cases b
  · exact Draws.tuple hh it a ne vs
  · exact Draws.list hh it a ne vs
def ItE (K : PySem.W.Frag) (b : Bool) (a : Addr) : It :=
  ⟨fun i H => ∃ (xs : List V) (x : V), SqB K b H a xs ∧ xs[i]? = some x, fun i H v H' => ∃ T x, v = .ref T ∧ H T = none ∧ H' = upd H T (.tup [.int (i : Nat), x]) ∧ ∀ xs, SqB K b H a xs → xs[i]? = some x, fun i H => ∃ xs : List V, SqB K b H a xs ∧ xs.length = i⟩
theorem turnE {P : Program} {w : World} {K : PySem.W.Frag} {elts : List Expr} {kk : Nat} {tpos : Pos} {b : Bool} {a e it : Addr} (ne1 : a ≠ it) (ne2 : e ≠ a) :
    Turn P w K (.Tuple elts kk tpos) (ItE K b a) [e, it] e (fun i h => (∃ old, IsEnum h e it ((i : Nat) : Int) old) ∧ ItB b h it a i ∧ e ≠ it) where
  mem := List.mem_cons_self ..
  obj := fun i h st c hc => by
    obtain ⟨⟨old, he⟩, hi, _⟩ := st
    rcases List.mem_cons.mp hc with rfl | hc
    · exact ⟨_, he, fun v q => nomatch q⟩
    · obtain rfl := List.mem_singleton.mp hc
      exact hi.obj
  keep := fun i h h' st k => by
    obtain ⟨⟨old, he⟩, hi, hne⟩ := st
    exact ⟨⟨old, k e (by simp) _ he⟩, hi.at fun o q => k it (by simp) o q, hne⟩
  item := by
    intro X hP hw hK hc i pins s σ H E I hf st hg
    subst hP hw hK
    obtain ⟨⟨old, he⟩, hit, hne⟩ := st
    obtain ⟨xs, x, hq, hx⟩ := hg
    obtain ⟨its, rv, tp⟩ := sqB_at I hq
    obtain ⟨u, hu, ru⟩ := rv.get hx
    have below_e : e < s.heap.objs.size := Heap.lt_size he
    have below_i : it < s.heap.objs.size := hit.lt
    have il : i < its.toArray.size := by
      rw [List.size_toArray]
      exact (List.getElem?_eq_some_iff.mp hu).1
    refine wpAny_pyNext_enum_itemD (drawB b (show X.A.in1.handled = none from I.ok.hd hc) it a ne1 its.toArray) he ⟨hit, tp⟩ il hne (by simp [hne, ne2]) fun y h' tk hy ho st' hT hsz hk => ?_
    have ey : y = u := by
      have : its.toArray[i]? = some u := by simpa using hu
      rw [this] at hy
      exact (Option.some.inj hy).symm
    subst ey
    refine ⟨_, rfl, wpAny_letOwnedTupleGo_enum (s := { s with heap := h', toks := tk + 1 }) ho fun h'' he' sb => ?_⟩
    have hT2 : h''.get? s.heap.objs.size = some { cls := .type "tuple", data := .seq #[.int i tk, y] } := (sb.2 _ (Nat.ne_of_gt below_e)).trans hT
    have new : ObjOk X.prog X.w (upd H s.heap.objs.size (.tup [.int (i : Nat), x])) h'' s.heap.objs.size (.tup [.int (i : Nat), x]) :=
      ⟨by rw [sizeLine_eq]; show 2 ≤ 16777216; decide, [.int i tk, y], .cons ⟨_, rfl⟩ (.cons ru .nil), ⟨_, hT2, rfl, _, rfl⟩⟩
    have I1 : Inv X pins σ (upd H s.heap.objs.size (.tup [.int (i : Nat), x])) { s with heap := h'', toks := tk + 1 } :=
      I.turnedNew (ch := [e, it]) (fun c ob hb q => (sb.2 c (fun z => hb (by simp [z]))).trans (hk c ob (fun z => hb (by simp [z])) (fun z => hb (by simp [z])) q)) hf (Nat.le_refl _) new
    refine ⟨.ref s.heap.objs.size, _, I1, rfl, ⟨_, x, rfl, I.hok.fresh (Nat.le_refl _), rfl, fun ys hy2 => by rw [sqB_inj I hy2 hq]; exact hx⟩, ⟨⟨y, ?_⟩, st'.1.at fun o q => (sb.2 it (Ne.symm hne)).trans q, hne⟩, fun c hb => ?_⟩
    · rw [show ((i + 1 : Nat) : Int) = (i : Int) + 1 by omega]
      exact he'
    · have lt : c < s.heap.objs.size := by
        rcases List.mem_cons.mp hb with rfl | hb
        · exact below_e
        · obtain rfl := List.mem_singleton.mp hb
          exact below_i
      rw [upd_ne (Nat.ne_of_lt lt)]
      exact (hf c hb).1
  done := by
    intro X hP hw hK hc i pins s σ H E I hf st hg
    subst hP hw hK
    obtain ⟨⟨old, he⟩, hit, hne⟩ := st
    obtain ⟨xs, hq, hx⟩ := hg
    obtain ⟨its, rv, tp⟩ := sqB_at I hq
    obtain ⟨f0, f1, f2, f3, f4, f5⟩ := hf it (by simp)
    have hl := rv.length
    have hn : i = its.toArray.size := by rw [List.size_toArray]; omega
    exact wpAny_pyNext_enum_endD (drawB b (show X.A.in1.handled = none from I.ok.hd hc) it a ne1 its.toArray) he (hn ▸ ⟨hit, tp⟩) fun h' eb => ⟨rfl, I.turned (t' := s.toks) (fun c o hb q => eb c o hb q) f0 f1 f3 f4 f5⟩
  self := fun A i s Q E st h => by
    obtain ⟨⟨_, he⟩, _⟩ := st
    exact wpAny_pyIter_enum he h
def iEnumB (K : PySem.W.Frag) (ta : TA) : TI := fun σ H R => ta σ H fun vs H1 => ∃ a xs b, vs = [.ref a] ∧ SqB K b H1 a xs ∧ R (ItE K b a) H1
theorem pi_enumB {X : Cx} {e : Expr} {ta : TA} {p pos tpos : Pos} {elts : List Expr} {kk : Nat} (hg : Gl X "enumerate") (hm : X.mg "enumerate" = none) (ha : PA X [e] ta) (hs : starEach [e] X.env = [(false, eval e X.env)] := by rfl) :
    PI X (.Tuple elts kk tpos) (.Call (.Name "enumerate" p) [e] [] pos) (iEnumB X.K ta) := by
  refine ⟨fun pins s σ H R I h => ?_⟩
  refine Call_ (ld_blt I hg hm boot_enumerate (PyProof.Rows.callWith_type1 (thn (ha.run pos pins s σ H _ I h) fun us s1 ⟨vs, H1, I1, r1, q1⟩ => ?_) hs rfl))
  obtain ⟨a, xs, b, ex, hq, q⟩ := q1
  subst ex
  cases r1 with
  | cons r rr =>
    cases rr
    cases r
    obtain ⟨its, rv, st⟩ := sqB_at I1 hq
    have al := st.lt
    refine callEnum (begB b a its.toArray) st fun h' he hit hsz hk => wpAny_pyIter_enum he ?_
    have I2 : Inv X pins σ H1 { s1 with heap := h' } := I1.kept (t' := s1.toks) hk
    refine ⟨s1.heap.objs.size + 1, [s1.heap.objs.size + 1, s1.heap.objs.size], _, _, H1, rfl, I2, turnE (a := a) (Nat.ne_of_lt al) (Nat.ne_of_gt (Nat.lt_succ_of_lt al)), ⟨⟨.none, he⟩, itB_new hit, Nat.succ_ne_self _⟩, fun c hb => ?_, q⟩
    have e' : c = s1.heap.objs.size + 1 ∨ c = s1.heap.objs.size := by simpa using hb
    have hle : s1.heap.objs.size ≤ c := by
      rcases e' with z | z
      · rw [z]; exact Nat.le_add_right _ _
      · rw [z]; exact Nat.le_refl _
    exact I1.fpOk hle (I1.hok.fresh hle)
theorem walkE {K : PySem.W.Frag} {b : Bool} {a : Addr} {xs : List V} : L2.Walk (ItE K b a) xs.length (fun H => SqB K b H a xs) (YPair (fun i => some (.int (i : Nat))) (fun i => xs[i]?)) := by
  refine ⟨fun i _ hi q => ⟨xs, xs[i], q, by simp [hi]⟩, fun _ q => ⟨xs, q, rfl⟩, fun i H v H' _ q y => ?_⟩
  obtain ⟨T, x, h1, h2, h3, h4⟩ := y
  exact ⟨T, .int (i : Nat), x, h1, h2, h3, rfl, h4 xs q⟩
def ItZ (K : PySem.W.Frag) (b1 b2 : Bool) (a1 a2 : Addr) : It :=
  ⟨fun i H => ∃ (xs ys : List V) (x y : V), SqB K b1 H a1 xs ∧ SqB K b2 H a2 ys ∧ xs[i]? = some x ∧ ys[i]? = some y,
    fun i H v H' => ∃ T x y, v = .ref T ∧ H T = none ∧ H' = upd H T (.tup [x, y]) ∧ (∀ xs, SqB K b1 H a1 xs → xs[i]? = some x) ∧ ∀ ys, SqB K b2 H a2 ys → ys[i]? = some y,
    fun i H => ∃ xs ys : List V, SqB K b1 H a1 xs ∧ SqB K b2 H a2 ys ∧ i = min xs.length ys.length⟩
theorem turnZ {P : Program} {w : World} {K : PySem.W.Frag} {elts : List Expr} {kk : Nat} {tpos : Pos} {b1 b2 : Bool} {a1 a2 z TI TO i1 i2 : Addr} (D : ZipSep2 z TI TO i1 i2 [i1, a1] [i2, a2]) (n1 : a1 ≠ i1) (n2 : a2 ≠ i2) :
    Turn P w K (.Tuple elts kk tpos) (ItZ K b1 b2 a1 a2) [z, TI, TO, i1, i2] z (fun i h => IsZip h z TI TO .none ∧ IsTupOf2 h TI (.ref i1) (.ref i2) ∧ (∃ x y, IsTupOf2 h TO x y) ∧ ItB b1 h i1 a1 i ∧ ItB b2 h i2 a2 i) where
  mem := by simp
  obj := fun i h st c hc => by
    obtain ⟨hz, hTI, ⟨x, y, hTO⟩, h1, h2⟩ := st
    have e' : c = z ∨ c = TI ∨ c = TO ∨ c = i1 ∨ c = i2 := by simpa using hc
    rcases e' with q | q | q | q | q
    · rw [q]; exact ⟨_, hz, fun v q => nomatch q⟩
    · rw [q]; exact ⟨_, hTI, fun v q => nomatch q⟩
    · rw [q]; exact ⟨_, hTO, fun v q => nomatch q⟩
    · rw [q]; exact h1.obj
    · rw [q]; exact h2.obj
  keep := fun i h h' st k => by
    obtain ⟨hz, hTI, ⟨x, y, hTO⟩, h1, h2⟩ := st
    exact ⟨k z (by simp) _ hz, k TI (by simp) _ hTI, ⟨x, y, k TO (by simp) _ hTO⟩, h1.at fun o q => k i1 (by simp) o q, h2.at fun o q => k i2 (by simp) o q⟩
  item := by
    intro X hP hw hK hc i pins s σ H E I hf st hg
    subst hP hw hK
    obtain ⟨hz, hTI, ⟨x0, y0, hTO⟩, h1, h2⟩ := st
    obtain ⟨xs, ys, x, y, hqx, hqy, hx, hy⟩ := hg
    obtain ⟨its, rv, p⟩ := sqB_at I hqx
    obtain ⟨its2, rv2, p2⟩ := sqB_at I hqy
    obtain ⟨u, hu, ru⟩ := rv.get hx
    obtain ⟨u2, hu2, ru2⟩ := rv2.get hy
    have hzl : z < s.heap.objs.size := Heap.lt_size hz
    have l1 : i < its.toArray.size := by rw [List.size_toArray]; exact (List.getElem?_eq_some_iff.mp hu).1
    have l2 : i < its2.toArray.size := by rw [List.size_toArray]; exact (List.getElem?_eq_some_iff.mp hu2).1
    have hh : X.A.in1.handled = none := I.ok.hd hc
    refine wpAny_pyNext_zipD2_item D (drawB b1 hh i1 a1 n1 its.toArray) (drawB b2 hh i2 a2 n2 its2.toArray) hz hTI hTO ⟨h1, p⟩ ⟨h2, p2⟩ l1 l2 fun y1 y2 h' tk r1 r2 z' TO' st1 st2 hT hsz hk => ?_
    have e1 : y1 = u := by
      have : its.toArray[i]? = some u := by simpa using hu
      rw [this] at r1
      exact (Option.some.inj r1).symm
    have e2 : y2 = u2 := by
      have : its2.toArray[i]? = some u2 := by simpa using hu2
      rw [this] at r2
      exact (Option.some.inj r2).symm
    subst e1 e2
    refine ⟨_, rfl, wpAny_letOwnedTupleGo_zip (s := { s with heap := h', toks := tk }) z' fun h'' z'' sb => ?_⟩
    have hT2 : h''.get? s.heap.objs.size = some { cls := .type "tuple", data := .seq #[y1, y2] } := (sb.2 _ (Nat.ne_of_gt hzl)).trans hT
    have new : ObjOk X.prog X.w (upd H s.heap.objs.size (.tup [x, y])) h'' s.heap.objs.size (.tup [x, y]) :=
      ⟨by rw [sizeLine_eq]; show 2 ≤ 16777216; decide, [y1, y2], .cons ru (.cons ru2 .nil), ⟨_, hT2, rfl, _, rfl⟩⟩
    have I1 : Inv X pins σ (upd H s.heap.objs.size (.tup [x, y])) { s with heap := h'', toks := tk } :=
      I.turnedNew (t' := tk) (ch := [z, TI, TO, i1, i2]) (fun c o hb q => (sb.2 c (fun q' => hb (by simp [q']))).trans (hk c o (fun q' => hb (by simp [q'])) (fun q' => hb (by simp [q'])) (fun q' => hb (by simp [q'])) (fun q' => hb (by simp [q'])) q)) hf (Nat.le_refl _) new
    refine ⟨.ref s.heap.objs.size, _, I1, rfl, ⟨_, x, y, rfl, I.hok.fresh (Nat.le_refl _), rfl, fun l hl => by rw [sqB_inj I hl hqx]; exact hx, fun l hl => by rw [sqB_inj I hl hqy]; exact hy⟩, ⟨z'', ?_, ⟨y1, y2, ?_⟩, ?_, ?_⟩, fun c hcm => ?_⟩
    · exact (sb.2 _ D.TIz).trans (hk _ _ D.TIz D.TITO D.TIi1 D.TIi2 hTI)
    · exact (sb.2 _ D.TOz).trans TO'
    · exact st1.1.at fun o q => (sb.2 _ (Ne.symm D.zi1)).trans q
    · exact st2.1.at fun o q => (sb.2 _ (Ne.symm D.zi2)).trans q
    · have hlt : c < s.heap.objs.size := by
        have e' : c = z ∨ c = TI ∨ c = TO ∨ c = i1 ∨ c = i2 := by simpa using hcm
        rcases e' with q | q | q | q | q
        · rw [q]; exact hzl
        · rw [q]; exact Heap.lt_size hTI
        · rw [q]; exact Heap.lt_size hTO
        · rw [q]; exact h1.lt
        · rw [q]; exact h2.lt
      rw [upd_ne (Nat.ne_of_lt hlt)]
      exact (hf c hcm).1
  done := by
    intro X hP hw hK hc i pins s σ H E I hf st hg
    subst hP hw hK
    obtain ⟨hz, hTI, ⟨x0, y0, hTO⟩, h1, h2⟩ := st
    obtain ⟨xs, ys, hqx, hqy, hend⟩ := hg
    obtain ⟨its, rv, p⟩ := sqB_at I hqx
    obtain ⟨its2, rv2, p2⟩ := sqB_at I hqy
    have l1 := rv.length
    have l2 := rv2.length
    have hh : X.A.in1.handled = none := I.ok.hd hc
    have s1 : its.toArray.size = xs.length := by rw [List.size_toArray]; omega
    have s2 : its2.toArray.size = ys.length := by rw [List.size_toArray]; omega
    exact wpAny_pyNext_zipD2_end D (drawB b1 hh i1 a1 n1 its.toArray) (drawB b2 hh i2 a2 n2 its2.toArray) hz hTI hTO ⟨h1, p⟩ ⟨h2, p2⟩ (by omega) (by omega) (by omega) fun h' tk hk => ⟨rfl, I.turnedL (t' := tk) (ch := [z, TI, TO, i1, i2]) (fun c o hb q =>
      hk c o (fun q' => hb (by simp [q'])) (fun q' => hb (by simp [q'])) (fun q' => hb (by simp [q'])) (fun q' => hb (by simp [q'])) q) hf⟩
  self := fun A i s Q E st h => wpAny_pyIter_zip st.1 h
def iZipB (K : PySem.W.Frag) (ta : TA) : TI := fun σ H R => ta σ H fun vs H1 => ∃ a1 a2 xs ys b1 b2, vs = [.ref a1, .ref a2] ∧ SqB K b1 H1 a1 xs ∧ SqB K b2 H1 a2 ys ∧ R (ItZ K b1 b2 a1 a2) H1
theorem nin2 {a b c : Nat} (h1 : a ≠ b) (h2 : a ≠ c) : a ∉ [b, c] := by simp [h1, h2]
theorem sep_new {n a1 a2 : Nat} (h1 : a1 < n) (h2 : a2 < n) : ZipSep2 (n + 4) (n + 2) (n + 3) n (n + 1) [n, a1] [n + 1, a2] :=
  ⟨show n + 2 ≠ n + 4 by omega, show n + 3 ≠ n + 4 by omega, show n + 2 ≠ n + 3 by omega, show n + 2 ≠ n by omega, List.mem_cons_self .., nin2 (by omega) (by omega), nin2 (by omega) (by omega),
    show n + 2 ≠ n + 1 by omega, List.mem_cons_self .., nin2 (by omega) (by omega), nin2 (by omega) (by omega), nin2 (by omega) (by omega), nin2 (by omega) (by omega)⟩
theorem pi_zipB {X : Cx} {e e2 : Expr} {ta : TA} {p pos tpos : Pos} {elts : List Expr} {kk : Nat} (hg : Gl X "zip") (hm : X.mg "zip" = none) (ha : PA X [e, e2] ta)
    (hs : starEach [e, e2] X.env = (false, eval e X.env) :: starEach [e2] X.env := by rfl) (hpl : (backTo pos (starEach [e2] X.env)).any (·.1) = false := by rfl) :
    PI X (.Tuple elts kk tpos) (.Call (.Name "zip" p) [e, e2] [] pos) (iZipB X.K ta) := by
  refine ⟨fun pins s σ H R I h => ?_⟩
  refine Call_ (ld_blt I hg hm PyProof.Rows.boot_zip (PyProof.Rows.callWith_type1 (thn (ha.run pos pins s σ H _ I h) fun us s1 ⟨vs, H1, I1, r1, q1⟩ => ?_) hs hpl))
  obtain ⟨a1, a2, xs, ys, b1, b2, ex, hqx, hqy, q⟩ := q1
  subst ex
  cases r1 with
  | cons r rr =>
    cases rr with
    | cons r' rr =>
      cases rr
      cases r
      cases r'
      obtain ⟨its, rv, p1⟩ := sqB_at I1 hqx
      obtain ⟨its2, rv2, p2⟩ := sqB_at I1 hqy
      refine zip_begins2 (begB b1 a1 its.toArray) (begB b2 a2 its2.toArray) p1 p2 fun h' hz hTI hTO h1 h2 hsz hk => wpAny_pyIter_zip hz ?_
      have I2 : Inv X pins σ H1 { s1 with heap := h' } := I1.kept (t' := s1.toks) hk
      refine ⟨s1.heap.objs.size + 4, [s1.heap.objs.size + 4, s1.heap.objs.size + 2, s1.heap.objs.size + 3, s1.heap.objs.size, s1.heap.objs.size + 1], _, _, H1, rfl, I2, turnZ (sep_new p1.lt p2.lt) (Nat.ne_of_lt p1.lt) (Nat.ne_of_lt (Nat.lt_succ_of_lt p2.lt)), ⟨hz, hTI, ⟨_, _, hTO⟩, itB_new h1, itB_new h2⟩, fun c hcm => ?_, q⟩
      have e' : c = s1.heap.objs.size + 4 ∨ c = s1.heap.objs.size + 2 ∨ c = s1.heap.objs.size + 3 ∨ c = s1.heap.objs.size ∨ c = s1.heap.objs.size + 1 := by simpa using hcm
      have hle : s1.heap.objs.size ≤ c := by
        rcases e' with z | z | z | z | z <;> rw [z] <;> first | exact Nat.le_refl _ | exact Nat.le_add_right _ _
      exact I1.fpOk hle (I1.hok.fresh hle)
theorem walkZ {K : PySem.W.Frag} {b1 b2 : Bool} {a1 a2 : Addr} {xs ys : List V} : L2.Walk (ItZ K b1 b2 a1 a2) (min xs.length ys.length) (fun H => SqB K b1 H a1 xs ∧ SqB K b2 H a2 ys) (YPair (fun i => xs[i]?) (fun i => ys[i]?)) := by
  refine ⟨fun i _ hi q => ?_, fun _ q => ⟨xs, ys, q.1, q.2, rfl⟩, fun i H v H' _ q y => ?_⟩
  · have h1 : i < xs.length := by omega
    have h2 : i < ys.length := by omega
    exact ⟨xs, ys, xs[i], ys[i], q.1, q.2, by simp [h1], by simp [h2]⟩
  · obtain ⟨T, x, z, h1, h2, h3, h4, h5⟩ := y
    exact ⟨T, x, z, h1, h2, h3, h4 xs q.1, h5 ys q.2⟩
def enumV : Int → List Val → List Val
  | _, [] => []
  | k, x :: xs => .tup [.int k, x] :: enumV (k + 1) xs
def zipV : List Val → List Val → List Val
  | x :: xs, y :: ys => .tup [x, y] :: zipV xs ys
  | _, _ => []
theorem enumV_len : ∀ (k : Int) (xs : List Val), (enumV k xs).length = xs.length
  | _, [] => rfl
  | k, _ :: xs => congrArg Nat.succ (enumV_len (k + 1) xs)
theorem zipV_len : ∀ (xs ys : List Val), (zipV xs ys).length = min xs.length ys.length
  | [], ys => by simp [zipV]
  | _ :: _, [] => by simp [zipV]
  | _ :: xs, _ :: ys => by simp only [zipV, List.length_cons, zipV_len xs ys]; omega
theorem enumV_get : ∀ {xs : List Val} {k : Int} {i : Nat} {v : Val}, (enumV k xs)[i]? = some v → ∃ x, xs[i]? = some x ∧ v = .tup [.int (k + i), x]
  | [], k, i, v, h => by simp [enumV] at h
  | x :: xs, k, 0, v, h => by
    simp only [enumV, List.getElem?_cons_zero, Option.some.injEq] at h
    exact ⟨x, rfl, by rw [← h]; simp⟩
  | x :: xs, k, i + 1, v, h => by
    simp only [enumV, List.getElem?_cons_succ] at h ⊢
    obtain ⟨y, h1, h2⟩ := enumV_get h
    exact ⟨y, h1, by rw [h2, show k + 1 + (i : Int) = k + ((i + 1 : Nat) : Int) by omega]⟩
theorem zipV_get : ∀ {xs ys : List Val} {i : Nat} {v : Val}, (zipV xs ys)[i]? = some v → ∃ x y, xs[i]? = some x ∧ ys[i]? = some y ∧ v = .tup [x, y]
  | [], ys, i, v, h => by simp [zipV] at h
  | _ :: _, [], i, v, h => by simp [zipV] at h
  | x :: xs, y :: ys, 0, v, h => by
    simp only [zipV, List.getElem?_cons_zero, Option.some.injEq] at h
    exact ⟨x, y, rfl, rfl, h.symm⟩
  | x :: xs, y :: ys, i + 1, v, h => by
    simp only [zipV, List.getElem?_cons_succ] at h ⊢
    exact zipV_get h
def FxB (K : PySem.W.Frag) (F : Hp) : Bool → Addr → List V → Prop
  | true, a, us => Rd F a (.lst us)
  | false, a, us => SqT K F a us
theorem FxB.sq {K : PySem.W.Frag} {F H : Hp} {b : Bool} {a : Addr} {us : List V} (h : FxB K F b a us) (s : Same F H) : SqB K b H a us := by
  cases b
  · exact sqT_mono s h
  · exact Or.inl (rd_mono s h)
def seqV : Val → Option (List Val)
  | .lst xs => some xs
  | .tup xs => some xs
  | _ => none
theorem seqV_fx {K : PySem.W.Frag} {F : Hp} {v : Val} {u : V} {xs : List Val} (h : VR K F v u) (q : seqV v = some xs) : ∃ a us b, u = .ref a ∧ FxB K F b a us ∧ VRs K F xs us := by
  cases h with
  | tup h1 h2 => cases q; exact ⟨_, _, false, rfl, h1, h2⟩
  | lst h1 h2 => cases q; exact ⟨_, _, true, rfl, h1, h2⟩
  | _ => cases q
section
variable {K : PySem.W.Frag} {B : Bg} {F H : Hp} {e : Ev} {σ : Sig}
theorem pair_new {B1 : Bg} {F1 H1 : Hp} {e1 : Ev} {σ1 : Sig} {T : Addr} {x y : Val} {u w : V} (C : Cur K B1 F1 H1 e1 σ1) (hT : H1 T = none) (h1 : VR K F1 x u) (h2 : VR K F1 y w) :
    ∃ F', Cur K B1 F' (upd H1 T (.tup [u, w])) e1 σ1 ∧ Same F1 F' ∧ VR K F' (.tup [x, y]) (.ref T) := by
  obtain ⟨C2, s, e⟩ := C.growF (o := .tup [u, w]) hT
  exact ⟨_, C2, s, .tup (.inl (.inl e)) (.cons (h1.mono s) (.cons (h2.mono s) .nil))⟩
theorem ri_enum {xs : List Val} {a : Addr} {us : List V} {b : Bool} (h1 : FxB K F b a us) (h2 : VRs K F xs us) : RI K B F H e σ (enumV 0 xs) (ItE K b a) := by
  have e1 := h2.length
  refine ⟨_, _, by rw [enumV_len, e1]; exact walkE (K := K) (b := b) (a := a) (xs := us), fun H s => h1.sq s, ?_⟩
  rintro i v B1 F1 H1 e1 σ1 x H' hv C s ⟨T, k, y, rfl, hT, rfl, hk, hy⟩
  obtain ⟨w, h3, rfl⟩ := enumV_get hv
  obtain ⟨w', h4, h5⟩ := h2.get' hy
  rw [h3] at h4; cases h4
  cases hk
  rw [show (0 : Int) + (i : Nat) = (i : Nat) by omega]
  exact pair_new C hT (.int _) (h5.mono s)
theorem ri_zip {xs ys : List Val} {a1 a2 : Addr} {us ws : List V} {b1 b2 : Bool} (h1 : FxB K F b1 a1 us) (h2 : VRs K F xs us) (h3 : FxB K F b2 a2 ws) (h4 : VRs K F ys ws) : RI K B F H e σ (zipV xs ys) (ItZ K b1 b2 a1 a2) := by
  have e1 := h2.length
  have e2 := h4.length
  refine ⟨fun H => SqB K b1 H a1 us ∧ SqB K b2 H a2 ws, _, by rw [zipV_len, e1, e2]; exact walkZ (K := K) (b1 := b1) (b2 := b2) (a1 := a1) (a2 := a2) (xs := us) (ys := ws), fun H s => ⟨h1.sq s, h3.sq s⟩, ?_⟩
  rintro i v B1 F1 H1 e1 σ1 x H' hv C s ⟨T, y, z, rfl, hT, rfl, hy, hz⟩
  obtain ⟨p, q, h5, h6, rfl⟩ := zipV_get hv
  obtain ⟨p', h7, h8⟩ := h2.get' hy
  rw [h5] at h7; cases h7
  obtain ⟨q', h9, h10⟩ := h4.get' hz
  rw [h6] at h9; cases h9
  exact pair_new C hT (h8.mono s) (h10.mono s)
end
def mEnum (m : M RV) : M (List Val) := m.bind fun r => (M.dt r).bind fun v => match seqV v with
  | some xs => M.ret (enumV 0 xs)
  | none => M.bad
def mZip (as : M (List RV)) : M (List Val) := as.bind fun rs => (M.dts rs).bind fun vs => match vs with
  | [v, w] => match seqV v, seqV w with
    | some xs, some ys => M.ret (zipV xs ys)
    | _, _ => M.bad
  | _ => M.bad
section
variable {X : Cx} {W : WX} {a b : Expr} {ma : M RV} {ms : M (List RV)} {p pos tpos : Pos} {elts : List Expr} {kk : Nat}
theorem si_enum (gl : Gl X "enumerate") (fr : X.mg "enumerate" = none) (ha : SE X W a ma) (hs : starEach [a] X.env = [(false, eval a X.env)] := by rfl) : SI X W (.Tuple elts kk tpos) (.Call (.Name "enumerate" p) [a] [] pos) (mEnum ma) := by
  refine PI.imp (pi_enumB gl fr (sa_cons ha sa_nil hs) hs) fun σ H R h => ?_
  obtain ⟨np, F, e, Rl, h⟩ := h
  refine sa_1 (Cur.refl Rl) h fun r e1 F1 H1 x C1 q1 h1 => ?_
  obtain ⟨F2, e2, v, C2, s2, r2, h2, _⟩ := At.dt C1 q1 h1
  cases q : seqV v with
  | none => rw [q] at h2; exact h2.elim
  | some xs =>
    rw [q] at h2
    obtain ⟨a, us, b, rfl, f, rs⟩ := seqV_fx r2 q
    exact ⟨a, us, b, rfl, f.sq C2.rel.sub, h2.ok rfl C2 (ri_enum f rs)⟩
theorem si_zip (gl : Gl X "zip") (fr : X.mg "zip" = none) (ha : SA X W [a, b] ms) (hs : starEach [a, b] X.env = (false, eval a X.env) :: starEach [b] X.env := by rfl) (hpl : (backTo pos (starEach [b] X.env)).any (·.1) = false := by rfl) :
    SI X W (.Tuple elts kk tpos) (.Call (.Name "zip" p) [a, b] [] pos) (mZip ms) := by
  refine PI.imp (pi_zipB gl fr ha hs hpl) fun σ H R h => ?_
  obtain ⟨np, F, e, Rl, h⟩ := h
  refine use (R1 := RRs X.K) (Cur.refl Rl) h fun rs e1 F1 H1 us C1 q1 _ h1 => ?_
  obtain ⟨F2, e2, vs, C2, s2, r2, h2⟩ := At.dts C1 q1 h1
  split at h2
  · rename_i v w
    cases r2 with
    | cons r3 r4 => cases r4 with
      | cons r5 r6 =>
        cases r6
        split at h2
        · rename_i xs ys qx qy
          obtain ⟨a1, u1, b1, rfl, f1, g1⟩ := seqV_fx r3 qx
          obtain ⟨a2, u2, b2, rfl, f2, g2⟩ := seqV_fx r5 qy
          exact ⟨a1, a2, u1, u2, b1, b2, rfl, f1.sq C2.rel.sub, f2.sq C2.rel.sub, h2.ok rfl C2 (ri_zip f1 g1 f2 g2)⟩
        · exact h2.elim
  · exact h2.elim
end
end Pu
set_option Elab.async false
set_option linter.all false
set_option maxRecDepth 100000
set_option maxHeartbeats 2000000
namespace Pu
open PySem PySem.Spec PyProof.Rows L2
def mStar (a : M RV) (r : M (List RV)) : M (List RV) := a.bind fun x => (M.dt x).bind fun v => match seqV v with
  | some xs => r.bind fun ys => M.ret (xs.map .dat ++ ys)
  | none => M.bad
section
variable {K : PySem.W.Frag} {W : WX} {B : Bg} {F H : Hp} {σ : Sig} {e : Ev}
theorem RRs.pre {ds : List Val} {dvs : List V} {rs : List RV} {us : List V} (g : VRs K F ds dvs) (h : RRs K B F H e σ rs us) : RRs K B F H e σ (ds.map .dat ++ rs) (dvs ++ us) := by
  induction ds generalizing dvs with
  | nil => cases g; exact h
  | cons d ds ih => cases g with
    | cons a b => exact .cons a (fun v z => nomatch z) (ih b)
end
section
variable {X : Cx} {W : WX} {a : Expr} {es : List Expr} {ma : M RV} {mr : M (List RV)} {p : Pos}
theorem sa_star (ha : SE X W a ma) (hr : SA X W es mr) (hs : starEach (.Starred a p :: es) X.env = (true, eval a X.env) :: starEach es X.env := by rfl) : SA X W (.Starred a p :: es) (mStar ma mr) := by
  refine PA.imp (StX.pa_star ha hr hs) fun σ H Q h => ?_
  obtain ⟨np, F, e, Rl, h⟩ := h
  refine use (R1 := RR X.K) (Cur.refl Rl) h fun r e1 F1 H1 x C1 q1 _ h1 => ?_
  obtain ⟨F2, e2, v, C2, s2, r2, h2, _⟩ := At.dt C1 q1 h1
  cases q : seqV v with
  | none => rw [q] at h2; exact h2.elim
  | some xs =>
    rw [q] at h2
    obtain ⟨a, us, b, rfl, f, rs⟩ := seqV_fx r2 q
    refine ⟨a, us, rfl, ?_, use (R1 := RRs X.K) C2 h2 fun ys e3 F3 H3 ws C3 q3 c3 h3 => h3.ok rfl C3 (RRs.pre (rs.mono c3.post.sub) q3)⟩
    have z := f.sq C2.rel.sub
    cases b
    · exact .inl z
    · exact .inr z
end
def asI (m : M RV) : M Int := m.bind fun r => (M.rd r).bind fun v => match v with
  | .int i => M.ret i
  | _ => M.bad
def mLe3 (a b c d : M RV) : M Bool := (asI a).bind fun i => (asI b).bind fun j => if i ≤ j then (asI c).bind fun k => if j ≤ k then (asI d).bind fun l => M.ret (decide (k ≤ l)) else M.ret false else M.ret false
section
variable {X : Cx} {W : WX} {a b c d : Expr} {ma mb mc md : M RV} {ta tb tc td : TE} {pos : Pos}
def tLe3 (ta tb tc td : TE) : TT := fun σ H Q => ta σ H fun x H1 => tb σ H1 fun y H2 => ∃ i j, x = V.int i ∧ y = V.int j ∧ if i ≤ j then tc σ H2 fun z H3 => ∃ k, z = V.int k ∧ if j ≤ k then td σ H3 fun w H4 => ∃ l, w = V.int l ∧ Q (decide (k ≤ l)) H4 else Q false H3 else Q false H2
theorem pt_le3 (ha : PE X a ta) (hb : PE X b tb) (hc : PE X c tc) (hd : PE X d td) (hm : lastMarks [.LtE, .LtE, .LtE] [b, c, d] = false := by with_unfolding_all rfl) : PT X (.Compare a [.LtE, .LtE, .LtE] [b, c, d] pos) (tLe3 ta tb tc td) := by
  refine ⟨fun pins s σ H Q I h => ?_⟩
  refine isTrue_chain (thn (ha.run pins s σ H _ I h) fun v s1 ⟨x, H1, I1, r1, q1⟩ => test_link (thn (hb.run pins s1 σ H1 _ I1 q1) fun u s2 ⟨y, H2, I2, r2, i, j, ex, ey, q2⟩ =>
    thn (op_le pins s2 σ H2 x y v u (fun z H' => H' = H2 ∧ z = .bl (decide (i ≤ j))) I2 r1 r2 ⟨i, j, ex, ey, rfl, rfl⟩) fun d3 s3 ⟨z, H3, I3, r3, eh, ez⟩ => ?_)) hm
  subst ez eh
  cases r3
  refine wpAny_truthy_bool ?_
  by_cases hij : i ≤ j
  · rw [if_pos hij] at q2
    rw [decide_eq_true hij]
    refine ite_tt (test_link (thn (hc.run pins s3 σ H3 _ I3 q2) fun w s4 ⟨z, H4, I4, r4, k, ez, q4⟩ => thn (op_le pins s4 σ H4 y z u w (fun z' H' => H' = H4 ∧ z' = .bl (decide (j ≤ k))) I4 r2 r4 ⟨j, k, ey, ez, rfl, rfl⟩) fun d5 s5 ⟨z5, H5, I5, r5, eh5, ez5⟩ => ?_))
    subst ez5 eh5
    cases r5
    refine wpAny_truthy_bool ?_
    by_cases hjk : j ≤ k
    · rw [if_pos hjk] at q4
      rw [decide_eq_true hjk]
      refine ite_tt (test_last (thn (hd.run pins s5 σ H5 _ I5 q4) fun w' s6 ⟨z6, H6, I6, r6, l, e6, q6⟩ => thn (op_le pins s6 σ H6 z z6 w w' (fun z' H' => H' = H6 ∧ z' = .bl (decide (k ≤ l))) I6 r4 r6 ⟨k, l, ez, e6, rfl, rfl⟩) fun d7 s7 ⟨z7, H7, I7, r7, eh7, ez7⟩ => ?_))
      subst ez7 eh7
      cases r7
      exact wpAny_truthy_bool ⟨H7, I7, q6⟩
    · rw [if_neg hjk] at q4
      rw [decide_eq_false hjk]
      exact ite_ff ⟨H5, I5, q4⟩
  · rw [if_neg hij] at q2
    rw [decide_eq_false hij]
    exact ite_ff ⟨H3, I3, q2⟩
theorem st_le3 (ha : SE X W a ma) (hb : SE X W b mb) (hc : SE X W c mc) (hd : SE X W d md) (hm : lastMarks [.LtE, .LtE, .LtE] [b, c, d] = false := by with_unfolding_all rfl) : ST X W (.Compare a [.LtE, .LtE, .LtE] [b, c, d] pos) (mLe3 ma mb mc md) := by
  refine PT.imp (pt_le3 ha hb hc hd hm) fun σ H Q h => ?_
  obtain ⟨np, F, e, Rl, h⟩ := h
  unfold mLe3 asI at h
  rw [M.bind_assoc] at h
  refine use (R1 := RR X.K) (Cur.refl Rl) h fun r1 e1 F1 H1 x C1 q1 _ h1 => ?_
  rw [M.bind_assoc] at h1
  obtain ⟨v, rv, h1⟩ := At.rd C1.rel q1 h1
  cases v with
  | int i =>
    rw [M.ret_bind, M.bind_assoc] at h1
    refine use (R1 := RR X.K) C1 h1 fun r2 e2 F2 H2 y C2 q2 _ h2 => ?_
    rw [M.bind_assoc] at h2
    obtain ⟨w, rw_, h2⟩ := At.rd C2.rel q2 h2
    cases w with
    | int j =>
      rw [M.ret_bind] at h2
      refine ⟨i, j, rv.int, rw_.int, ?_⟩
      by_cases hij : i ≤ j
      · rw [if_pos hij] at h2 ⊢
        rw [M.bind_assoc] at h2
        refine use (R1 := RR X.K) C2 h2 fun r3 e3 F3 H3 z C3 q3 _ h3 => ?_
        rw [M.bind_assoc] at h3
        obtain ⟨v3, rv3, h3⟩ := At.rd C3.rel q3 h3
        cases v3 with
        | int k =>
          rw [M.ret_bind] at h3
          refine ⟨k, rv3.int, ?_⟩
          by_cases hjk : j ≤ k
          · rw [if_pos hjk] at h3 ⊢
            rw [M.bind_assoc] at h3
            refine use (R1 := RR X.K) C3 h3 fun r4 e4 F4 H4 w4 C4 q4 _ h4 => ?_
            rw [M.bind_assoc] at h4
            obtain ⟨v4, rv4, h4⟩ := At.rd C4.rel q4 h4
            cases v4 with
            | int l => exact ⟨l, rv4.int, h4.ok rfl C4 rfl⟩
            | _ => exact h4.elim
          · rw [if_neg hjk] at h3 ⊢
            exact h3.ok rfl C3 rfl
        | _ => exact h3.elim
      · rw [if_neg hij] at h2 ⊢
        exact h2.ok rfl C2 rfl
    | _ => exact h2.elim
  | _ => exact h1.elim
end
structure BindDf (d : He5.DefA) (ps : List Str) (c j : Nat) : Prop where
  ne : d.dfl ≠ []
  hn : c + (d.dfl.length - j) = ps.length
  all : ∀ (T : Addr) (kV doc pm : Value) (an : Option Addr) (cdv ct : Value) (us its : List Value), us.length = c → its.length = d.dfl.length →
    ∃ k, bindArgs (PySem.W.fnOf d.name d.qual d.params d.body d.scope (.ref T) kV doc pm an cdv ct) ⟨us, []⟩ = seqItems? (.ref T) >>= k ∧ k (some its.toArray) = pure (ps.zip (us ++ its.drop j))
def tupAt (K : PySem.W.Frag) (a : Addr) : Bool := match K.lookup a with
  | some o => o.cls == .type "tuple" && (match o.data with
    | .seq its _ => its.isEmpty
    | _ => false)
  | _ => false
section
variable {P : Program} {w : World} {K : PySem.W.Frag} {mg : Str → Option Value} {base : Heap} {k n c j : Nat} {d : He5.DefA} {ps : List Str} {m : M RV}
theorem tupAt_ok {a : Addr} (h : tupAt K a = true) (F : Hp) : SqT K F a [] := by
  unfold tupAt at h
  split at h
  · rename_i o e
    rw [Bool.and_eq_true] at h
    obtain ⟨h1, h2⟩ := h
    split at h2
    · rename_i its n e2
      have e3 : its = #[] := Array.isEmpty_iff.mp h2
      subst e3
      exact .inr ⟨o, #[], n, e, eq_of_beq h1, e2, by simp [sizeLine_eq], .nil⟩
    · cases h2
  · cases h
theorem FnB.partsDf (B : FnB P w K mg base k d ps n m) (bd : BindDf d ps c j) : ∃ fd ds, FnG P w K mg base k (d.at_ K) fd ps (spG K n m) ∧ Vals ((d.dvs K).drop j) ds ∧ Binds K fd ps ds ∧ PySem.W.keepIn K (.ref (d.at_ K)) = true := by
  obtain ⟨fd, D, F⟩ := B.ex
  have len : (d.dvs K).length = d.dfl.length := by unfold He5.DefA.dvs; rw [List.length_map]
  have ne : d.dvs K ≠ [] := fun z => bd.ne (List.map_eq_nil_iff.mp z)
  obtain ⟨ds, v, b⟩ := D.binds1 c j ne (by rw [len]; exact bd.hn) fun T kV doc pm an cdv ct us its h1 h2 => bd.all T kV doc pm an cdv ct us its h1 (by rw [h2, len])
  exact ⟨fd, ds, F, v, b, D.kp⟩
theorem fnB_bad (D : ∃ fd, FunD K d.name d.qual d.params d.body d.scope (d.dvs K) (d.kws K) (d.at_ K) fd) (hn : ps.length = n) : FnB P w K mg base k d ps n M.bad := by
  obtain ⟨fd, D⟩ := D
  refine ⟨fd, D, ⟨fun vs H Q E h => h.1.trans hn.symm, fun A outer s H args us vs Q E _ _ _ _ _ h => ?_⟩⟩
  obtain ⟨_, _, _, _, _, h⟩ := h
  exact h.elim
end
section
variable {X : Cx} {W : WX} {k n c j : Nat} {d : He5.DefA} {ps : List Str} {x : Str} {p pos : Pos} {e : Expr} {es : List Expr} {mf : M RV} {mr : M (List RV)} {dl : List Val}
theorem se_callDf (ms : List Bool) (B : FnB X.prog X.w X.K X.mg X.base k d ps n mf) (bd : BindDf d ps c j) (vc : VC X.K dl ((d.dvs X.K).drop j)) (G : Good X k W) (gl : Gl X x) (at_ : X.mg x = some (.ref (d.at_ X.K))) (ha : SA X W (e :: es) mr) (hn : ms.length = n := by rfl) (n1 : (x == ("__debug__" : Str)) = false := by decide)
    (n2 : starEach (e :: es) X.env = (false, eval e X.env) :: starEach es X.env := by rfl) (n3 : (backTo pos (starEach es X.env)).any (·.1) = false := by rfl) : SE X W (.Call (.Name x p) (e :: es) [] pos) (mCall ms mf mr dl) := by
  obtain ⟨fd, ds, F, v, hb, kp⟩ := B.partsDf bd
  exact se_call ms F G gl at_ kp hb v vc ha hn n1 n2 n3
end
inductive NmL (X : Cx) : List Nat → List Expr → Prop
  | nil : NmL X [] []
  | cons {i : Nat} {x : Str} {is : List Nat} {es : List Expr} {pos : Pos} : X.N[i]? = some x → Loc X.env.scope x → (X.fn x = true ∨ X.env.scope.names.lookup x = some .local) → NmL X is es → NmL X (i :: is) (.Name x pos :: es)
theorem nm_nil {X : Cx} : NmL X [] [] := .nil
theorem nm_cons {X : Cx} (i : Nat) {x : Str} {is : List Nat} {es : List Expr} {pos : Pos} (r : NmL X is es) (hi : X.N[i]? = some x := by rfl) (hx : Loc X.env.scope x := by first | exact Or.inl rfl | exact Or.inr rfl) (hf : X.fn x = true ∨ X.env.scope.names.lookup x = some .local := by first | exact .inl rfl | exact .inr rfl) : NmL X (i :: is) (.Name x pos :: es) := .cons hi hx hf r
theorem nm_pgs {X : Cx} (nd : X.N.Nodup) {is : List Nat} {es : List Expr} (h : NmL X is es) : PGs X es (fun us σ H Q => us.length = is.length ∧ Q (setsS is us σ) H) := by
  induction h with
  | nil =>
    refine PGs.imp pgs_nil fun us σ H Q ⟨h1, h2⟩ => ?_
    cases us with
    | nil => exact ⟨rfl, h2⟩
    | cons u us => cases h1
  | cons hi hx hf r ih =>
    refine PGs.imp (pgs_cons (pg_name nd hi hx hf) ih) fun us σ H Q ⟨h1, h2⟩ => ?_
    cases us with
    | nil => cases h1
    | cons u us => exact ⟨u, us, rfl, by simpa using h1, h2⟩
section
variable {X : Cx} {W : WX} {np k kt : Nat} {es tgs : List Expr} {ms : M (List RV)} {pt pos : Pos}
theorem ss_parN (is : List Nat) (p : Bool) {k2 pt2} (G : Good X k W) (ha : SA X W es ms) (hn : NmL X is tgs) (hp : p = true ∨ ∀ n ∈ is, np ≤ n := by decide)
    (len : (assignEach tgs X.env).length = is.length := by rfl) (hst : (assignEach tgs X.env).findIdx? (·.1) = none := by rfl)
    (hs : swapsWithSole [.Tuple tgs kt pt] (.Tuple es k2 pt2) pos.line X.env = pure false := by rfl) (hw : swappedStores [.Tuple tgs kt pt] (.Tuple es k2 pt2) X.env = pure none := by rfl)
    (hz : is.length ≤ sizeLine := by rw [sizeLine_eq]; decide) :
    SS X W np (.Assign [.Tuple tgs kt pt] (.Tuple es k2 pt2) pos) (mPar p is ms) := by
  refine PS.imp (ps_asg (pe_tup ha) (pg_tup G.calm (nm_pgs G.nd hn) len hst) hs hw) fun D σ H h => ?_
  obtain ⟨F, e, R, h⟩ := h
  refine useX (R1 := RRs X.K) (Cur.refl R) h fun rs e1 F1 H1 us C1 q1 _ h1 => ?_
  by_cases hl : us.length = is.length
  · refine ⟨by rw [hl]; exact hz, fun a na => ⟨a, us, rfl, .inl (.inl upd_same), hl, ?_⟩⟩
    obtain ⟨C2, _, _, _⟩ := C1.grow (o := .tup us) na
    exact par_ok hp C2 (q1.grow na) h1
  · exfalso
    have l := q1.length
    rw [if_neg (by omega)] at h1
    exact h1.elim
end
end Pu
set_option Elab.async false
set_option linter.all false
set_option maxRecDepth 100000
set_option maxHeartbeats 3200000
namespace Pu
open PySem PySem.Spec PyProof.Rows L2
abbrev bareSet (w : World) : Obj := { cls := .type "set", dict := none, data := .set #[] 0 (.fresh 0 0 (!w.params.followText "set-order")) }
section
variable {P : Program} {w : World} {A : Around} {E : Value → Shared → Prop} {s : Shared}
theorem setOfList {l : Addr} {vs : Array Value} (ns : List Int) {Q : Value → Shared → Prop} (quiet : A.handled = none) (src : s.heap.IsList l vs) (whole : IntsAre vs.toList ns) (few : ns.length + 1 < scanBound)
    (goal : ∀ (h' : Heap) (tk c : Nat), SetR w h' s.heap.objs.size (fun j => decide (j ∈ ns)) c → c ≤ ns.length → (∀ b o, s.heap.get? b = some o → h'.get? b = some o) → Q (.ref s.heap.objs.size) { s with heap := h', toks := tk }) :
    wpAny (model P w) A (call (.type "set") [.ref l]) Q E s := by
  have many : vs.size = ns.length := by
    have q := IntsAre.length whole
    rwa [Array.length_toList] at q
  have ⟨c, tl, order⟩ := F.called_set.mro
  have a1 := F.called_set.made; have a2 := F.called_set.sub; have a3 := F.called_set.notType; have a4 := F.called_set.canCreate; have a5 := F.typeCall_set_1 (.ref l)
  refine wpAny_call (codeAny_of_tree (show wpAny _ _ (callAny (.type "set") _) _ _ _ from ?_))
  refine wpAny_pure ⟨Code.quiet_builtin _ (by decide +kernel), codeAny_builtin F.entry_type_call ?_⟩
  rw [Around.under_plain (weight_type_call_type "set" [.ref l] []) rfl]
  repeat (any_goals (first | assumption | wp_step))
  refine codeAny_mono (code_set_led1 (.ref l) (E := E) (Q₁ := fun obj s₁ => obj = .ref s.heap.objs.size ∧ s₁ = { s with heap := s.heap.push (bareSet w) }) ⟨rfl, rfl⟩) fun r s₁ hr => ?_
  match r, hr with
  | .error e, hr => exact hr
  | .ok .next, hr => exact hr.elim
  | .ok .brk, hr => exact hr.elim
  | .ok .cont, hr => exact hr.elim
  | .ok (.ret obj), hr =>
    obtain ⟨rfl, rfl⟩ := hr
    have here : (s.heap.push (bareSet w)).get? s.heap.objs.size = some (bareSet w) := Heap.get?_push_size _ rfl
    have kind : Shared.TypeIs { s with heap := s.heap.push (bareSet w) } (.ref s.heap.objs.size) "set" := ⟨_, here, rfl⟩
    have ⟨init1, init2⟩ := And.intro F.called_set.init.lookup (F.called_set.init.bind (.ref s.heap.objs.size))
    repeat (any_goals (first | assumption | wp_step))
    refine codeAny_mono (codeAny_call_builtin (R := wants (fun r s₂ => r = .none ∧ ∃ h' tk c, s₂ = { s with heap := h', toks := tk } ∧ SetR w h' s.heap.objs.size (fun j => decide (j ∈ ns)) c ∧ c ≤ ns.length ∧
        (∀ b o, s.heap.get? b = some o → h'.get? b = some o)) E) F.called_set.init.plain F.entry_set_init (check_set_init_1 kind ?_)) fun r₂ s₂ hr₂ => ?_
    · obtain ⟨⟨lc, ld, lv, ls⟩, at_l, isl, nl, val⟩ := src
      cases isl
      cases val
      have at_l2 : (s.heap.push (bareSet w)).get? l = some { cls := .type "list", dict := ld, data := .seq vs nl, slots := ls } := Heap.get?_push_of_some _ at_l
      have ⟨no1, no2⟩ := And.intro F.sub_list_set F.sub_list_frozenset
      have no3 : (Value.type "list" == Value.type "dict") = false := by decide
      have src2 : (s.heap.push (bareSet w)).IsList l vs := ⟨_, at_l2, rfl, nl, rfl⟩
      unfold Builtin.«set.__init__» noKeywords Builtin.Frozenset.updateFrom
      generalize hold : pyIter = it_
      wp_walk
      subst hold
      refine wpAny_pyIter_list src2 (wpAny_bind (wpAny_runValue ?_))
      have below : l < s.heap.objs.size := Heap.lt_size at_l
      have size1 : (s.heap.push (bareSet w)).objs.size = s.heap.objs.size + 1 := Heap.size_push ..
      have apart1 : l ≠ (s.heap.push (bareSet w)).objs.size := by rw [size1]; exact Nat.ne_of_lt (Nat.lt_succ_of_lt below)
      have apart2 : s.heap.objs.size ∉ [(s.heap.push (bareSet w)).objs.size, l] := by
        rw [size1]
        exact nin2 (Nat.ne_of_lt (Nat.lt_succ_self _)) (Nat.ne_of_gt below)
      refine set_update_ints ((Walks.list (show A.in1.in1.in1.handled = none by simp [quiet]) _ l apart1 vs).toS) s.heap.objs.size apart2 ns many few (fun i v hv => ?_) (vs.size - 0) 0 _ (by omega) (Nat.zero_le _)
        ⟨⟨_, Heap.get?_push_size _ rfl, rfl, rfl⟩, src2.push _⟩ ⟨0, Nat.le_refl 0, setR_new_at (Heap.get?_push_of_some _ here)⟩ fun s' c' moved le made => ?_
      · have lt : i < ns.length := by rw [← many]; exact (Array.getElem?_eq_some_iff.mp hv).1
        obtain ⟨t, e⟩ := PyProof.Rows.IntsAre.int_at whole i v (by rwa [Array.getElem?_toList])
        exact ⟨ns[i], t, List.getElem?_eq_getElem lt, by rw [e, List.getD_eq_getElem?_getD, List.getElem?_eq_getElem lt] <;> rfl⟩
      · obtain ⟨h', g2, d', tk', os'⟩ := s'
        have ⟨eg, ed, eo⟩ : g2 = s.gens ∧ d' = s.drawn ∧ os' = s.os := ⟨moved.gens, moved.drawn, moved.os⟩
        subst eg ed eo
        refine wpAny_pure (show wpAny _ _ (ret Value.none) _ _ _ from wpAny_pure ⟨rfl, h', tk', c', rfl, made, by rw [← many]; exact le, fun b o e => ?_⟩)
        have lt : b < s.heap.objs.size := Heap.lt_size e
        refine moved.heap b o ?_ (Heap.get?_push_of_some _ (Heap.get?_push_of_some _ e))
        rw [size1]
        exact nin2 (Nat.ne_of_lt lt) (Nat.ne_of_lt (Nat.lt_succ_of_lt lt))
    · match r₂, hr₂ with
      | .error e, hr => exact hr
      | .ok .next, hr => exact hr.elim
      | .ok .brk, hr => exact hr.elim
      | .ok .cont, hr => exact hr.elim
      | .ok (.ret r), hr =>
        obtain ⟨rfl, h', tk, c', rfl, m1, m2, m3⟩ := hr
        repeat (any_goals (first | assumption | wp_step))
        exact goal _ _ _ m1 m2 m3
end
end Pu
set_option Elab.async false
set_option linter.all false
set_option maxRecDepth 100000
set_option maxHeartbeats 2000000
namespace Pu
open PySem PySem.Spec PyProof.Rows L2
def insU (x : Int) : List Int → List Int
  | [] => [x]
  | y :: r => if x < y then x :: y :: r else if x = y then y :: r else y :: insU x r
def sortU : List Int → List Int
  | [] => []
  | x :: r => insU x (sortU r)
theorem insU_mem {x k : Int} : ∀ {l : List Int}, k ∈ insU x l ↔ k = x ∨ k ∈ l
  | [] => by simp [insU]
  | y :: r => by
    unfold insU
    split
    · simp
    · split
      · rename_i h; subst h; simp
      · simp only [List.mem_cons, insU_mem (l := r)]
        constructor
        · rintro (h | h | h)
          · exact .inr (.inl h)
          · exact .inl h
          · exact .inr (.inr h)
        · rintro (h | h | h)
          · exact .inr (.inl h)
          · exact .inl h
          · exact .inr (.inr h)
theorem sortU_mem {k : Int} : ∀ {l : List Int}, k ∈ sortU l ↔ k ∈ l
  | [] => by simp [sortU]
  | x :: r => by simp [sortU, insU_mem, sortU_mem (l := r)]
theorem insU_ris {x : Int} : ∀ {l : List Int}, l.Pairwise (· < ·) → (insU x l).Pairwise (· < ·)
  | [], _ => by simp [insU]
  | y :: r, h => by
    have ⟨h1, h2⟩ := List.pairwise_cons.mp h
    unfold insU
    split
    · rename_i q
      refine List.pairwise_cons.mpr ⟨fun z hz => ?_, h⟩
      rcases List.mem_cons.mp hz with rfl | hz
      · exact q
      · exact Int.lt_trans q (h1 z hz)
    · split
      · exact h
      · rename_i q1 q2
        refine List.pairwise_cons.mpr ⟨fun z hz => ?_, insU_ris h2⟩
        rcases insU_mem.mp hz with rfl | hz
        · omega
        · exact h1 z hz
theorem sortU_ris : ∀ {l : List Int}, (sortU l).Pairwise (· < ·)
  | [] => List.Pairwise.nil
  | _ :: r => insU_ris (sortU_ris (l := r))
theorem ris_eq : ∀ {a b : List Int}, a.Pairwise (· < ·) → b.Pairwise (· < ·) → (∀ k, k ∈ a ↔ k ∈ b) → a = b
  | [], [], _, _, _ => rfl
  | [], y :: b, _, _, h => absurd ((h y).mpr List.mem_cons_self) (by simp)
  | x :: a, [], _, _, h => absurd ((h x).mp List.mem_cons_self) (by simp)
  | x :: a, y :: b, ha, hb, h => by
    have ⟨a1, a2⟩ := List.pairwise_cons.mp ha
    have ⟨b1, b2⟩ := List.pairwise_cons.mp hb
    have e : x = y := by
      have h1 := (h x).mp List.mem_cons_self
      have h2 := (h y).mpr List.mem_cons_self
      rcases List.mem_cons.mp h1 with q | q
      · exact q
      · rcases List.mem_cons.mp h2 with q2 | q2
        · exact q2.symm
        · have := b1 x q; have := a1 y q2; omega
    subst e
    refine congrArg _ (ris_eq a2 b2 fun k => ?_)
    have h3 := h k
    simp only [List.mem_cons] at h3
    constructor
    · intro q
      rcases h3.mp (.inr q) with z | z
      · have := a1 k q; omega
      · exact z
    · intro q
      rcases h3.mpr (.inr q) with z | z
      · have := b1 k q; omega
      · exact z
theorem insI_perm {x : Int} : ∀ {l : List Int}, (insI x l).Perm (x :: l)
  | [] => .refl _
  | y :: r => by
    unfold insI
    split
    · exact .refl _
    · exact ((insI_perm (l := r)).cons y).trans (.swap ..)
theorem sortI_perm : ∀ {l : List Int}, (sortI l).Perm l
  | [] => .nil
  | x :: r => insI_perm.trans (sortI_perm.cons x)
theorem insI_ris {x : Int} : ∀ {l : List Int}, l.Pairwise (· ≤ ·) → (insI x l).Pairwise (· ≤ ·)
  | [], _ => by simp [insI]
  | y :: r, h => by
    have ⟨h1, h2⟩ := List.pairwise_cons.mp h
    unfold insI
    split
    · rename_i q
      refine List.pairwise_cons.mpr ⟨fun z hz => ?_, h⟩
      rcases List.mem_cons.mp hz with rfl | hz
      · exact q
      · exact Int.le_trans q (h1 z hz)
    · rename_i q
      refine List.pairwise_cons.mpr ⟨fun z hz => ?_, insI_ris h2⟩
      rcases List.mem_cons.mp ((insI_perm (l := r)).mem_iff.mp hz) with rfl | hz
      · omega
      · exact h1 z hz
theorem sortI_ris : ∀ {l : List Int}, (sortI l).Pairwise (· ≤ ·)
  | [] => List.Pairwise.nil
  | _ :: r => insI_ris (sortI_ris (l := r))
theorem sorted_eq {a b : List Int} (p : a.Perm b) (ha : a.Pairwise (· ≤ ·)) (hb : b.Pairwise (· ≤ ·)) : a = b := List.Perm.eq_of_pairwise (fun _ _ _ _ h1 h2 => Int.le_antisymm h1 h2) ha hb p
theorem intsV_of {K : PySem.W.Frag} {F : Hp} : ∀ {vs : List Val} {us : List V} {ns : List Int}, VRs K F vs us → ints? vs = some ns → us = ns.map V.int
  | [], _, _, h, q => by cases h; cases q; rfl
  | v :: vs, _, ns, .cons a b, q => by
    cases v with
    | int i =>
      unfold ints? at q
      cases z : ints? vs with
      | none => rw [z] at q; cases q
      | some is =>
        rw [z] at q
        cases q
        cases a
        rw [intsV_of b z]
        rfl
    | _ => cases q
theorem vrs_ints {K : PySem.W.Frag} {F : Hp} : ∀ {ns : List Int}, VRs K F (ns.map .int) (ns.map V.int)
  | [] => .nil
  | i :: ns => .cons (.int i) vrs_ints
def mSortSet (m : M RV) : M RV := m.bind fun r => (M.rd r).bind fun v => match v with
  | .lst xs => match ints? xs with
    | some ns => if ns.length < 60 then M.ret (.tmp (.lst ((sortU ns).map .int))) else M.bad
    | none => M.bad
  | _ => M.bad
def mLR1 (a : M RV) : M RV := a.bind fun r => (M.rd r).bind fun v => match v with
  | .int j => if j ≤ 16777216 ∧ -4611686018427387904 ≤ j then M.ret (.tmp (.lst (rangeV 0 j))) else M.bad
  | _ => M.bad
def mLR2 (a b : M RV) : M RV := a.bind fun r => b.bind fun s => (M.rd r).bind fun v => (M.rd s).bind fun w => match v, w with
  | .int i, .int j => if (-4611686018427387904 ≤ i ∧ i < 4611686018427387904 ∧ -4611686018427387904 ≤ j ∧ j < 4611686018427387904) ∧ j - i ≤ 16777216 then M.ret (.tmp (.lst (rangeV i j))) else M.bad
  | _, _ => M.bad
section
variable {X : Cx} {W : WX} {a b : Expr} {ma mb : M RV} {p p2 pos pos2 : Pos}
def rSetI (K : PySem.W.Frag) (w : World) : List V → Hp → VK → Prop := fun xs H Q => ∃ (l : Addr) (ns : List Int), xs = [V.ref l] ∧ SqL K H l (ns.map V.int) ∧ ns.length < 63 ∧
  ∀ (q : Addr) (c : Nat), H q = none → c ≤ ns.length → Q (.ref q) (upd H q (SetO w q (fun j => decide (j ∈ ns)) c))
theorem cr_setI (hc : X.calm = true) : CallR X (.type "set") (rSetI X.K X.w) := by
  intro pins s σ H xs us Q I r h
  obtain ⟨l, ns, rfl, hl, few, q⟩ := h
  cases r with
  | cons r1 r2 =>
    cases r2
    cases r1
    obtain ⟨its, rv, pl, _⟩ := I.list hl
    have whole : IntsAre its.toArray.toList ns := by rw [List.toList_toArray]; exact L2.intsAre_of rv
    refine setOfList ns (I.ok.hd hc) pl.isList whole (by unfold scanBound; omega) fun h' tk c R le k => ?_
    exact ⟨.ref _, _, I.laid (t' := tk) k (Nat.le_refl _) (setO_new R), rfl, q _ c (I.hok.fresh (Nat.le_refl _)) le⟩
theorem lst_new {K : PySem.W.Frag} {B : Bg} {F H : Hp} {e : Ev} {σ : Sig} {ns : List Int} {t : Addr} {Q : VK} (C : Cur K B F H e σ) (ht : H t = none) (h : At K W (RR K) B (M.ret (.tmp (.lst (ns.map .int)))) F e σ H Q) : Q (.ref t) (upd H t (.lst (ns.map V.int))) := by
  obtain ⟨C3, n3, f3, m3⟩ := C.grow (o := .lst (ns.map V.int)) ht
  exact h.ok (r := RV.tmp (.lst (ns.map .int))) rfl C3 ⟨t, rfl, f3, ⟨_, upd_same, vrs_ints⟩, n3, m3⟩
theorem se_sort (gl : Gl X "sorted") (fr : X.mg "sorted" = none) (ha : SE X W a ma) (h1 : starEach (a :: []) X.env = (false, eval a X.env) :: starEach [] X.env := by rfl) (h2 : (backTo pos (starEach [] X.env)).any (·.1) = false := by rfl) : SE X W (.Call (.Name "sorted" p) [a] [] pos) (mSort ma) := by
  refine PE.imp (pe_callB cr_sortedI gl fr (by decide +kernel) (sa_cons ha sa_nil h1) (by decide) (by decide) h1 h2) fun σ H Q h => ?_
  obtain ⟨np, F, e, Rl, h⟩ := h
  refine sa_1 (Cur.refl Rl) h fun r e1 F1 H1 x C1 q1 h1 => ?_
  obtain ⟨v, rv, h2⟩ := At.rd C1.rel q1 h1
  split at h2
  · rename_i xs
    split at h2
    · rename_i ns hn
      obtain ⟨l, us, rfl, h3, h4⟩ := rv.lst C1.rel.sub
      rw [intsV_of h4 hn] at h3
      refine ⟨l, ns, rfl, .inl h3, fun ns' t pm up ht => ?_⟩
      rw [sorted_eq (pm.trans sortI_perm.symm) up sortI_ris]
      exact lst_new (W := W) C1 ht h2
    · exact h2.elim
  · exact h2.elim
theorem se_sortSet (hc : X.calm = true) (gl : Gl X "sorted") (fr : X.mg "sorted" = none) (gl2 : Gl X "set") (fr2 : X.mg "set" = none) (ha : SE X W a ma)
    (h1 : starEach (a :: []) X.env = (false, eval a X.env) :: starEach [] X.env := by rfl) (h2 : (backTo pos2 (starEach [] X.env)).any (·.1) = false := by rfl)
    (h3 : starEach (.Call (.Name "set" p2) [a] [] pos2 :: []) X.env = (false, eval (.Call (.Name "set" p2) [a] [] pos2) X.env) :: starEach [] X.env := by rfl) (h4 : (backTo pos (starEach [] X.env)).any (·.1) = false := by rfl) :
    SE X W (.Call (.Name "sorted" p) [.Call (.Name "set" p2) [a] [] pos2] [] pos) (mSortSet ma) := by
  refine PE.imp (pe_callB (cr_sortedSet hc) gl fr (by decide +kernel) (pa_cons (pe_callTy (cr_setI hc) gl2 fr2 (by decide +kernel) (sa_cons ha sa_nil h1) (by decide) (by decide) h1 h2) pa_nil h3) (by decide) (by decide) h3 h4) fun σ H Q h => ?_
  obtain ⟨np, F, e, Rl, h⟩ := h
  show tA X.K W (mCons ma mNil) σ H _
  refine sa_1 (Cur.refl Rl) h fun r e1 F1 H1 x C1 q1 h1 => ?_
  obtain ⟨v, rv, h2⟩ := At.rd C1.rel q1 h1
  split at h2
  · rename_i xs
    split at h2
    · rename_i ns hn
      by_cases few : ns.length < 60
      · rw [if_pos few] at h2
        obtain ⟨l, us, rfl, h3, h4⟩ := rv.lst C1.rel.sub
        rw [intsV_of h4 hn] at h3
        refine ⟨l, ns, rfl, .inl h3, by omega, fun q c hq le => ?_⟩
        obtain ⟨C2, _, _, _⟩ := C1.grow (o := SetO X.w q (fun j => decide (j ∈ ns)) c) hq
        refine ⟨q, _, c, rfl, upd_same, by omega, fun ns' t up mem _ ht => ?_⟩
        rw [ris_eq up (sortU_ris (l := ns)) fun k => by rw [mem k, decide_eq_true_eq, sortU_mem]]
        exact lst_new (W := W) C2 ht h2
      · rw [if_neg few] at h2
        exact h2.elim
    · exact h2.elim
  · exact h2.elim
theorem rgV_eq {K : PySem.W.Frag} {F : Hp} {i j : Int} : VRs K F (rangeV i j) (rgV i j) := by
  unfold rangeV rgV
  generalize List.range (j - i).toNat = l
  induction l with
  | nil => exact .nil
  | cons x l ih => exact .cons (.int _) ih
theorem rng_new {K : PySem.W.Frag} {B : Bg} {F H : Hp} {e : Ev} {σ : Sig} {i j : Int} {t : Addr} {Q : VK} (C : Cur K B F H e σ) (ht : H t = none) (h : At K W (RR K) B (M.ret (.tmp (.lst (rangeV i j)))) F e σ H Q) : Q (.ref t) (upd H t (.lst (rgV i j))) := by
  obtain ⟨C3, n3, f3, m3⟩ := C.grow (o := .lst (rgV i j)) ht
  exact h.ok (r := RV.tmp (.lst (rangeV i j))) rfl C3 ⟨t, rfl, f3, ⟨_, upd_same, rgV_eq⟩, n3, m3⟩
theorem se_lr1 (hc : X.calm = true) (gl : Gl X "list") (fr : X.mg "list" = none) (gl2 : Gl X "range") (fr2 : X.mg "range" = none) (ha : SE X W a ma) (h1 : starEach [a] X.env = (false, eval a X.env) :: starEach [] X.env := by rfl)
    (h3 : starEach [.Call (.Name "range" p2) [a] [] pos2] X.env = (false, eval (.Call (.Name "range" p2) [a] [] pos2) X.env) :: starEach [] X.env := by rfl) : SE X W (.Call (.Name "list" p) [.Call (.Name "range" p2) [a] [] pos2] [] pos) (mLR1 ma) := by
  refine PE.imp (pe_listRg hc gl fr (prg_1 gl2 fr2 ha h1) h3) fun σ H Q h => ?_
  obtain ⟨np, F, e, Rl, h⟩ := h
  refine use (R1 := RR X.K) (Cur.refl Rl) h fun r e1 F1 H1 x C1 q1 _ h1 => ?_
  obtain ⟨v, rv, h2⟩ := At.rd C1.rel q1 h1
  split at h2
  · rename_i j
    by_cases hj : j ≤ 16777216 ∧ -4611686018427387904 ≤ j
    · rw [if_pos hj] at h2
      exact ⟨j, rv.int, ⟨by omega, by omega, by omega, by omega, by omega⟩, fun t ht => rng_new C1 ht h2⟩
    · rw [if_neg hj] at h2
      exact h2.elim
  · exact h2.elim
theorem se_lr2 (hc : X.calm = true) (gl : Gl X "list") (fr : X.mg "list" = none) (gl2 : Gl X "range") (fr2 : X.mg "range" = none) (ha : SE X W a ma) (hb : SE X W b mb) (h1 : starEach [a, b] X.env = (false, eval a X.env) :: starEach [b] X.env := by rfl) (h2 : starEach [b] X.env = (false, eval b X.env) :: starEach [] X.env := by rfl)
    (h3 : starEach [.Call (.Name "range" p2) [a, b] [] pos2] X.env = (false, eval (.Call (.Name "range" p2) [a, b] [] pos2) X.env) :: starEach [] X.env := by rfl) : SE X W (.Call (.Name "list" p) [.Call (.Name "range" p2) [a, b] [] pos2] [] pos) (mLR2 ma mb) := by
  refine PE.imp (pe_listRg hc gl fr (prg_2 gl2 fr2 ha hb h1 h2 (by rw [h2]; rfl)) h3) fun σ H Q h => ?_
  obtain ⟨np, F, e, Rl, h⟩ := h
  refine use (R1 := RR X.K) (Cur.refl Rl) h fun r1 e1 F1 H1 x C1 q1 _ h1 => ?_
  refine use (R1 := RR X.K) C1 h1 fun r2 e2 F2 H2 y C2 q2 c2 h2 => ?_
  obtain ⟨v, rv, h3⟩ := At.rd C2.rel (q1.carry c2) h2
  obtain ⟨w, rw_, h4⟩ := At.rd C2.rel q2 h3
  split at h4
  · rename_i i j
    by_cases hj : (-4611686018427387904 ≤ i ∧ i < 4611686018427387904 ∧ -4611686018427387904 ≤ j ∧ j < 4611686018427387904) ∧ j - i ≤ 16777216
    · rw [if_pos hj] at h4
      exact ⟨i, j, rv.int, rw_.int, ⟨by omega, by omega, by omega, by omega, by omega⟩, fun t ht => rng_new C2 ht h4⟩
    · rw [if_neg hj] at h4
      exact h4.elim
  · exact h4.elim
end
end Pu
set_option Elab.async false
set_option linter.all false
set_option maxRecDepth 100000
namespace Pu
open PySem PySem.Spec PyProof.Rows L2
structure BindKD (d : He5.DefA) (ps : List Str) (n : Nat) (ks : List Str) (g : List Nat) : Prop where
  ne : d.dfl ≠ []
  nd : g.Nodup
  all : ∀ (T : Addr) (kV doc pm : Value) (an : Option Addr) (cdv ct : Value) (us ws its : List Value), us.length = n → ws.length = ks.length → its.length = d.dfl.length →
    ∃ k, bindArgs (PySem.W.fnOf d.name d.qual d.params d.body d.scope (.ref T) kV doc pm an cdv ct) ⟨us, ks.zip ws⟩ = seqItems? (.ref T) >>= k ∧ k (some its.toArray) = pure (ps.zip (sel g (us ++ ws ++ its)))
structure KBD (K : PySem.W.Frag) (fd : FuncData) (ps : List Str) (n : Nat) (ks : List Str) (g : List Nat) (its : List Value) : Prop where
  to : ∀ (s : Shared) (us ws : List Value), K.In s.heap → us.length = n → ws.length = ks.length → BindsTo s fd ⟨us, ks.zip ws⟩ (ps.zip (sel g (us ++ ws ++ its)))
  nd : g.Nodup
section
variable {P : Program} {w : World} {K : PySem.W.Frag} {mg : Str → Option Value} {base : Heap} {k n c : Nat} {d : He5.DefA} {ps ks : List Str} {g : List Nat} {m : M RV}
theorem FnB.partsKD (B : FnB P w K mg base k d ps n m) (bd : BindKD d ps c ks g) : ∃ fd its, FnG P w K mg base k (d.at_ K) fd ps (spG K n m) ∧ Vals (d.dvs K) its ∧ KBD K fd ps c ks g its ∧ PySem.W.keepIn K (.ref (d.at_ K)) = true := by
  obtain ⟨fd, D, F⟩ := B.ex
  have len : (d.dvs K).length = d.dfl.length := by unfold He5.DefA.dvs; rw [List.length_map]
  have ne : d.dvs K ≠ [] := fun z => bd.ne (List.map_eq_nil_iff.mp z)
  have kp := D.kp
  obtain ⟨oc, od, dV, kV, doc, pm, an, cdv, ct, osl, rfl, lk, hcd, hD, hK⟩ := D.ex
  rcases hD with ⟨e, _⟩ | ⟨_, T, o, its, m, rfl, lT, oT, rT⟩
  · exact absurd e ne
  · refine ⟨_, its, F, rT, ⟨fun s us ws X h1 h2 => ?_, bd.nd⟩, kp⟩
    obtain ⟨k, e1, e2⟩ := bd.all T kV doc pm an cdv ct us ws its h1 h2 (rT.length.symm.trans len)
    refine BindsTo.of_looks fun M => ?_
    rw [e1]
    exact looks_items X lT oT (.of_pure e2)
end
def mCallKD (ms : List Bool) (f : M RV) (as ks : M (List RV)) (n m : Nat) (g : List Nat) (dl : List Val) : M RV := as.bind fun rs => ks.bind fun zs => if rs.length = n ∧ zs.length = m then runF ms f (sel g (rs ++ zs ++ dl.map .dat)) else M.bad
def cKD (n m : Nat) (sp : Sp) (W : WX) (g : List Nat) (dvs : List V) (t u : TA) : TE := fun σ H Q => t σ H fun vs H1 => u σ H1 fun zs H2 => vs.length = n ∧ zs.length = m ∧ sp (sel g (vs ++ zs ++ dvs)) H2 Q (WE W σ)
section
variable {X : Cx} {W : WX} {k n : Nat} {f : Addr} {fd : FuncData} {ps ks : List Str} {x : Str} {p pos : Pos} {e : Expr} {es : List Expr} {kws : List Keyword} {mf : M RV} {mr mk : M (List RV)} {sp : Sp} {t u : TA} {g : List Nat} {dvs : List V} {its : List Value} {dl : List Val}
theorem goKD {pins : List (Addr × Obj)} {σ : Sig} {H : Hp} {s : Shared} {Q : VK} {us ws : List Value} {vs zs : List V} (F : FnG X.prog X.w X.K X.mg X.base k f fd ps sp) (hr : Room k X.A) (hG : X.A.guards = some []) (tk : L2N.Takes X W) (hb : KBD X.K fd ps n ks g its) (hv : Vals dvs its)
    (I : Inv X pins σ H s) (r : Vals vs us) (rz : Vals zs ws) (l1 : vs.length = n) (l2 : zs.length = ks.length) (h : sp (sel g (vs ++ zs ++ dvs)) H Q (WE W σ)) : wpAny (model X.prog X.w) X.A (call (.ref f) us (ks.zip ws)) (EP X pins σ Q) X.xe s :=
  goG F hr hG tk I (hb.to s us ws I.kIn (r.length.symm.trans l1) (rz.length.symm.trans l2)) (sel_vals ((r.append rz).append hv)) h
theorem pg_callKDs (F : FnG X.prog X.w X.K X.mg X.base k f fd ps sp) (hr : Room k X.A) (hG : X.A.guards = some []) (tk : L2N.Takes X W) (gl : Gl X x)
    (at_ : X.mg x = some (.ref f)) (kp : PySem.W.keepIn X.K (.ref f) = true) (hb : KBD X.K fd ps n ks g its) (hv : Vals dvs its) (ha : PA X (e :: es) t) (hk : PK X kws u)
    (k1 : (backToKw pos (keywordEach kws X.env)).all (·.1.isSome) = true := by rfl) (k2 : (backToKw pos (keywordEach kws X.env)).filterMap (·.1) = ks := by rfl) (n1 : (x == ("__debug__" : Str)) = false := by decide)
    (n2 : starEach (e :: es) X.env = (false, eval e X.env) :: starEach es X.env := by rfl)
    (n3 : ((backTo pos (starEach (e :: es) X.env)).any (·.1) || (backToKw pos (keywordEach kws X.env)).any (·.1.isNone)) = false := by rfl) : PE X (.Call (.Name x p) (e :: es) kws pos) (cKD n ks.length sp W g dvs t u) := by
  constructor
  intro pins s σ H Q I h
  refine wpAny_Call_Name_kw (ld_glob I gl at_ ?_ n1)
  refine PySem.W.callWith_KW (h₀ := X.base) I.ok.mod.kin kp k1 (thn (ha.run pos pins s σ H _ I h) ?_) n3 n2
  rintro us s1 ⟨vs, H1, I1, r, q⟩
  refine thn (hk.run pos pins s1 σ H1 _ I1 q) ?_
  rintro ws s2 ⟨zs, H2, I2, rz, l1, l2, q2⟩
  refine ⟨I2.kIn, ?_⟩
  rw [k2]
  exact goKD F hr hG tk hb hv I2 r rz l1 l2 q2
theorem pg_callKD0 (F : FnG X.prog X.w X.K X.mg X.base k f fd ps sp) (hr : Room k X.A) (hG : X.A.guards = some []) (tk : L2N.Takes X W) (gl : Gl X x)
    (at_ : X.mg x = some (.ref f)) (kp : PySem.W.keepIn X.K (.ref f) = true) (hb : KBD X.K fd ps 0 ks g its) (hv : Vals dvs its) (hk : PK X kws u)
    (k1 : (backToKw pos (keywordEach kws X.env)).all (·.1.isSome) = true := by rfl) (k2 : (backToKw pos (keywordEach kws X.env)).filterMap (·.1) = ks := by rfl) (n1 : (x == ("__debug__" : Str)) = false := by decide)
    (n3 : ((backTo pos (starEach [] X.env)).any (·.1) || (backToKw pos (keywordEach kws X.env)).any (·.1.isNone)) = false := by rfl) : PE X (.Call (.Name x p) [] kws pos) (cKD 0 ks.length sp W g dvs tNil u) := by
  constructor
  intro pins s σ H Q I h
  refine wpAny_Call_Name_kw (ld_glob I gl at_ ?_ n1)
  refine PySem.W.callWith_KW0 (h₀ := X.base) I.ok.mod.kin kp k1 ?_ n3
  refine thn (hk.run pos pins s σ H _ I h) ?_
  rintro ws s2 ⟨zs, H2, I2, rz, l1, l2, q2⟩
  refine ⟨I2.kIn, ?_⟩
  rw [k2]
  exact goKD (us := []) F hr hG tk hb hv I2 .nil rz l1 l2 q2
theorem kwd_ok {K : PySem.W.Frag} {B : Bg} {F F1 F2 H H1 H2 : Hp} {e e1 e2 : Ev} {σ : Sig} {ms : List Bool} {rs zs : List RV} {us xs : List V} {m nn : Nat} {Q : VK} (C1 : Cur K B F1 H1 e1 σ) (q1 : RRs K B F1 H1 e1 σ rs us) (c2 : Cur K (bg B.np F1 H1 e1 σ) F2 H2 e2 σ)
    (q2 : RRs K (bg B.np F1 H1 e1 σ) F2 H2 e2 σ zs xs) (vc : VC K dl dvs) (nd : g.Nodup) (hn : ms.length = nn) (h : At K W (RR K) B (if rs.length = n ∧ zs.length = m then runF ms mf (sel g (rs ++ zs ++ dl.map .dat)) else M.bad) F2 e2 σ H2 Q) : us.length = n ∧ xs.length = m ∧ spG K nn mf (sel g (us ++ xs ++ dvs)) H2 Q (WE W σ) := by
  by_cases hh : rs.length = n ∧ zs.length = m
  · rw [if_pos hh] at h
    exact ⟨q1.length.symm.trans hh.1, q2.length.symm.trans hh.2, call_ok (C1.trans c2) (((RRs.join C1 c2 q2 q1).app (vc F2)).sel nd) h hn⟩
  · rw [if_neg hh] at h
    exact h.elim
theorem se_callKD {nn : Nat} {d : He5.DefA} {c : Nat} (ms : List Bool) (Bf : FnB X.prog X.w X.K X.mg X.base k d ps nn mf) (bd : BindKD d ps c ks g) (vc : VC X.K dl (d.dvs X.K)) (G : Good X k W) (gl : Gl X x)
    (at_ : X.mg x = some (.ref (d.at_ X.K))) (ha : SA X W (e :: es) mr) (hk : SK X W kws mk) (hn : ms.length = nn := by rfl)
    (k1 : (backToKw pos (keywordEach kws X.env)).all (·.1.isSome) = true := by rfl) (k2 : (backToKw pos (keywordEach kws X.env)).filterMap (·.1) = ks := by rfl) (n1 : (x == ("__debug__" : Str)) = false := by decide)
    (n2 : starEach (e :: es) X.env = (false, eval e X.env) :: starEach es X.env := by rfl)
    (n3 : ((backTo pos (starEach (e :: es) X.env)).any (·.1) || (backToKw pos (keywordEach kws X.env)).any (·.1.isNone)) = false := by rfl) : SE X W (.Call (.Name x p) (e :: es) kws pos) (mCallKD ms mf mr mk c ks.length g dl) := by
  obtain ⟨fd, its, F, hv, hb, kp⟩ := Bf.partsKD bd
  refine PE.imp (pg_callKDs F G.room G.gd G.tk gl at_ kp hb hv ha hk k1 k2 n1 n2 n3) fun σ H Q h => ?_
  obtain ⟨np, F, e, R, h⟩ := h
  refine use (R1 := RRs X.K) (Cur.refl R) h fun rs e1 F1 H1 us C1 q1 _ h1 => ?_
  exact useS (R1 := RRs X.K) C1 h1 fun zs e2 F2 H2 xs C2 q2 c2 h2 => kwd_ok (F := F) (H := H) (e := e) C1 q1 c2 q2 vc hb.nd hn h2
theorem se_callKD0 {nn : Nat} {d : He5.DefA} (ms : List Bool) (Bf : FnB X.prog X.w X.K X.mg X.base k d ps nn mf) (bd : BindKD d ps 0 ks g) (vc : VC X.K dl (d.dvs X.K)) (G : Good X k W) (gl : Gl X x)
    (at_ : X.mg x = some (.ref (d.at_ X.K))) (hk : SK X W kws mk) (hn : ms.length = nn := by rfl)
    (k1 : (backToKw pos (keywordEach kws X.env)).all (·.1.isSome) = true := by rfl) (k2 : (backToKw pos (keywordEach kws X.env)).filterMap (·.1) = ks := by rfl) (n1 : (x == ("__debug__" : Str)) = false := by decide)
    (n3 : ((backTo pos (starEach [] X.env)).any (·.1) || (backToKw pos (keywordEach kws X.env)).any (·.1.isNone)) = false := by rfl) : SE X W (.Call (.Name x p) [] kws pos) (mCallKD ms mf mNil mk 0 ks.length g dl) := by
  obtain ⟨fd, its, F, hv, hb, kp⟩ := Bf.partsKD bd
  refine PE.imp (pg_callKD0 F G.room G.gd G.tk gl at_ kp hb hv hk k1 k2 n1 n3) fun σ H Q h => ?_
  obtain ⟨np, F, e, R, h⟩ := h
  have C := Cur.refl (np := np) R
  have h0 : At X.K W (RR X.K) (bg np F H e σ) (mk.bind fun zs => if ([] : List RV).length = 0 ∧ zs.length = ks.length then runF ms mf (sel g ([] ++ zs ++ dl.map .dat)) else M.bad) F e σ H Q := h
  exact useS (R1 := RRs X.K) C h0 fun zs e2 F2 H2 xs C2 q2 c2 h2 => kwd_ok (us := []) (F := F) (H := H) (e := e) C .nil c2 q2 vc hb.nd hn h2
end
theorem Ok.iff' {α : Type} {m : M α} {e : Ev} {P R : α → Ev → Prop} (h : ∀ a e, P a e ↔ R a e) : Ok m e P ↔ Ok m e R := ⟨fun q => Ok.mono q fun a e' => (h a e').mp, fun q => Ok.mono q fun a e' => (h a e').mpr⟩
theorem ok_callKD {ms : List Bool} {f : M RV} {as ks : M (List RV)} {n m : Nat} {g : List Nat} {dl : List Val} {e : Ev} {Q : RV → Ev → Prop} : Ok (mCallKD ms f as ks n m g dl) e Q ↔ Ok as e fun rs e1 => Ok ks e1 fun zs e2 => (rs.length = n ∧ zs.length = m) ∧ Ok (runF ms f (sel g (rs ++ zs ++ dl.map .dat))) e2 Q := by
  unfold mCallKD
  rw [ok_bind]
  refine Ok.iff' fun rs e1 => ?_
  rw [ok_bind]
  refine Ok.iff' fun zs e2 => ?_
  by_cases h : rs.length = n ∧ zs.length = m
  · rw [if_pos h]; exact ⟨fun q => ⟨h, q⟩, fun q => q.2⟩
  · rw [if_neg h]; exact ⟨fun q => (ok_bad.mp q).elim, fun q => absurd q.1 h⟩
end Pu
set_option Elab.async false
set_option linter.all false
set_option maxRecDepth 100000
set_option maxHeartbeats 2000000
namespace Pu
open PySem PySem.Spec PyProof.Rows L2
mutual
def noLst : Val → Bool
  | .tup xs => noLsts xs
  | .lst _ => false
  | .obj _ _ _ => false
  | .dct _ _ => false
  | .non => true
  | .bl _ => true
  | .int _ => true
  | .str _ => true
  | .ty _ => true
  | .glo _ => true
def noLsts : List Val → Bool
  | [] => true
  | x :: xs => noLst x && noLsts xs
end
def less (S : List Addr) (F : Hp) : Hp := fun a => if a ∈ S then none else F a
section
variable {K : PySem.W.Frag} {F H : Hp} {S : List Addr}
theorem less_in {a : Addr} (h : a ∈ S) : less S F a = none := by unfold less; rw [if_pos h]
theorem less_out {a : Addr} (h : a ∉ S) : less S F a = F a := by unfold less; rw [if_neg h]
theorem VR.less {v : Val} {u : V} (hS : ∀ a ∈ S, ∃ us, F a = some (.lst us)) (h : VR K F v u) : noLst v = true → VR K (less S F) v u :=
  VR.rec (motive_1 := fun v u _ => noLst v = true → VR K (Pu.less S F) v u) (motive_2 := fun vs us _ => noLsts vs = true → VRs K (Pu.less S F) vs us)
    (fun _ => .non) (fun b _ => .bl b) (fun i _ => .int i) (fun x _ => .str x) (fun n _ => .ty n) (fun x _ => .glo x)
    (fun {a us xs} s _ ih q => .tup (by
      rcases s with (s | ⟨o, s⟩) | s
      · refine .inl (.inl ?_)
        rw [less_out fun z => by obtain ⟨w, e⟩ := hS _ z; rw [e] at s; cases s]
        exact s
      · refine .inl (.inr ⟨o, ?_⟩)
        rw [less_out fun z => by obtain ⟨w, e⟩ := hS _ z; rw [e] at s; cases s]
        exact s
      · exact .inr s) (ih (by simpa [noLst] using q)))
    (fun _ _ _ q => by simp [noLst] at q) (fun _ _ _ _ q => by simp [noLst] at q) (fun _ _ _ _ q => by simp [noLst] at q) (fun _ => .nil)
    (fun _ _ i1 i2 q => by
      rw [noLsts, Bool.and_eq_true] at q
      exact .cons (i1 q.1) (i2 q.2)) h
end
section
variable {K : PySem.W.Frag} {W : WX} {B : Bg} {F F1 H H1 : Hp} {e e' : Ev} {σ : Sig} {iF : Nat} {A : Addr} {bs : List Addr} {xs : List (List Val)}
theorem InR.snoc {xs : List (List Val)} {bs : List Addr} (h : InR K B F H xs bs) {t : Addr} {ys : List Val} {us : List V} (h1 : H t = some (.lst us)) (h2 : VRs K F ys us) (h3 : F t = none) (h4 : B.mine t) : InR K B F H (xs ++ [ys]) (bs ++ [t]) := by
  induction h with
  | nil => exact .cons h1 h2 h3 h4 .nil
  | cons a b c d _ ih => exact .cons a b c d ih
theorem InR.vrs {xs : List (List Val)} {bs : List Addr} (h : InR K B F H xs bs) (s : Same F F1) (k : ∀ b ∈ bs, F1 b = H b) : VRs K F1 (xs.map .lst) (bs.map .ref) := by
  induction h with
  | nil => exact .nil
  | cons h1 h2 h3 h4 _ ih => exact .cons (.lst (.inl ((k _ List.mem_cons_self).trans h1)) (h2.mono s)) (ih fun b hb => k b (List.mem_cons_of_mem _ hb))
def seen (S : List Addr) (F H : Hp) : Hp := fun a => if a ∈ S then H a else F a
theorem seen_in {S : List Addr} {a : Addr} (h : a ∈ S) : seen S F H a = H a := by unfold seen; rw [if_pos h]
theorem seen_out {S : List Addr} {a : Addr} (h : a ∉ S) : seen S F H a = F a := by unfold seen; rw [if_neg h]
theorem seen_sub {S : List Addr} (h : ∀ a ∈ S, F a = none) : Same F (seen S F H) := fun a o q => by
  by_cases ha : a ∈ S
  · rw [h a ha] at q; cases q
  · rw [seen_out ha]; exact q
theorem NX.read (N : NX K B iF A bs xs F H e σ) : Rel K (seen (A :: bs) F H) H e σ ∧ ∀ {np : Nat} {F2 H2 : Hp} {e2 : Ev}, Cur K (bg np (seen (A :: bs) F H) H e σ) F2 H2 e2 σ →
    NX K B iF A bs xs (less (A :: bs) F2) H2 e σ ∧ Same F (less (A :: bs) F2) ∧ (∀ v u, noLst v = true → VR K F2 v u → VR K (less (A :: bs) F2) v u) ∧ (∀ vs us, noLsts vs = true → VRs K F2 vs us → VRs K (less (A :: bs) F2) vs us) ∧
      ∀ t, F2 t = none → (bg np (seen (A :: bs) F H) H e σ).mine t → t ∉ A :: bs ∧ less (A :: bs) F2 t = none ∧ B.mine t := by
  have inn := N.x7.at
  have nS := N.nS
  have sb := seen_sub (H := H) nS
  have AS : A ∈ A :: bs := List.mem_cons_self
  have old : ∀ {i : Nat} {s : Slot}, i ≠ iF → e[i]? = some s → (e.set iF .un)[i]? = some s := fun {i s} hi q => by rw [List.getElem?_set_ne (Ne.symm hi)]; exact q
  refine ⟨⟨fun a o q => ?_, by have := N.cur.rel.len; rwa [List.length_set] at this, fun i s o q1 q2 => ?_, fun i j v w a q1 => absurd q1 (noOwn_get N.no), N.cur.rel.tb, fun a ps q => ?_⟩, fun {np F2 H2 e2} C => ?_⟩
  · by_cases ha : a ∈ A :: bs
    · rw [seen_in ha] at q; exact q
    · rw [seen_out ha] at q; exact N.cur.rel.sub a o q
  rotate_left
  · by_cases ha : a ∈ A :: bs
    · rw [seen_in ha] at q
      obtain ⟨us, h⟩ := N.has a ha
      rw [h] at q; cases q
    · rw [seen_out ha] at q; exact N.cur.rel.nt a ps q
  rotate_left
  · by_cases hi : i = iF
    · subst hi
      rw [N.x1] at q1; cases q1
      rw [N.x2] at q2; cases q2
      exact ⟨_, rfl, .lst (.inl ((seen_in AS).trans N.x3)) (N.x7.vrs sb fun b hb => seen_in (List.mem_cons_of_mem _ hb))⟩
    · have z := N.cur.rel.slot i s o (old hi q1) q2
      cases s with
      | un => trivial
      | own v => exact absurd q1 (noOwn_get N.no)
      | dat v =>
        obtain ⟨u, e1, e2⟩ := z
        exact ⟨u, e1, e2.mono sb⟩
  · have up : ∀ a o, seen (A :: bs) F H a = some o → F2 a = some o := C.post.sub
    have keepH : ∀ a ∈ A :: bs, H2 a = H a := fun a ha => by
      obtain ⟨us, ho⟩ := N.has a ha
      rw [ho]
      exact C.rel.sub a _ (up a _ (by rw [seen_in ha]; exact ho))
    have lsts : ∀ a ∈ A :: bs, ∃ us, F2 a = some (.lst us) := fun a ha => by
      obtain ⟨us, q⟩ := N.has a ha
      exact ⟨us, up _ _ (by rw [seen_in ha]; exact q)⟩
    have noO : ∀ a, ¬ Own e σ a := fun a ⟨i, v, q, _⟩ => noOwn_get N.no q
    have s3 : Same F (less (A :: bs) F2) := fun a o q => by
      have na : a ∉ A :: bs := fun z => by rw [nS a z] at q; cases q
      rw [less_out na]
      exact up a o (by rw [seen_out na]; exact q)
    refine ⟨⟨⟨⟨N.cur.post.sub.trans s3, fun a o q n t5 => ?_, fun a q => ?_, fun a q => N.cur.post.kp a (C.post.kp a q)⟩, ⟨fun a o q => ?_, N.cur.rel.len, fun i s o q1 q2 => ?_, N.cur.rel.inj, C.rel.tb, fun a ps q => (by
      by_cases ha : a ∈ A :: bs
      · rw [less_in ha] at q; cases q
      · rw [less_out ha] at q; exact C.rel.nt a ps q)⟩, N.cur.own, N.cur.ln, N.cur.par⟩, N.no,
      N.x1, N.x2, (keepH A AS).trans N.x3, less_in AS, N.x5, N.x6, N.x7.go s3 (fun b hb => keepH b (List.mem_cons_of_mem _ hb)) fun b hb => less_in (List.mem_cons_of_mem _ hb)⟩, s3, fun v u nl r => r.less lsts nl, fun vs us nl r => ?_, fun t h1 h2 => ?_⟩
    · exact C.post.fr a o (N.cur.post.fr a o q n t5) (noO a) t5
    · have na : a ∉ A :: bs := fun z => q (less_in z)
      rw [less_out na] at q
      rcases C.post.nw a q with z | z
      · have z' : seen (A :: bs) F H a ≠ none := z
        rw [seen_out na] at z'
        exact N.cur.post.nw a z'
      · rcases z with z | z
        · exact absurd z (noO a)
        · exact .inr (.inr (N.cur.post.kp a z))
    · have na : a ∉ A :: bs := fun z => by rw [less_in z] at q; cases q
      rw [less_out na] at q
      exact C.rel.sub a o q
    · have z := N.cur.rel.slot i s o q1 q2
      cases s with
      | un => trivial
      | dat v =>
        obtain ⟨u, e1, e2⟩ := z
        exact ⟨u, e1, e2.mono s3⟩
      | own v =>
        exfalso
        rcases getset q1 with ⟨_, z, _⟩ | ⟨_, z⟩
        · cases z
        · exact noOwn_get N.no z
    · clear C up keepH s3
      induction vs generalizing us with
      | nil => cases r; exact .nil
      | cons v vs ih =>
        cases r with
        | cons a b =>
          rw [noLsts, Bool.and_eq_true] at nl
          exact .cons (a.less lsts nl.1) (ih _ nl.2 b)
    · have na : t ∉ A :: bs := fun z => by
        obtain ⟨us, q⟩ := lsts t z
        rw [q] at h1; cases h1
      refine ⟨na, by rw [less_out na]; exact h1, ?_⟩
      rcases h2 with z | z
      · exact absurd z (noO t)
      · exact .inr (N.cur.post.kp t z)
theorem NX.ex_ {m : M RV} {v : Val} {Q : VK} (N : NX K B iF A bs xs F H e σ) (hm : m e = .ok (.dat v) e') (k : ∀ F1 H1 u, NX K B iF A bs xs F1 H1 e σ → Same F F1 → (noLst v = true → VR K F1 v u) → Q u H1) : tE K W m σ H Q := by
  obtain ⟨R, go⟩ := N.read
  refine ⟨0, _, e, R, ?_⟩
  unfold At
  rw [hm]
  intro F2 H2 u C r
  obtain ⟨N3, s3, v3, _, _⟩ := go C
  exact k _ H2 u N3 s3 fun nl => v3 v u nl r
theorem NX.exL {m : M RV} {ys : List Val} {Q : VK} (N : NX K B iF A bs xs F H e σ) (hm : m e = .ok (.tmp (.lst ys)) e') (nl : noLsts ys = true)
    (k : ∀ F1 H1 t us, NX K B iF A bs xs F1 H1 e σ → Same F F1 → t ∉ A :: bs → H1 t = some (.lst us) → VRs K F1 ys us → F1 t = none → B.mine t → Q (.ref t) H1) : tE K W m σ H Q := by
  obtain ⟨R, go⟩ := N.read
  refine ⟨0, _, e, R, ?_⟩
  unfold At
  rw [hm]
  intro F2 H2 u C r
  obtain ⟨N3, s3, _, v3, t3⟩ := go C
  obtain ⟨t, rfl, h1, ⟨us, h2, h3⟩, _, h5⟩ := r
  obtain ⟨a1, a2, a3⟩ := t3 t h1 h5
  exact k _ H2 t us N3 s3 a1 h2 (v3 _ _ nl h3) a2 a3
theorem NX.tst {m : M Bool} {b : Bool} {Q : Bool → Hp → Prop} (N : NX K B iF A bs xs F H e σ) (hm : m e = .ok b e') (k : ∀ F1 H1, NX K B iF A bs xs F1 H1 e σ → Same F F1 → Q b H1) : tT K W m σ H Q := by
  obtain ⟨R, go⟩ := N.read
  refine ⟨0, _, e, R, ?_⟩
  unfold At
  rw [hm]
  intro F2 H2 u C r
  obtain ⟨N3, s3, _⟩ := go C
  rw [← r]
  exact k _ H2 N3 s3
theorem noOwn_set {e : Ev} {i : Nat} {v : Val} (h : noOwnE e = true) : noOwnE (e.set i (.dat v)) = true := by
  refine List.all_eq_true.mpr fun s hs => ?_
  rcases List.mem_or_eq_of_mem_set hs with h1 | h1
  · exact List.all_eq_true.mp h s h1
  · subst h1; rfl
theorem NX.setDat {i : Nat} {v : Val} {u : V} (N : NX K B iF A bs xs F H e σ) (hi : i ≠ iF) (r : VR K F v u) : NX K B iF A bs xs F H (e.set i (.dat v)) (σ.set i (some u)) :=
  ⟨by rw [List.set_comm _ _ hi]; exact N.cur.setDat r, noOwn_set N.no, by rw [List.getElem?_set_ne hi]; exact N.x1, by rw [List.getElem?_set_ne hi]; exact N.x2, N.x3, N.x4, N.x5, N.x6, N.x7⟩
theorem NX.app {t : Addr} {ys : List Val} {us : List V} (N : NX K B iF A bs xs F H e σ) (h1 : t ∉ A :: bs) (h2 : H t = some (.lst us)) (h3 : VRs K F ys us) (h4 : F t = none) (h5 : B.mine t) :
    NX K B iF A (bs ++ [t]) (xs ++ [ys]) F (upd H A (.lst (bs.map .ref ++ [.ref t]))) (e.set iF (.dat (.lst (xs.map .lst ++ [.lst ys])))) σ := by
  have tA : t ≠ A := fun z => h1 (by rw [z]; exact List.mem_cons_self)
  obtain ⟨n1, n2⟩ := List.nodup_cons.mp N.x6
  have hl : iF < e.length := (List.getElem?_eq_some_iff.mp N.x1).1
  refine ⟨?_, noOwn_set N.no, ?_, N.x2, ?_, N.x4, N.x5, ?_, ?_⟩
  · rw [List.set_set]
    exact N.cur.write N.x4 (fun ⟨i, v, q, _⟩ => by
      rcases getset q with ⟨_, z, _⟩ | ⟨_, z⟩
      · cases z
      · exact noOwn_get N.no z) N.x5 N.x3
  · rw [List.getElem?_set_self hl, List.map_append]; rfl
  · rw [upd_same, List.map_append]; rfl
  · refine List.nodup_cons.mpr ⟨fun z => ?_, List.nodup_append.mpr ⟨n2, by simp, fun a ha b hb z => ?_⟩⟩
    · rcases List.mem_append.mp z with z | z
      · exact n1 z
      · exact tA (List.mem_singleton.mp z).symm
    · rw [List.mem_singleton] at hb
      subst hb z
      exact h1 (List.mem_cons_of_mem _ ha)
  · have w : InR K B F (upd H A (.lst (bs.map .ref ++ [.ref t]))) xs bs := N.x7.go (Same.refl _) (fun b hb => upd_ne fun z => n1 (by rw [← z]; exact hb)) fun b hb => (N.x7.at b hb).1
    exact w.snoc ((upd_ne tA).trans h2) h3 h4 h5
theorem NX.put {n j : Nat} {b : Addr} {ys : List Val} {us : List V} {v : Val} {u : V} (N : NX K B iF A bs xs F H e σ) (h1 : xs[n]? = some ys) (h2 : bs[n]? = some b) (h3 : H b = some (.lst us)) (h4 : VRs K F ys us) (h5 : VR K F v u) :
    NX K B iF A bs (xs.set n (ys.set j v)) F (upd H b (.lst (us.set j u))) (e.set iF (.dat (.lst ((xs.map .lst).set n (.lst (ys.set j v)))))) σ := by
  obtain ⟨n1, n2⟩ := List.nodup_cons.mp N.x6
  have hl : iF < e.length := (List.getElem?_eq_some_iff.mp N.x1).1
  have hb := List.mem_of_getElem? h2
  have inn := N.x7.at b hb
  refine ⟨?_, noOwn_set N.no, ?_, N.x2, (upd_ne fun z => n1 (by rw [z]; exact hb)).trans N.x3, N.x4, N.x5, N.x6, N.x7.set n2 h2 (h4.set h5 j)⟩
  · rw [List.set_set]
    exact N.cur.write inn.1 (fun ⟨i, v, q, _⟩ => by
      rcases getset q with ⟨_, z, _⟩ | ⟨_, z⟩
      · cases z
      · exact noOwn_get N.no z) inn.2.1 h3
  · rw [List.getElem?_set_self hl, List.map_set]
theorem NX.thaw (N : NX K B iF A bs xs F H e σ) : Cur K B (seen (A :: bs) F H) H e σ ∧ Same F (seen (A :: bs) F H) := by
  obtain ⟨R, _⟩ := N.read
  have sb := seen_sub (H := H) N.nS
  refine ⟨⟨⟨N.cur.post.sub.trans sb, N.cur.post.fr, fun a q => ?_, N.cur.post.kp⟩, R, fun a ⟨i, v, q, _⟩ => absurd q (noOwn_get N.no), by have := N.cur.ln; rwa [List.length_set] at this, fun i v _ q => absurd q (noOwn_get N.no)⟩, sb⟩
  by_cases ha : a ∈ A :: bs
  · exact .inr (N.mine a ha)
  · rw [seen_out ha] at q
    exact N.cur.post.nw a q
theorem NX.start {B : Bg} (C : Cur K B F H e σ) (hi : e[iF]? = some (.own (.lst []))) (hn : noOwnE (e.set iF .un) = true) : ∃ A, NX K B iF A [] [] F H (e.set iF (.dat (.lst []))) σ := by
  have hl : iF < e.length := (List.getElem?_eq_some_iff.mp hi).1
  obtain ⟨o, ho⟩ : ∃ o, σ[iF]? = some o := by
    have := C.rel.len
    exact ⟨σ[iF]'(by omega), List.getElem?_eq_getElem _⟩
  obtain ⟨A, rfl, h1, us, h2, h3⟩ := C.rel.slot iF _ _ hi ho
  cases h3
  refine ⟨A, by rw [List.set_set]; exact C.forget, ?_, by rw [List.getElem?_set_self hl]; rfl, ho, h2, h1, C.own A ⟨iF, _, hi, ho⟩, by simp, .nil⟩
  have : e.set iF (.dat (.lst [])) = (e.set iF .un).set iF (.dat (.lst [])) := by rw [List.set_set]
  rw [this]
  exact noOwn_set hn
end
end Pu
set_option Elab.async false
set_option linter.all false
set_option maxRecDepth 100000
set_option maxHeartbeats 2000000
namespace Pu
open PySem PySem.Spec PyProof.Rows L2
def mK {α : Type} (m : M α) : M α := fun e => match m e with
  | .ok a _ => .ok a e
  | _ => .bad
def tN (K : PySem.W.Frag) (iF : Nat) (m : S) : TS := fun D σ H => ∃ B F e, NR K B iF F H e σ ∧ AtN K B iF F m e D
abbrev SN (X : Cx) (iF : Nat) (st : Stmt) (m : S) : Prop := PS X st (tN X.K iF m)
abbrev SNB (X : Cx) (iF : Nat) (b : List Stmt) (m : S) : Prop := PSs X b (tN X.K iF m)
def mNSet (i : Nat) (m : M RV) : S := (mK m).bind fun r => match r with
  | .dat v => if noLst v = true then (fun e => .ok .nx (e.set i (.dat v))) else M.bad
  | _ => M.bad
def mNIf (c : M Bool) (a b : S) : S := mIf (mK c) a b
def mNApp (iF : Nat) (ma : M RV) : S := (mK ma).bind fun r => match r with
  | .tmp (.lst ys) => if noLsts ys = true then (fun e => match e[iF]? with
    | some (.dat (.lst zs)) => if zs.length < sizeLine then .ok .nx (e.set iF (.dat (.lst (zs ++ [.lst ys])))) else .bad
    | _ => .bad) else M.bad
  | _ => M.bad
def putN (iF : Nat) (v : Val) (k1 k2 : Int) : S := fun e => match e[iF]? with
  | some (.dat (.lst zs)) => match ixN zs.length k1 with
    | some n => match zs[n]? with
      | some (.lst ys) => match ixN ys.length k2 with
        | some j => .ok .nx (e.set iF (.dat (.lst (zs.set n (.lst (ys.set j v))))))
        | none => .bad
      | _ => .bad
    | none => .bad
  | _ => .bad
def mNPut (iF : Nat) (m1 m2 mv : M RV) : S := (mK mv).bind fun r => (mK m1).bind fun r1 => (mK m2).bind fun r2 => match r, r1, r2 with
  | .dat v, .dat (.int k1), .dat (.int k2) => if noLst v = true then putN iF v k1 k2 else M.bad
  | _, _, _ => M.bad
def loopN (i : Nat) (mb : S) : List Val → S
  | [] => mSkip
  | v :: r => fun e => match mb (e.set i (.dat v)) with
    | .ok .nx e2 => loopN i mb r e2
    | .ok (.rt (.dat .non)) e2 => .ok (.rt (.dat .non)) e2
    | _ => .bad
def mNFor (iF i : Nat) (mi : M (List Val)) (mb : S) : S := mi.bind fun vs => fun e => match e[iF]? with
  | some (.own (.lst [])) => if noOwnE (e.set iF .un) = true ∧ vs.all noLst = true then loopN i mb vs (e.set iF (.dat (.lst []))) else .bad
  | _ => .bad
section
variable {K : PySem.W.Frag} {B : Bg} {F H : Hp} {e e' : Ev} {σ : Sig} {iF : Nat} {D : Ends}
theorem mK_bind {α β : Type} {m : M α} {f : α → M β} : ((mK m).bind f) e = match m e with
  | .ok a _ => f a e
  | _ => .bad := by
  unfold M.bind mK
  cases m e <;> rfl
theorem AtN.not {m : S} (h : AtN K B iF F m e D) (hm : m e = .bad) : False := by
  unfold AtN at h
  rw [hm] at h
  exact h
end
section
variable {X : Cx} {iF k : Nat} {st : Stmt} {rest a b : List Stmt} {ma mb : S} {x c : Expr} {m : M RV} {mc : M Bool} {pos : Pos}
theorem nb_one (h : SN X iF st ma) : SNB X iF [st] ma := pss_one h
theorem nb_nil : SNB X iF [] mSkip := PSs.imp pss_nil fun D σ H ⟨B, F, e, N, h⟩ => h.nx rfl (Same.refl _) N
theorem nb_cons (h1 : SN X iF st ma) (h2 : SNB X iF rest mb) : SNB X iF (st :: rest) (mSeq ma mb) := by
  refine PSs.imp (pss_cons h1 h2) fun D σ H h => ?_
  obtain ⟨B, F, e, N, h⟩ := h
  refine ⟨B, F, e, N, ?_⟩
  unfold AtN mSeq at h
  unfold AtN
  cases z : ma e with
  | bad => rw [z] at h; exact h
  | rs x e' => rw [z] at h; exact h
  | ok o e' =>
    rw [z] at h
    cases o with
    | nx => exact fun F' H' σ' s N' => ⟨B, F', e', N', AtN.mono (m := mb) h s⟩
    | bk => exact h
    | ct => exact h
    | rt r => cases r with
      | dat v => cases v <;> exact h
      | _ => exact h
theorem n_if {W : WX} (G : Good X k W) (hc : ST X W c mc) (ha : SNB X iF a ma) (hb : SNB X iF b mb) : SN X iF (.If c a b pos) (mNIf mc ma mb) := by
  refine PS.imp (ps_if hc ha hb) fun D σ H h => ?_
  obtain ⟨B, F, e, ⟨A, bs, xs, N⟩, h⟩ := h
  cases hm : mc e with
  | bad => exact (h.not (by unfold mNIf mIf; rw [mK_bind, hm])).elim
  | rs x e' => exact (h.not (by unfold mNIf mIf; rw [mK_bind, hm])).elim
  | ok r e' =>
    have hh : AtN X.K B iF F (if r = true then ma else mb) e D := by
      unfold AtN at h ⊢
      unfold mNIf mIf at h
      rw [mK_bind, hm] at h
      exact h
    refine N.tst hm fun F1 H1 N1 s1 => ?_
    cases r with
    | true => exact ⟨B, F1, e, ⟨_, _, _, N1⟩, AtN.mono hh s1⟩
    | false => exact ⟨B, F1, e, ⟨_, _, _, N1⟩, AtN.mono hh s1⟩
theorem n_set {W : WX} (i : Nat) {y : Str} {pos' : Pos} (G : Good X k W) (hm : SE X W x m) (hne : i ≠ iF := by decide) (hi : X.N[i]? = some y := by rfl) (hx : Loc X.env.scope y := by first | exact Or.inl rfl | exact Or.inr rfl) (hs : swapsWith x (some (.Name y pos')) pos.line X.env = pure false := by rfl)
    (hf : X.fn y = true ∨ X.env.scope.names.lookup y = some .local := by first | exact .inl rfl | exact .inr rfl) : SN X iF (.Assign [.Name y pos'] x pos) (mNSet i m) := by
  refine PS.imp (ps_set G.nd hi hx hm hs hf) fun D σ H h => ?_
  obtain ⟨B, F, e, ⟨A, bs, xs, N⟩, h⟩ := h
  cases hm : m e with
  | bad => exact (h.not (by unfold mNSet; rw [mK_bind, hm])).elim
  | rs x e' => exact (h.not (by unfold mNSet; rw [mK_bind, hm])).elim
  | ok r e' => cases r with
    | tmp v => exact (h.not (by unfold mNSet; rw [mK_bind, hm]; rfl)).elim
    | bor v => exact (h.not (by unfold mNSet; rw [mK_bind, hm]; rfl)).elim
    | dat v =>
      by_cases nl : noLst v = true
      · refine N.ex_ hm fun F1 H1 u N1 s1 r => ?_
        exact h.nx (by unfold mNSet; rw [mK_bind, hm]; simp only [if_pos nl]) s1 ⟨_, _, _, N1.setDat hne (r nl)⟩
      · exact (h.not (by unfold mNSet; rw [mK_bind, hm]; simp only [if_neg nl]; rfl)).elim
theorem n_ret {W : WX} (G : Good X k W) (hm : SE X W x m) : SN X iF (.Return (some x) pos) (mRet (mK m)) := by
  refine PS.imp (ps_ret hm) fun D σ H h => ?_
  obtain ⟨B, F, e, ⟨A, bs, xs, N⟩, h⟩ := h
  cases hm : m e with
  | bad => exact (h.not (by unfold mRet; rw [mK_bind, hm])).elim
  | rs x e' => exact (h.not (by unfold mRet; rw [mK_bind, hm])).elim
  | ok r e' => cases r with
    | tmp v => unfold AtN mRet at h; rw [mK_bind, hm] at h; exact h.elim
    | bor v => unfold AtN mRet at h; rw [mK_bind, hm] at h; exact h.elim
    | dat v => cases v with
      | non =>
        refine N.ex_ hm fun F1 H1 u N1 s1 r => ?_
        cases r rfl
        unfold AtN mRet at h
        rw [mK_bind, hm] at h
        exact h _ _ _ s1 ⟨_, _, _, N1⟩
      | _ => unfold AtN mRet at h; rw [mK_bind, hm] at h; exact h.elim
theorem n_app {W : WX} {y : Str} {ea : Expr} {p1 apos cpos : Pos} (G : Good X k W) (ha : SE X W ea m) (hN : X.N[iF]? = some y := by rfl) (hv : Vis X.env.scope y := by first | exact Or.inl rfl | exact Or.inr (Or.inl rfl) | exact Or.inr (Or.inr rfl)) (hd : (y == ("__debug__" : Str)) = false := by decide)
    (hcd : (y == ("__classdict__" : Str)) = false := by decide) (hbase : attributeBase (.Name y p1) "append" X.env (eval (.Name y p1) X.env) = eval (.Name y p1) X.env := by rfl)
    (hfew : ((backTo cpos (starEach [ea] X.env)).all (fun x => !x.1) && (backToKw cpos (keywordEach [] X.env)).all (fun x => x.1.isSome) && decide ([ea].length + ([] : List Keyword).length + (if ([] : List Keyword).isEmpty then 0 else 1) < 30)) = true := by rfl)
    (hline : (apos.endLine == cpos.line) = true := by rfl) (hs : starEach [ea] X.env = (false, eval ea X.env) :: starEach [] X.env := by rfl) (hplain : (backTo cpos (starEach [] X.env)).any (·.1) = false := by rfl)
    (hsw : swapsWith (.Call (.Attribute (.Name y p1) "append" apos) [ea] [] cpos) none pos.line X.env = pure false := by rfl) :
    SN X iF (.Expr (.Call (.Attribute (.Name y p1) "append" apos) [ea] [] cpos) pos) (mNApp iF m) := by
  refine PS.imp (ps_expr (pe_bm PySem.F.plainAttrs_list PySem.F.slot_list_append PySem.F.type_list_append (show MtR X "list.append" rAppend from mt_append) (pe_var hN hv hd hcd) (pa_cons ha pa_nil hs) hbase hfew hline hs hplain) hsw) fun D σ H h => ?_
  obtain ⟨B, F, e, ⟨A, bs, xs, N⟩, h⟩ := h
  cases hm : m e with
  | bad => exact (h.not (by unfold mNApp; rw [mK_bind, hm])).elim
  | rs x e' => exact (h.not (by unfold mNApp; rw [mK_bind, hm])).elim
  | ok r e' => cases r with
    | dat v => exact (h.not (by unfold mNApp; rw [mK_bind, hm]; rfl)).elim
    | bor v => exact (h.not (by unfold mNApp; rw [mK_bind, hm]; rfl)).elim
    | tmp v => cases v with
      | lst ys =>
        by_cases nl : noLsts ys = true
        · by_cases hl : (xs.map Val.lst).length < sizeLine
          · refine ⟨.ref A, N.x2, .inl ⟨rfl, _, SqL.of N.x3⟩, ?_⟩
            refine N.exL hm nl fun F1 H1 t us N1 s1 t1 t2 t3 t4 t5 => ?_
            refine ⟨A, bs.map .ref, .ref t, rfl, rfl, N1.x3, by rw [List.length_map, ← N1.x7.len]; rwa [List.length_map] at hl, ?_⟩
            exact h.nx (by unfold mNApp; rw [mK_bind, hm]; simp only [if_pos nl, N.x1, if_pos hl]) s1 ⟨_, _, _, N1.app t1 t2 t3 t4 t5⟩
          · exact (h.not (by unfold mNApp; rw [mK_bind, hm]; simp only [if_pos nl, N.x1, if_neg hl])).elim
        · exact (h.not (by unfold mNApp; rw [mK_bind, hm]; simp only [if_neg nl]; rfl)).elim
      | _ => exact (h.not (by unfold mNApp; rw [mK_bind, hm]; rfl)).elim
theorem atI_map {α β : Type} {f : α → β} {l : List α} {k : Int} {n : Nat} {b : α} (h1 : ixN l.length k = some n) (h2 : l[n]? = some b) : atI (l.map f) k = some (f b) := by
  unfold atI
  rw [List.length_map, h1]
  simp [h2]
theorem n_put {W : WX} {y : Str} {e1 e2 ev : Expr} {m1 m2 mv : M RV} {p1 p2 p3 : Pos} (G : Good X k W) (h1 : SE X W e1 m1) (h2 : SE X W e2 m2) (hv : SE X W ev mv) (hN : X.N[iF]? = some y := by rfl) (hvs : Vis X.env.scope y := by first | exact Or.inl rfl | exact Or.inr (Or.inl rfl) | exact Or.inr (Or.inr rfl)) (hd : (y == ("__debug__" : Str)) = false := by decide)
    (hcd : (y == ("__classdict__" : Str)) = false := by decide) (hp : PlainIx e1 := by exact fun _ _ => rfl)
    (ha : ∀ v, assign (.Subscript (.Subscript (.Name y p1) e1 p2) e2 p3) X.env v = (do
      let ov ← holding [v] (eval (.Subscript (.Name y p1) e1 p2) X.env)
      let iv ← holding [v, ov] (eval e2 X.env)
      standAt p3
      holding [v, ov, iv] (setItem ov iv v)
      release [v, ov, iv] []) := by intro _; rfl)
    (hs : swapsWithSole [.Subscript (.Subscript (.Name y p1) e1 p2) e2 p3] ev pos.line X.env = pure false := by rfl) (hw : swappedStores [.Subscript (.Subscript (.Name y p1) e1 p2) e2 p3] ev X.env = pure none := by rfl)
    (hq : (assignEach [.Subscript (.Subscript (.Name y p1) e1 p2) e2 p3] X.env).map (·.2) = [assign (.Subscript (.Subscript (.Name y p1) e1 p2) e2 p3) X.env] := by rfl) :
    SN X iF (.Assign [.Subscript (.Subscript (.Name y p1) e1 p2) e2 p3] ev pos) (mNPut iF m1 m2 mv) := by
  refine PS.imp (ps_asg hv (pg_sub (pe_ix ix_list (pe_var hN hvs hd hcd) h1 hp) h2 (set_list (X := X)) ha) hs hw hq) fun D σ H h => ?_
  obtain ⟨B, F, e, ⟨A, bs, xs, N⟩, h⟩ := h
  have bad : mNPut iF m1 m2 mv e = .bad → False := fun z => h.not z
  unfold mNPut at bad
  rw [mK_bind] at bad
  cases hmv : mv e with
  | bad => rw [hmv] at bad; exact (bad rfl).elim
  | rs x e' => rw [hmv] at bad; exact (bad rfl).elim
  | ok r e' =>
    rw [hmv] at bad
    simp only [mK_bind] at bad
    cases hm1 : m1 e with
    | bad => simp only [hm1] at bad; exact (bad trivial).elim
    | rs x e' => simp only [hm1] at bad; exact (bad trivial).elim
    | ok r1 e1' =>
      simp only [hm1, mK_bind] at bad
      cases hm2 : m2 e with
      | bad => simp only [hm2] at bad; exact (bad trivial).elim
      | rs x e' => simp only [hm2] at bad; exact (bad trivial).elim
      | ok r2 e2' =>
        simp only [hm2] at bad
        have bad' : ∀ {q : Res Out}, q = .bad → (match r, r1, r2 with
            | .dat v, .dat (.int k1), .dat (.int k2) => if noLst v = true then putN iF v k1 k2 else M.bad
            | _, _, _ => M.bad) e = q → False := fun q1 q2 => bad (q2.trans q1)
        have val : ∀ {q : Ev}, (match r, r1, r2 with
            | .dat v, .dat (.int k1), .dat (.int k2) => if noLst v = true then putN iF v k1 k2 else M.bad
            | _, _, _ => M.bad) e = .ok .nx q → mNPut iF m1 m2 mv e = .ok .nx q := fun {q} z => by
          unfold mNPut
          rw [mK_bind, hmv]
          simp only [mK_bind, hm1, hm2]
          exact z
        clear bad
        obtain ⟨v, rfl⟩ : ∃ v, r = .dat v := by
          cases r with
          | dat v => exact ⟨v, rfl⟩
          | _ => exact (bad' rfl rfl).elim
        obtain ⟨k1, rfl⟩ : ∃ k, r1 = .dat (.int k) := by
          cases r1 with
          | dat v => cases v with
            | int k => exact ⟨k, rfl⟩
            | _ => exact (bad' rfl rfl).elim
          | _ => exact (bad' rfl rfl).elim
        obtain ⟨k2, rfl⟩ : ∃ k, r2 = .dat (.int k) := by
          cases r2 with
          | dat v => cases v with
            | int k => exact ⟨k, rfl⟩
            | _ => exact (bad' rfl rfl).elim
          | _ => exact (bad' rfl rfl).elim
        simp only at bad' val
        by_cases nl : noLst v = true
        · rw [if_pos nl] at bad' val
          unfold putN at bad' val
          simp only [N.x1] at bad' val
          cases q1 : ixN (xs.map Val.lst).length k1 with
          | none => simp only [q1] at bad'; exact (bad' rfl rfl).elim
          | some n =>
            have n1 := (ixN_seq q1).2.1
            rw [List.length_map] at n1
            have q2 : xs[n]? = some xs[n] := List.getElem?_eq_getElem n1
            have q3 : (xs.map Val.lst)[n]? = some (.lst xs[n]) := by rw [List.getElem?_map, q2]; rfl
            simp only [q1, q3] at bad' val
            cases q4 : ixN xs[n].length k2 with
            | none => simp only [q4] at bad'; exact (bad' rfl rfl).elim
            | some j =>
              simp only [q4] at val
              refine N.ex_ hmv fun F1 H1 u N1 s1 rv => ?_
              refine ⟨.ref A, N1.x2, ?_⟩
              refine N1.ex_ hm1 fun F2 H2 u1 N2 s2 r1 => ?_
              cases r1 rfl
              obtain ⟨b, us, b1, b2, b3⟩ := N2.x7.get q2
              refine ⟨A, bs.map .ref, k1, .ref b, rfl, rfl, SqL.of N2.x3, atI_map (by rw [← N2.x7.len]; rwa [List.length_map] at q1) b1, ?_⟩
              refine N2.ex_ hm2 fun F3 H3 u2 N3 s3 r2 => ?_
              cases r2 rfl
              obtain ⟨b', us', b4, b5, b6⟩ := N3.x7.get q2
              rw [b1] at b4
              cases b4
              refine ⟨b, us', k2, j, rfl, rfl, b5, by rw [← b6.length]; exact q4, ?_⟩
              exact h.nx (val rfl) ((s1.trans s2).trans s3) ⟨_, _, _, N3.put q2 b1 b5 b6 (((rv nl).mono s2).mono s3)⟩
        · rw [if_neg nl] at bad'
          exact (bad' rfl rfl).elim
theorem ss_nest {W : WX} {np : Nat} {y : Str} {p1 : Pos} {iter : Expr} {body : List Stmt} {mi : M (List Val)} (i : Nat) (G : Good X k W) (hi : SI X W (.Name y p1) iter mi) (hb : SNB X iF body mb) (hne : i ≠ iF := by decide) (hN : X.N[i]? = some y := by rfl) (hx : Loc X.env.scope y := by first | exact Or.inl rfl | exact Or.inr rfl)
    (hf : X.fn y = true ∨ X.env.scope.names.lookup y = some .local := by first | exact .inl rfl | exact .inr rfl)
    (hs : ∀ x, foldedSetIterable iter X.env x = pure x := by intro _; rfl) : SS X W np (.For (.Name y p1) iter body [] pos) (mNFor iF i mi mb) := by
  refine PS.imp (ps_for G.po G.calm hi (pg_name G.nd hN hx hf) hb hs) fun D σ H h => ?_
  obtain ⟨F, e, R, h⟩ := h
  refine useX (R1 := RI X.K) (Cur.refl R) h fun vs e1 F1 H1 J C1 q1 _ h1 => ?_
  obtain ⟨Gd, Y, wk, still, gives⟩ := q1
  obtain ⟨k1, k2, k3, k4⟩ : e1[iF]? = some (.own (.lst [])) ∧ noOwnE (e1.set iF .un) = true ∧ vs.all noLst = true ∧ AtS X.K W (bg np F H e σ) (loopN i mb vs) F1 (e1.set iF (.dat (.lst []))) σ H1 D := by
    unfold AtS at h1
    cases z : e1[iF]? with
    | none => simp only [z] at h1
    | some s => cases s with
      | own v => cases v with
        | lst zs => cases zs with
          | nil =>
            simp only [z] at h1
            by_cases c : noOwnE (e1.set iF .un) = true ∧ vs.all noLst = true
            · rw [if_pos c] at h1
              exact ⟨rfl, c.1, c.2, h1⟩
            · rw [if_neg c] at h1
              exact h1.elim
          | cons _ _ => simp only [z] at h1
        | _ => simp only [z] at h1
      | _ => simp only [z] at h1
  obtain ⟨A0, N0⟩ := NX.start C1 k1 k2
  refine for_it wk (fun j σ' H' => ∃ F' e', NR X.K (bg np F H e σ) iF F' H' e' σ' ∧ Same F1 F' ∧ AtS X.K W (bg np F H e σ) (loopN i mb (vs.drop j)) F' e' σ' H' D) ⟨F1, _, ⟨_, _, _, N0⟩, Same.refl _, k4⟩ ?_ ?_ ?_
  · rintro j σ' H' _ ⟨F', e', ⟨A, bs, xs, N⟩, s', _⟩
    exact still H' (s'.trans N.cur.rel.sub)
  · rintro j x σ' H' H2 hj ⟨F', e', ⟨A, bs, xs, N⟩, s', h'⟩ y
    have hv : vs[j]? = some vs[j] := List.getElem?_eq_getElem hj
    obtain ⟨F2, C2, s2, r2⟩ := gives j _ (bg np F' H' (e'.set iF .un) σ') F' H' _ _ _ _ hv (Cur.refl N.cur.rel) s' y
    have N2 := (N.step C2 s2).setDat hne r2
    refine ⟨_, F2, _, ⟨_, _, _, N2⟩, ?_⟩
    rw [List.drop_eq_getElem_cons hj] at h'
    unfold AtS loopN at h'
    unfold AtN
    cases z2 : mb (e'.set i (.dat vs[j])) with
    | bad => simp only [z2] at h'
    | rs x3 e3 => simp only [z2] at h'
    | ok o e3 =>
      cases o with
      | nx =>
        simp only [z2] at h'
        exact fun F3 H3 σ3 s3 N3 => ⟨F3, e3, N3, s'.trans (s2.trans s3), h'⟩
      | ct => simp only [z2] at h'
      | bk => simp only [z2] at h'
      | rt r =>
        cases r with
        | dat v => cases v with
          | non =>
            simp only [z2] at h'
            rintro F3 H3 σ3 s3 ⟨A3, bs3, xs3, N3⟩
            exact h' _ _ _ _ N3.thaw.1 VR.non
          | _ => simp only [z2] at h'
        | _ => simp only [z2] at h'
  · rintro σ' H' ⟨F', e', ⟨A, bs, xs, N⟩, s', h'⟩
    rw [List.drop_length] at h'
    exact h'.nx rfl N.thaw.1
end
section
variable {e : Ev}
theorem ok_K {α : Type} {m : M α} {Q : α → Ev → Prop} : Ok (mK m) e Q ↔ Ok m e fun a _ => Q a e := by
  constructor
  · intro h
    obtain ⟨a, e', h1, h2⟩ := ok_ex.mp h
    unfold mK at h1
    cases z : m e with
    | ok b e2 => rw [z] at h1; cases h1; exact ok_ex.mpr ⟨_, _, z, h2⟩
    | _ => rw [z] at h1; cases h1
  · intro h
    obtain ⟨a, e', h1, h2⟩ := ok_ex.mp h
    exact ok_ex.mpr ⟨a, e, by unfold mK; rw [h1], h2⟩
theorem ok_nIf {c : M Bool} {a b : S} {Q : Out → Ev → Prop} : Ok (mNIf c a b) e Q ↔ Ok c e fun k _ => (k = true → Ok a e Q) ∧ (¬ k = true → Ok b e Q) := by
  unfold mNIf
  rw [ok_if, ok_K]
theorem ok_nSet {i : Nat} {m : M RV} {Q : Out → Ev → Prop} : Ok (mNSet i m) e Q ↔ Ok m e fun r _ => match r with
    | .dat v => noLst v = true ∧ Q .nx (e.set i (.dat v))
    | _ => False := by
  unfold mNSet
  rw [ok_bind, ok_K]
  refine Ok.iff' fun r e1 => ?_
  cases r with
  | dat v =>
    by_cases h : noLst v = true
    · simp only [if_pos h]
      exact ⟨fun q => ⟨h, q⟩, fun q => q.2⟩
    · simp only [if_neg h]
      exact ⟨fun q => (ok_bad.mp q).elim, fun q => absurd q.1 h⟩
  | tmp v => exact ok_bad
  | bor v => exact ok_bad
theorem ok_nApp {iF : Nat} {ma : M RV} {Q : Out → Ev → Prop} : Ok (mNApp iF ma) e Q ↔ Ok ma e fun r _ => match r with
    | .tmp (.lst ys) => noLsts ys = true ∧ (match e[iF]? with
      | some (.dat (.lst zs)) => zs.length < sizeLine ∧ Q .nx (e.set iF (.dat (.lst (zs ++ [.lst ys]))))
      | _ => False)
    | _ => False := by
  unfold mNApp
  rw [ok_bind, ok_K]
  refine Ok.iff' fun r e1 => ?_
  cases r with
  | dat v => exact ok_bad
  | bor v => exact ok_bad
  | tmp v => cases v with
    | lst ys =>
      by_cases h : noLsts ys = true
      · simp only [if_pos h]
        rw [ok_ex]
        cases z : e[iF]? with
        | none => exact ⟨fun ⟨_, _, q, _⟩ => (by simp at q), fun q => False.elim q.2⟩
        | some s => cases s with
          | dat v => cases v with
            | lst zs =>
              by_cases hl : zs.length < sizeLine
              · simp only [if_pos hl]
                exact ⟨fun ⟨_, _, q, q2⟩ => (by cases q; exact ⟨h, hl, q2⟩), fun q => ⟨_, _, rfl, q.2.2⟩⟩
              · simp only [if_neg hl]
                exact ⟨fun ⟨_, _, q, q2⟩ => (by cases q), fun q => absurd q.2.1 hl⟩
            | _ => exact ⟨fun ⟨_, _, q, _⟩ => (by cases q), fun q => False.elim q.2⟩
          | _ => exact ⟨fun ⟨_, _, q, _⟩ => (by cases q), fun q => False.elim q.2⟩
      · simp only [if_neg h]
        exact ⟨fun q => (ok_bad.mp q).elim, fun q => absurd q.1 h⟩
    | _ => exact ok_bad
theorem ok_nPut {iF : Nat} {m1 m2 mv : M RV} {Q : Out → Ev → Prop} : Ok (mNPut iF m1 m2 mv) e Q ↔ Ok mv e fun r _ => Ok m1 e fun r1 _ => Ok m2 e fun r2 _ => match r, r1, r2 with
    | .dat v, .dat (.int k1), .dat (.int k2) => noLst v = true ∧ Ok (putN iF v k1 k2) e Q
    | _, _, _ => False := by
  unfold mNPut
  rw [ok_bind, ok_K]
  refine Ok.iff' fun r e1 => ?_
  rw [ok_bind, ok_K]
  refine Ok.iff' fun r1 e2 => ?_
  rw [ok_bind, ok_K]
  refine Ok.iff' fun r2 e3 => ?_
  cases r with
  | dat v => cases r1 with
    | dat v1 => cases v1 with
      | int k1 => cases r2 with
        | dat v2 => cases v2 with
          | int k2 =>
            by_cases h : noLst v = true
            · simp only [if_pos h]; exact ⟨fun q => ⟨h, q⟩, fun q => q.2⟩
            · simp only [if_neg h]; exact ⟨fun q => (ok_bad.mp q).elim, fun q => absurd q.1 h⟩
          | _ => exact ok_bad
        | _ => exact ok_bad
      | _ => exact ok_bad
    | _ => exact ok_bad
  | _ => exact ok_bad
theorem ok_nFor {iF i : Nat} {mi : M (List Val)} {mb : S} {Q : Out → Ev → Prop} : Ok (mNFor iF i mi mb) e Q ↔ Ok mi e fun vs e1 => match e1[iF]? with
    | some (.own (.lst [])) => (noOwnE (e1.set iF .un) = true ∧ vs.all noLst = true) ∧ Ok (loopN i mb vs) (e1.set iF (.dat (.lst []))) Q
    | _ => False := by
  unfold mNFor
  rw [ok_bind]
  refine Ok.iff' fun vs e1 => ?_
  rw [ok_ex]
  cases z : e1[iF]? with
  | none => exact ⟨fun ⟨_, _, q, _⟩ => (by cases q), fun q => False.elim q⟩
  | some s => cases s with
    | own v => cases v with
      | lst zs => cases zs with
        | nil =>
          by_cases h : noOwnE (e1.set iF .un) = true ∧ vs.all noLst = true
          · simp only [if_pos h]
            exact ⟨fun q => ⟨h, ok_ex.mpr q⟩, fun q => ok_ex.mp q.2⟩
          · simp only [if_neg h]
            exact ⟨fun ⟨_, _, q, _⟩ => (by cases q), fun q => absurd q.1 h⟩
        | cons _ _ => exact ⟨fun ⟨_, _, q, _⟩ => (by cases q), fun q => False.elim q⟩
      | _ => exact ⟨fun ⟨_, _, q, _⟩ => (by cases q), fun q => False.elim q⟩
    | _ => exact ⟨fun ⟨_, _, q, _⟩ => (by cases q), fun q => False.elim q⟩
theorem ok_loopN0 {i : Nat} {mb : S} {Q : Out → Ev → Prop} : Ok (loopN i mb []) e Q ↔ Q .nx e := ok_skip
theorem ok_loopNC {i : Nat} {mb : S} {v : Val} {r : List Val} {Q : Out → Ev → Prop} : Ok (loopN i mb (v :: r)) e Q ↔ Ok mb (e.set i (.dat v)) fun o e2 => match o with
    | .nx => Ok (loopN i mb r) e2 Q
    | .rt (.dat .non) => Q (.rt (.dat .non)) e2
    | _ => False := by
  rw [ok_ex, ok_ex]
  have e1 : loopN i mb (v :: r) e = (match mb (e.set i (.dat v)) with
    | .ok .nx e2 => loopN i mb r e2
    | .ok (.rt (.dat .non)) e2 => .ok (.rt (.dat .non)) e2
    | _ => .bad) := rfl
  rw [e1]
  constructor
  · rintro ⟨a, e', h1, h2⟩
    split at h1
    · rename_i q; exact ⟨_, _, q, ok_ex.mpr ⟨_, _, h1, h2⟩⟩
    · rename_i q; cases h1; exact ⟨_, _, q, h2⟩
    · cases h1
  · rintro ⟨o, e2, h1, h2⟩
    rw [h1]
    cases o with
    | nx => exact ok_ex.mp h2
    | rt r => cases r with
      | dat v => cases v with
        | non => exact ⟨_, _, rfl, h2⟩
        | _ => exact False.elim h2
      | _ => exact False.elim h2
    | _ => exact False.elim h2
end
end Pu
set_option Elab.async false
set_option linter.all false
set_option maxRecDepth 100000
namespace Pu
open PySem PySem.Spec PyProof.Rows L2
namespace EE
open PySem.SeqAt MeetsSeq MeetsSeq2 MeetsSeq3 SeqRoads2
section
variable {prog : Program} {w : World} {A : Around} {R : Result → Shared → Prop}
theorem tuple_eqE (l b : Addr) (items items2 : Array Value) (n n2 : Nat) (dd dd2 : Option Addr) (sl sl2 : Array (Option Value)) (hsz : items2.size = 0) {s : Shared}
    (fin : R (.ok (.ret (.bool (items.size == 0)))) s) (hl1 : s.heap.get? l = some { cls := .type "tuple", dict := dd, data := .seq items n, slots := sl }) (hb1 : s.heap.get? b = some { cls := .type "tuple", dict := dd2, data := .seq items2 n2, slots := sl2 }) :
    wpAny (model prog w) A.in1 (Builtin.«tuple.__eq__» ⟨[.ref l, .ref b], []⟩) (GQ.FinOf prog w A R) (fun e s' => R (.error e) s') s := by
  have f2 := AutoSeq1.sub_tuple_tuple
  have hZ : (items.toList.zip items2.toList) = [] := by
    have : items2.toList = [] := List.length_eq_zero_iff.mp (by simpa using hsz)
    rw [this]
    simp
  obtain ⟨hp, g, d, tk, os⟩ := s
  wp_walk using wpAny_loadPart' hl1, wpAny_loadPart' hb1, wpAny_forIn_list _ (fun rest b s' => b.1 = none ∧ rest = [] ∧ s' = ⟨hp, g, d, tk, os⟩) _
  case turn =>
    rintro ⟨y, x⟩ rest b s' ⟨hb', hz, _⟩
    cases hz
  case fin =>
    rintro ⟨b1, b2⟩ s' ⟨hb', _, hs⟩
    simp only at hb'
    subst hb'
    subst hs
    wp_walk
    simpa [Builtin.Tuple.tupleCompareSizes, hsz] using fin
  case h =>
    exact ⟨rfl, hZ, rfl⟩
end
section
variable {prog : Program} {w : World} {A : Around} {E : Value → Shared → Prop} {s : Shared}
theorem rc_tupE {l b : Addr} {items items2 : Array Value} {Q : Value → Shared → Prop} (hsz : items2.size = 0) (hu : A.units < cLine)
    (hl : s.heap.IsTuple l items) (hb : s.heap.IsTuple b items2) (fin : Q (.bool (items.size == 0)) s) : wpAny (model prog w) A (richCompare .Eq (.ref l) (.ref b)) Q E s := by
  obtain ⟨⟨cls, dd, data, sl⟩, ho, hc, n, hd⟩ := id hl
  obtain ⟨⟨cls2, dd2, data2, sl2⟩, ho2, hc2, n2, hd2⟩ := id hb
  simp only at hc hd hc2 hd2
  subst hc hd hc2 hd2
  refine wpAny_richCompare_same_room (op := .Eq) ⟨_, ho, rfl⟩ ⟨_, ho2, rfl⟩ F.slot_tuple_eq (GQ.call_here F.slot_tuple_eq ⟨_, ho, rfl⟩ F.entry_tuple_eq (F.args_tuple_eq_2 _ _) ?_) hu
  exact tuple_eqE (R := wants (fun v s' => v ≠ .notImplemented ∧ Q v s') E) l b items items2 n n2 dd dd2 sl sl2 hsz ⟨(fun x => nomatch x), fin⟩ ho ho2
end
end EE
section
variable {K : PySem.W.Frag} {W : WX} {B : Bg} {F H : Hp} {e : Ev} {σ : Sig}
def rEqE (K : PySem.W.Frag) : R2 := fun x y H Q => ∃ a b xs, x = .ref a ∧ y = .ref b ∧ SqT K H a xs ∧ SqT K H b [] ∧ Q (.bl (decide (xs.length = 0))) H
theorem op_eqE {X : Cx} (hu : X.A.units + 64 < cLine) : OpR X (compareOp .Eq) (rEqE X.K) := by
  intro pins s σ H x y v u Q I rx ry h
  obtain ⟨a, b, xs, rfl, rfl, ha, hb, q⟩ := h
  cases rx
  cases ry
  obtain ⟨its, r, e, z⟩ := I.tuple ha
  obtain ⟨its2, r2, e2, z2⟩ := I.tuple hb
  show wpAny (model X.prog X.w) X.A (richCompare .Eq (.ref a) (.ref b)) (EP X pins σ Q) X.xe s
  refine EE.rc_tupE (by rw [List.size_toArray, ← r2.length]; rfl) (by omega) e e2 ?_
  refine ⟨.bl (decide (xs.length = 0)), H, I, ?_, q⟩
  show Value.bool _ = Value.bool _
  rw [List.size_toArray, ← r.length]
  congr 1
def oEqE (x y : Val) : M RV := match x, y with
  | .tup xs, .tup [] => mV (.bl (decide (xs.length = 0)))
  | _, _ => M.bad
theorem v_eqE : OpV K W oEqE (rEqE K) := by
  intro B F H e σ v w x y Q C rv rw_ h
  unfold oEqE at h
  split at h
  · rename_i xs
    have tr : ∀ {vs : List Val} {z : V}, RdR K F H (.tup vs) z → ∃ a us, z = .ref a ∧ SqT K H a us ∧ vs.length = us.length := fun {vs z} r => by
      rcases r with r | ⟨t, e, r⟩
      · cases r with
        | tup h1 h2 => exact ⟨_, _, rfl, sqT_mono C.rel.sub h1, h2.length⟩
      · exact r.elim
    obtain ⟨a, us, e1, h1, l1⟩ := tr rv
    obtain ⟨b, ws, e2, h2, l2⟩ := tr rw_
    have : ws = [] := List.length_eq_zero_iff.mp l2.symm
    subst this
    refine ⟨a, b, us, e1, e2, h1, h2, ?_⟩
    rw [← l1]
    exact h.ok rfl C (VR.bl _)
  · exact h.elim
theorem b_eqE : ∀ v w e r' e', oEqE v w e = .ok r' e' → ∃ b, r' = .dat (.bl b) := by
  intro v w e r' e' h
  unfold oEqE at h
  split at h
  · unfold mV M.ret at h; cases h; exact ⟨_, rfl⟩
  · cases h
end
end Pu
set_option Elab.async false
set_option linter.all false
set_option maxRecDepth 100000
set_option maxHeartbeats 2000000
namespace Pu
open PySem PySem.Spec PyProof.Rows L2
def rSortT (K : PySem.W.Frag) : List V → Hp → VK → Prop := fun xs H Q => ∃ (t : Addr) (is : List Int), xs = [V.ref t] ∧ SqT K H t (is.map V.int) ∧
  ∀ (js : List Int) (q : Addr), js.Perm is → js.Pairwise (· ≤ ·) → H q = none → Q (.ref q) (upd H q (.lst (js.map V.int)))
theorem sort_tup {prog : Program} {w : World} {A : Around} {E : Value → Shared → Prop} {st : Shared} {t : Addr} {vs : List Value} {is : List Int} {Q : Value → Shared → Prop} (hI : IntsAre vs is) (hz : vs.length ≤ sizeLine)
    (ht : ∃ ob, st.heap.get? t = some ob ∧ ob.cls = .type "tuple" ∧ ∃ n, ob.data = .seq vs.toArray n)
    (goal : ∀ (g : Heap) (out : List Value), (∀ b u, st.heap.get? b = some u → g.get? b = some u) → SrtO.Srtd SrtO.ltIv out → SrtO.Stb SrtO.ltIv out vs → Q (.ref g.objs.size) { st with heap := sortedHeap (g.push (seqObj "list" vs.toArray 0)) g.objs.size vs out.toArray }) :
    wpAny (model prog w) A (call (.builtin "sorted") [.ref t]) Q E st := by
  obtain ⟨ob, h1, h2, n, h3⟩ := ht
  refine Calls.call_function_entry kind_sorted plain_sorted entry_sorted (args_sorted1 _) ?_
  unfold Builtin.«sorted»
  refine wpAny_bind (m := checkCount "sorted" 1 1 _) (wpAny_pure (wpAny_bind ?_))
  refine wpAny_collect_seq t (.inr rfl) h1 h2 h3 (fun g keep => ?_) (by rw [List.size_toArray]; exact hz)
  rw [List.toList_toArray]
  refine wpAny_bind (wpAny_newList ?_ hz)
  have top_ : (g.push (seqObj "list" vs.toArray 0)).get? g.objs.size = some (seqObj "list" vs.toArray 0) := Heap.get?_push_size _ rfl
  refine wpAny_bind (wpAny_holding (wpAny_call_entry slot_list_sort ⟨_, top_, rfl⟩ entry_list_sort (SrtO.list_sort_ord (n := 0) SrtO.swo_int top_ hz (fun two => SrtO.ints_sortable hI two) fun out s1 s2 => ?_) (args_list_sort _)))
  exact ⟨_, rfl, wpAny_pure ⟨_, rfl, goal g out keep s1 s2⟩⟩
theorem obj_here {P : Program} {w : World} {H : Hp} {g : Heap} {a : Addr} {o : HO} (x : ObjOk P w H g a o) : ∃ u, g.get? a = some u := by
  cases o <;> first
    | exact ⟨_, (show g.get? a = some _ from x)⟩
    | (obtain ⟨_, z⟩ := x; exact ⟨_, z⟩)
    | (obtain ⟨z, _⟩ := x; exact ⟨_, z⟩)
    | (obtain ⟨_, ⟨_, z⟩, _⟩ := x; exact ⟨_, z⟩)
    | (obtain ⟨_, ⟨_, _, _, z, _⟩, _⟩ := x; exact ⟨_, z⟩)
    | (obtain ⟨_, _, _, z⟩ := x; exact ⟨_, z⟩)
    | (obtain ⟨_, _, _, _, z⟩ := x; exact ⟨_, z⟩)
    | (obtain ⟨_, _, _, z, _⟩ := x; exact ⟨_, z⟩)
    | (obtain ⟨_, _, _, _, z, _⟩ := x; exact ⟨_, z⟩)
    | (obtain ⟨_, _, _, _, _, z, _⟩ := x; exact ⟨_, z⟩)
    | (obtain ⟨_, _, _, _, _, _, _, z, _⟩ := x; exact ⟨_, z⟩)
theorem cr_sortT {X : Cx} : CallR X (.builtin "sorted") (rSortT X.K) := by
  intro pins st σ H vs us Q I r h
  obtain ⟨t, is, rfl, hs, q⟩ := h
  obtain ⟨its, rv, ⟨ob, h1, h2, n, h3⟩, hz⟩ := I.tuple hs
  rw [Vals.ref1 r]
  have whole := rv.ints
  have hl : its.length ≤ sizeLine := by rw [← rv.length]; exact hz
  refine sort_tup whole hl ⟨ob, h1, h2, n, h3⟩ fun g out keep s1 s2 => ?_
  obtain ⟨k1, k2, k3⟩ := SrtO.ints_out whole s1 s2
  have top_ : (g.push (seqObj "list" its.toArray 0)).get? g.objs.size = some (seqObj "list" its.toArray 0) := Heap.get?_push_size _ rfl
  obtain ⟨ep, at_⟩ := sortedHeap_at (out := out.toArray) top_
  have small : ((out.map SrtO.iv).map V.int).length ≤ sizeLine := by
    rw [List.length_map, k2.length_eq, ← List.length_map (f := V.int)]
    exact hz
  have off : st.heap.get? g.objs.size = none := by
    cases z : st.heap.get? g.objs.size with
    | none => rfl
    | some u => exact absurd (Heap.lt_size (keep _ _ z)) (Nat.lt_irrefl _)
  have free : H g.objs.size = none := by
    cases z : H g.objs.size with
    | none => rfl
    | some u =>
      obtain ⟨v, hv⟩ := obj_here (I.hok _ _ z)
      rw [off] at hv
      cases hv
  refine ⟨.ref _, upd H g.objs.size (.lst ((out.map SrtO.iv).map V.int)), I.laidN (t' := st.toks) (fun b u e => ?_) off free ⟨small, out, ep, vals_of_ints k1, at_⟩, rfl, q _ _ k2 k3 free⟩
  have lt : b < g.objs.size := Heap.lt_size (keep _ _ e)
  rw [sortedHeap_old (Nat.ne_of_lt lt) (by rw [size_push']; exact Nat.lt_succ_of_lt lt)]
  exact Heap.get?_push_of_some _ (keep _ _ e)
def mSortT (m : M RV) : M RV := m.bind fun r => (M.rd r).bind fun v => match v with
  | .tup xs => match ints? xs with
    | some ns => M.ret (.tmp (.lst ((sortI ns).map .int)))
    | none => M.bad
  | _ => M.bad
section
variable {X : Cx} {W : WX} {a : Expr} {ma : M RV} {p pos : Pos}
theorem se_sortT (gl : Gl X "sorted") (fr : X.mg "sorted" = none) (ha : SE X W a ma) (h1 : starEach (a :: []) X.env = (false, eval a X.env) :: starEach [] X.env := by rfl) (h2 : (backTo pos (starEach [] X.env)).any (·.1) = false := by rfl) : SE X W (.Call (.Name "sorted" p) [a] [] pos) (mSortT ma) := by
  refine PE.imp (pe_callB cr_sortT gl fr (by decide +kernel) (sa_cons ha sa_nil h1) (by decide) (by decide) h1 h2) fun σ H Q h => ?_
  obtain ⟨np, F, e, Rl, h⟩ := h
  refine sa_1 (Cur.refl Rl) h fun r e1 F1 H1 x C1 q1 h1 => ?_
  obtain ⟨v, rv, h2⟩ := At.rd C1.rel q1 h1
  split at h2
  · rename_i xs
    split at h2
    · rename_i is hn
      obtain ⟨l, us, rfl, h3, h4⟩ := rv.tup C1.rel.sub
      rw [intsV_of h4 hn] at h3
      refine ⟨l, is, rfl, h3, fun js t pm up ht => ?_⟩
      rw [sorted_eq (pm.trans sortI_perm.symm) up sortI_ris]
      exact lst_new (W := W) C1 ht h2
    · exact h2.elim
  · exact h2.elim
end
def mDct0 : M RV := M.ret (.tmp (.dct [] []))
theorem se_dct0 {X : Cx} {W : WX} {pos : Pos} : SE X W (.Dict [] [] pos) mDct0 := by
  refine PE.imp pe_dnewK fun σ H Q h => ?_
  obtain ⟨np, F, e, Rl, h⟩ := h
  intro p hp
  obtain ⟨C3, n3, f3, m3⟩ := (Cur.refl (np := np) Rl).grow (o := .dK []) hp
  exact h.ok (r := RV.tmp (.dct [] [])) rfl C3 ⟨p, rfl, f3, ⟨[], upd_same, rfl, .nil⟩, n3, m3⟩
end Pu
set_option Elab.async false
set_option linter.all false
set_option maxRecDepth 100000
set_option maxHeartbeats 2000000
namespace Pu
open PySem PySem.Spec PyProof.Rows L2
mutual
def isR : Val → Bool
  | .non => true
  | .bl _ => true
  | .int _ => true
  | .str x => PyData.strOk x
  | .tup xs => isRs xs
  | .lst xs => isRs xs
  | .dct ks vs => ks.isEmpty && vs.isEmpty
  | .ty _ => false
  | .glo _ => false
  | .obj _ _ _ => false
def isRs : List Val → Bool
  | [] => true
  | x :: xs => isR x && isRs xs
end
mutual
theorem shR_ok : ∀ v : Val, isR v = true → iOk v = true → (toP v).showable = true ∧ (toP v).shown.length ≤ rsz v
  | .non, _, _ => ⟨(show_ok .non rfl rfl).1, (show_ok .non rfl rfl).2.2⟩
  | .bl b, _, _ => ⟨(show_ok (.bl b) rfl rfl).1, (show_ok (.bl b) rfl rfl).2.2⟩
  | .int i, _, h => ⟨(show_ok (.int i) rfl h).1, (show_ok (.int i) rfl h).2.2⟩
  | .str x, d, h => ⟨(show_ok (.str x) d h).1, (show_ok (.str x) d h).2.2⟩
  | .tup xs, d, h => by
    obtain ⟨a, c⟩ := shRs_ok xs (by simpa [isR] using d) (by simpa [iOk] using h)
    refine ⟨by simpa [toP, PyData.showable] using a, ?_⟩
    simp only [toP, PyData.shown, rsz]
    have := tupleText_len_le (PyData.shownAll (toPs xs))
    omega
  | .lst xs, d, h => by
    obtain ⟨a, c⟩ := shRs_ok xs (by simpa [isR] using d) (by simpa [iOk] using h)
    refine ⟨by simpa [toP, PyData.showable] using a, ?_⟩
    simp only [toP, PyData.shown, rsz]
    have := listText_len_le (PyData.shownAll (toPs xs))
    omega
  | .dct ks vs, _, _ => by
    refine ⟨by simp [toP, PyData.showable, PyData.showableKv], ?_⟩
    simp only [toP, PyData.shown, PyData.shownKv, rsz]
    decide
  | .ty _, d, _ => by simp [isR] at d
  | .glo _, d, _ => by simp [isR] at d
  | .obj _ _ _, d, _ => by simp [isR] at d
theorem shRs_ok : ∀ xs : List Val, isRs xs = true → iOks xs = true → PyData.showableAll (toPs xs) = true ∧ ((PyData.shownAll (toPs xs)).map (·.length)).sum + 2 * (PyData.shownAll (toPs xs)).length ≤ rszs xs
  | [], _, _ => ⟨by simp [toPs, PyData.showableAll], by simp [toPs, PyData.shownAll, rszs]⟩
  | x :: xs, d, h => by
    have d' : isR x = true ∧ isRs xs = true := by simpa [isRs] using d
    have h' : iOk x = true ∧ iOks xs = true := by simpa [iOks] using h
    obtain ⟨a1, c1⟩ := shR_ok x d'.1 h'.1
    obtain ⟨a2, c2⟩ := shRs_ok xs d'.2 h'.2
    refine ⟨by simp [toPs, PyData.showableAll, a1, a2], ?_⟩
    simp only [toPs, PyData.shownAll, List.map_cons, List.sum_cons, List.length_cons, rszs]
    omega
end
mutual
inductive Dr (K : PySem.W.Frag) (H : Hp) : V → PyData → Prop
  | non : Dr K H .non .none
  | bl (b : Bool) : Dr K H (.bl b) (.bool b)
  | int (i : Int) : Dr K H (.int i) (.int i)
  | str (x : Str) : Dr K H (.str x) (.str x)
  | lst {t : Addr} {us : List V} {ps : List PyData} : SqL K H t us → Drs K H us ps → Dr K H (.ref t) (.list ps)
  | tup {t : Addr} {us : List V} {ps : List PyData} : SqT K H t us → Drs K H us ps → Dr K H (.ref t) (.tuple ps)
  | dct {t : Addr} : H t = some (.dK []) → Dr K H (.ref t) (.dict [])
inductive Drs (K : PySem.W.Frag) (H : Hp) : List V → List PyData → Prop
  | nil : Drs K H [] []
  | cons {u : V} {us : List V} {q : PyData} {ps : List PyData} : Dr K H u q → Drs K H us ps → Drs K H (u :: us) (q :: ps)
end
def SysAt (K : PySem.W.Frag) : Prop := ∃ o, K.lookup sysModules = some o ∧ o.cls = .type "dict"
theorem SysAt.apart {K : PySem.W.Frag} {g : Heap} {ob : Obj} (sm : SysAt K) (k : K.In g) (h : g.get? sysModules = some ob) (c : ob.cls = .type "list") : False := by
  obtain ⟨o, h1, h2⟩ := sm
  have := k _ _ h1
  rw [h] at this
  cases this
  rw [c] at h2
  injection h2 with z
  exact absurd z (by decide)
section
variable {X : Cx} {pins : List (Addr × Obj)} {σ : L2.St} {H : Hp} {st : Shared}
mutual
theorem Dr.reads (sm : SysAt X.K) (I : Inv X pins σ H st) : ∀ (q : PyData) (u : V) (w : Value), Dr X.K H u q → RelV u w → ∃ ws, Reads st.heap w q ws ∧ sysModules ∉ ws
  | .none, _, _, h, r => by
    cases h
    cases r
    exact ⟨[], .none, nofun⟩
  | .bool b, _, _, h, r => by
    cases h
    cases r
    exact ⟨[], .bool b, nofun⟩
  | .int i, _, _, h, r => by
    cases h
    obtain ⟨z, rfl⟩ := r
    exact ⟨[], .int i z, nofun⟩
  | .str x, _, _, h, r => by
    cases h
    obtain ⟨z, rfl⟩ := r
    exact ⟨[], .str x z, nofun⟩
  | .list ps, _, _, h, r => by
    cases h with
    | lst h1 h2 =>
      cases r
      obtain ⟨ys, ry, ⟨ob, n, g1, g2, _, g3⟩, _⟩ := I.list h1
      obtain ⟨ws, p1, p2⟩ := Drs.reads sm I ps _ ys h2 ry
      refine ⟨_, .list g1 g2 g3 p1, fun m => ?_⟩
      rcases List.mem_cons.mp m with z | z
      · rw [← z] at g1
        exact sm.apart I.kIn g1 g2
      · exact p2 z
  | .tuple ps, _, _, h, r => by
    cases h with
    | tup h1 h2 =>
      cases r
      obtain ⟨ys, ry, ⟨ob, g1, g2, n, g3⟩, _⟩ := I.tuple h1
      obtain ⟨ws, p1, p2⟩ := Drs.reads sm I ps _ ys h2 ry
      exact ⟨_, .tuple g1 g2 g3 p1, p2⟩
  | .dict kvs, _, _, h, r => by
    cases h with
    | @dct t h1 =>
      cases r
      obtain ⟨_, ne, vs, kv, ob, es, ep, g1, g2, g3, _, ps, _⟩ := I.hok t _ h1
      have e1 : vs = [] := List.length_eq_zero_iff.mp kv.length.symm
      subst e1
      have e2 : es.toList = [] := by
        generalize es.toList = l at ps
        cases ps
        rfl
      refine ⟨t :: [] ++ [], .dict (n := ep) g1 g2.1 g3 (by rw [e2]; exact .nil) (by rw [e2]; exact .nil), fun m => ?_⟩
      have : sysModules = t := by simpa using m
      rw [← this] at ne
      cases ne
theorem Drs.reads (sm : SysAt X.K) (I : Inv X pins σ H st) : ∀ (ps : List PyData) (us : List V) (ws : List Value), Drs X.K H us ps → Vals us ws → ∃ q, ReadsAll st.heap ws ps q ∧ sysModules ∉ q
  | [], _, _, h, r => by
    cases h
    cases r
    exact ⟨[], .nil, nofun⟩
  | q :: ps, _, _, h, r => by
    cases h with
    | cons h1 h2 =>
      cases r with
      | cons r1 r2 =>
        obtain ⟨w1, p1, n1⟩ := Dr.reads sm I q _ _ h1 r1
        obtain ⟨w2, p2, n2⟩ := Drs.reads sm I ps _ _ h2 r2
        exact ⟨w1 ++ w2, .cons p1 p2, fun m => by
          rcases List.mem_append.mp m with z | z
          · exact n1 z
          · exact n2 z⟩
end
end
section
variable {K : PySem.W.Frag} {F H : Hp}
mutual
theorem VR.dr (s : Same F H) : ∀ (v : Val) (u : V), VR K F v u → isR v = true → Dr K H u (toP v)
  | .non, _, h, _ => by cases h; exact .non
  | .bl b, _, h, _ => by cases h; exact .bl b
  | .int i, _, h, _ => by cases h; exact .int i
  | .str x, _, h, _ => by cases h; exact .str x
  | .tup xs, _, h, d => by
    cases h with
    | tup h1 h2 => exact .tup (sqT_mono s h1) (VRs.dr s xs _ h2 (by simpa [isR] using d))
  | .lst xs, _, h, d => by
    cases h with
    | lst h1 h2 => exact .lst (.inl (rd_mono s h1)) (VRs.dr s xs _ h2 (by simpa [isR] using d))
  | .dct ks vs, _, h, d => by
    cases h with
    | dct h1 h2 h3 =>
      have d' : ks = [] ∧ vs = [] := by simpa [isR] using d
      obtain ⟨rfl, rfl⟩ := d'
      cases h3
      exact .dct (s _ _ h1)
  | .ty _, _, _, d => by simp [isR] at d
  | .glo _, _, _, d => by simp [isR] at d
  | .obj _ _ _, _, _, d => by simp [isR] at d
theorem VRs.dr (s : Same F H) : ∀ (xs : List Val) (us : List V), VRs K F xs us → isRs xs = true → Drs K H us (toPs xs)
  | [], _, h, _ => by cases h; exact .nil
  | x :: xs, _, h, d => by
    have h' : isR x = true ∧ isRs xs = true := by simpa [isRs] using d
    cases h with
    | cons h1 h2 => exact .cons (VR.dr s x _ h1 h'.1) (VRs.dr s xs _ h2 h'.2)
end
theorem RdR.dr {v : Val} {u : V} (s : Same F H) (h : RdR K F H v u) (d : isR v = true) : Dr K H u (toP v) := by
  rcases h with h | ⟨t, e, h⟩
  · exact VR.dr s v u h d
  · subst e
    cases v with
    | lst xs =>
      obtain ⟨us, h1, h2⟩ := h
      exact .lst (.inl (.inl h1)) (VRs.dr s xs _ h2 (by simpa [isR] using d))
    | obj _ _ _ => simp [isR] at d
    | dct ks vs =>
      obtain ⟨us, h1, h2, h3⟩ := h
      have d' : ks = [] ∧ vs = [] := by simpa [isR] using d
      obtain ⟨rfl, rfl⟩ := d'
      exact .dct h1
    | _ => exact h.elim
end
def rkOk (v : Val) : Bool := isR v && decide (dep v ≤ 60) && iOk v && decide (rsz v ≤ 16000000)
def fReprR (vs : List Val) : M RV := match vs with
  | [v] => if rkOk v then mV (.str (shownV v)) else M.bad
  | _ => M.bad
def rReprR (K : PySem.W.Frag) : List V → Hp → VK → Prop := fun xs H Q => ∃ x q, xs = [x] ∧ Dr K H x q ∧ q.showable = true ∧ q.depth ≤ 60 ∧ q.shown.length ≤ sizeLine ∧ Q (.str q.shown) H
theorem c_reprR {X : Cx} {k : Nat} (sm : SysAt X.K) (hr : Room k X.A) (hG : X.A.guards = some []) : CallR X (.builtin "repr") (rReprR X.K) := by
  intro pins st σ H xs us Q I rs h
  obtain ⟨x, q, rfl, hd, h1, h3, h4, good⟩ := h
  obtain ⟨u, rfl, ru⟩ := vals1 rs
  obtain ⟨ws, rd, apart⟩ := Dr.reads sm I q x u hd ru
  have un := hr.units
  cases hd with
  | non =>
    cases ru
    exact PySem.P.repr_of_none ⟨V.str _, H, I.tok _, ⟨_, rfl⟩, good⟩
  | bl b =>
    cases ru
    exact PySem.P.repr_of_bool ⟨V.str _, H, I.tok _, ⟨_, by cases b <;> rfl⟩, good⟩
  | int i =>
    obtain ⟨z, rfl⟩ := ru
    exact PySem.P.repr_of_int (by simpa [PyData.showable] using h1) ⟨V.str _, H, I.tok _, ⟨_, rfl⟩, good⟩
  | str y =>
    obtain ⟨z, rfl⟩ := ru
    exact PySem.P.repr_of_str ⟨V.str _, H, I.tok _, ⟨_, rfl⟩, good⟩ h4
  | lst hs ha =>
    cases ru
    exact repr_of_reads' rd h1 (fun _ => apart) hG (by omega) (fun _ _ e => e) (fun g u tk kk => ⟨V.str _, H, I.kept kk, ⟨_, rfl⟩, good⟩) h4
  | tup hs ha =>
    cases ru
    exact repr_of_reads' rd h1 (fun _ => apart) hG (by omega) (fun _ _ e => e) (fun g u tk kk => ⟨V.str _, H, I.kept kk, ⟨_, rfl⟩, good⟩) h4
  | dct hs =>
    cases ru
    exact repr_of_reads' rd h1 (fun _ => apart) hG (by omega) (fun _ _ e => e) (fun g u tk kk => ⟨V.str _, H, I.kept kk, ⟨_, rfl⟩, good⟩) h4
theorem v_reprR {K : PySem.W.Frag} {W : WX} : FnV K W fReprR (rReprR K) := by
  intro B F H e σ vs us Q C r h
  unfold fReprR at h
  split at h
  · rename_i v
    obtain ⟨u, rfl, q⟩ := r.one
    by_cases hh : rkOk v = true
    · rw [if_pos hh] at h
      simp only [rkOk, Bool.and_eq_true, decide_eq_true_eq] at hh
      obtain ⟨⟨⟨h1, h2⟩, h3⟩, h4⟩ := hh
      obtain ⟨a, c⟩ := shR_ok v h1 h3
      exact ⟨u, toP v, rfl, q.dr C.rel.sub h1, a, by rw [depth_of]; exact h2, by rw [sizeLine_eq]; omega, h.ok rfl C (VR.str _)⟩
    · rw [if_neg hh] at h
      exact h.elim
  · exact h.elim
def sysB (K : PySem.W.Frag) : Bool := match K.lookup sysModules with
  | some o => (match o.cls with
    | .type n => n == "dict"
    | _ => false)
  | none => false
theorem sysB_ok {K : PySem.W.Frag} (h : sysB K = true) : SysAt K := by
  unfold sysB at h
  split at h
  · rename_i o e
    split at h
    · rename_i n c
      exact ⟨o, e, by rw [c, eq_of_beq h]⟩
    · cases h
  · cases h
def rNeL (K : PySem.W.Frag) : R2 := fun x y H Q => rNeA K x y H Q ∨ ∃ a b us, x = .ref a ∧ y = .ref b ∧ SqL K H a us ∧ SqL K H b [] ∧ us ≠ [] ∧ Q (.bl true) H
theorem op_neL {X : Cx} (hu : X.A.units + 64 < cLine) : OpR X (compareOp .NotEq) (rNeL X.K) := OpR.or (op_neA hu) (by
  intro pins st σ H x y v u Q I rx ry h
  obtain ⟨a, b, us, rfl, rfl, ha, hb, ne, q⟩ := h
  cases rx
  cases ry
  obtain ⟨ys, r, e, _⟩ := I.list ha
  obtain ⟨zs, r2, e2, _⟩ := I.list hb
  show wpAny (model X.prog X.w) X.A (richCompare .NotEq (.ref a) (.ref b)) (EP X pins σ Q) X.xe st
  have z2 : zs = [] := List.length_eq_zero_iff.mp (by rw [← r2.length]; rfl)
  have z1 : ys ≠ [] := fun z => ne (List.length_eq_zero_iff.mp (by rw [r.length, z]; rfl))
  have z3 : (ys.toArray.size != zs.toArray.size) = true := by
    rw [z2]
    cases ys with
    | nil => exact absurd rfl z1
    | cons _ _ => simp
  exact SeqAt.RcNeAt.lists_lengths e.isList e2.isList z3 (by omega) X.prog X.w _ _ ⟨.bl true, H, I, rfl, q⟩)
def oNeL (x y : Val) : M RV := match x, y with
  | .lst (_ :: _), .lst [] => mV (.bl true)
  | x, y => oNe x y
theorem v_neL {K : PySem.W.Frag} {W : WX} : OpV K W oNeL (rNeL K) := by
  intro B F H e σ v w x y Q C rv rw_ h
  unfold oNeL at h
  split at h
  · rename_i z zs
    obtain ⟨a, us, rfl, h1, h2⟩ := rv.lst C.rel.sub
    obtain ⟨b, ws, rfl, h3, h4⟩ := rw_.lst C.rel.sub
    cases h4
    exact .inr ⟨a, b, us, rfl, rfl, .inl h1, .inl h3, (fun z => by subst z; cases h2), h.ok rfl C (VR.bl _)⟩
  · exact .inl (v_ne C rv rw_ h)
theorem b_neL : ∀ v w e r' e', oNeL v w e = .ok r' e' → ∃ b, r' = .dat (.bl b) := by
  intro v w e r' e' h
  unfold oNeL at h
  split at h
  · unfold mV M.ret at h; cases h; exact ⟨_, rfl⟩
  · exact b_ne _ _ _ _ _ h
end Pu
set_option Elab.async false
set_option linter.all false
set_option maxRecDepth 100000
set_option maxHeartbeats 2000000
namespace Pu
open PySem PySem.Spec PyProof.Rows L2
def oRepT (x y : Val) : M RV := match x, y with
  | .tup (v :: vs), .int k => if 2 ≤ k ∧ k ≤ 1000 ∧ (v :: vs).length ≤ 1000 then M.ret (.dat (.tup (List.replicate k.toNat (v :: vs)).flatten)) else M.bad
  | _, _ => M.bad
theorem v_repT {K : PySem.W.Frag} {W : WX} : OpV K W oRepT (rRepT K) := by
  intro B F H e σ v w x y Q C rv rw_ h
  unfold oRepT at h
  split at h
  · rename_i z zs k
    by_cases hk : 2 ≤ k ∧ k ≤ 1000 ∧ (z :: zs).length ≤ 1000
    · rw [if_pos hk] at h
      obtain ⟨l, us, rfl, h1, h2⟩ := rv.tup C.rel.sub
      have len := h2.length
      refine ⟨l, k, us, rfl, rw_.int, h1, (fun q => by subst q; cases h2), hk.1, hk.2.1, by omega, fun p hp => ?_⟩
      obtain ⟨C3, s3, e3⟩ := C.growF (o := .tup (List.replicate k.toNat us).flatten) hp
      exact h.ok rfl C3 (VR.tup (SqT.of e3) ((h2.rep _).mono s3))
    · rw [if_neg hk] at h
      exact h.elim
  · exact h.elim
end Pu
set_option Elab.async false
set_option linter.all false
set_option maxRecDepth 100000
set_option maxHeartbeats 2000000
namespace Pu
open PySem PySem.Spec PyProof.Rows L2
def rEqL (K : PySem.W.Frag) : R2 := fun x y H Q => rEqA K x y H Q ∨ ∃ a b us, x = .ref a ∧ y = .ref b ∧ SqL K H a us ∧ SqL K H b [] ∧ us ≠ [] ∧ Q (.bl false) H
theorem op_eqL {X : Cx} (hu : X.A.units + 64 < cLine) : OpR X (compareOp .Eq) (rEqL X.K) := OpR.or (op_eqA hu) (by
  intro pins st σ H x y v u Q I rx ry h
  obtain ⟨a, b, us, rfl, rfl, ha, hb, ne, q⟩ := h
  cases rx
  cases ry
  obtain ⟨ys, r, e, _⟩ := I.list ha
  obtain ⟨zs, r2, e2, _⟩ := I.list hb
  show wpAny (model X.prog X.w) X.A (richCompare .Eq (.ref a) (.ref b)) (EP X pins σ Q) X.xe st
  have z2 : zs = [] := List.length_eq_zero_iff.mp (by rw [← r2.length]; rfl)
  have z1 : ys ≠ [] := fun z => ne (List.length_eq_zero_iff.mp (by rw [r.length, z]; rfl))
  have z3 : (ys.toArray.size != zs.toArray.size) = true := by
    rw [z2]
    cases ys with
    | nil => exact absurd rfl z1
    | cons _ _ => simp
  exact SeqAt.RcAt.lists_lengths e.isList e2.isList z3 (by omega) X.prog X.w _ _ ⟨.bl false, H, I, rfl, q⟩)
def oEqL (x y : Val) : M RV := match x, y with
  | .lst (_ :: _), .lst [] => mV (.bl false)
  | x, y => oEq x y
theorem v_eqL {K : PySem.W.Frag} {W : WX} : OpV K W oEqL (rEqL K) := by
  intro B F H e σ v w x y Q C rv rw_ h
  unfold oEqL at h
  split at h
  · rename_i z zs
    obtain ⟨a, us, rfl, h1, h2⟩ := rv.lst C.rel.sub
    obtain ⟨b, ws, rfl, h3, h4⟩ := rw_.lst C.rel.sub
    cases h4
    exact .inr ⟨a, b, us, rfl, rfl, .inl h1, .inl h3, (fun z => by subst z; cases h2), h.ok rfl C (VR.bl _)⟩
  · exact .inl (v_eq C rv rw_ h)
theorem b_eqL : ∀ v w e r' e', oEqL v w e = .ok r' e' → ∃ b, r' = .dat (.bl b) := by
  intro v w e r' e' h
  unfold oEqL at h
  split at h
  · unfold mV M.ret at h; cases h; exact ⟨_, rfl⟩
  · exact b_eq _ _ _ _ _ h
end Pu
set_option Elab.async false
set_option linter.all false
set_option maxRecDepth 100000
set_option maxHeartbeats 2000000
namespace Pu
open PySem PySem.Spec PyProof.Rows L2
section
variable {K : PySem.W.Frag} {W : WX}
def fStrI (vs : List Val) : M RV := match vs with
  | [.int i] => if i.natAbs.log2 < 1920 then mV (.str (toString i)) else M.bad
  | _ => M.bad
theorem v_strI : FnV K W fStrI (fun xs H Q => ∃ i, xs = [.int i] ∧ i.natAbs.log2 < 1920 ∧ Q (.str (toString i)) H) := by
  intro B F H e σ vs us Q C r h
  unfold fStrI at h
  split at h
  · rename_i i
    obtain ⟨u, rfl, q⟩ := r.one
    by_cases hi : i.natAbs.log2 < 1920
    · rw [if_pos hi] at h
      exact ⟨i, by rw [q.int], hi, h.ok rfl C (VR.str _)⟩
    · rw [if_neg hi] at h
      exact h.elim
  · exact h.elim
def fIntS (vs : List Val) : M RV := match vs with
  | [.str a] => (match PySem.intText? a with
    | some n => if a.length ≤ 640 then mV (.int n) else M.bad
    | none => M.bad)
  | _ => M.bad
theorem v_intS : FnV K W fIntS (fun xs H Q => ∃ a n, xs = [.str a] ∧ PySem.intText? a = some n ∧ a.length ≤ 640 ∧ Q (.int n) H) := by
  intro B F H e σ vs us Q C r h
  unfold fIntS at h
  split at h
  · rename_i a
    obtain ⟨u, rfl, q⟩ := r.one
    split at h
    · rename_i n hn
      by_cases hi : a.length ≤ 640
      · rw [if_pos hi] at h
        exact ⟨a, n, by rw [q.str], hn, hi, h.ok rfl C (VR.int _)⟩
      · rw [if_neg hi] at h
        exact h.elim
    · exact h.elim
  · exact h.elim
def inS (i j : Str) : Bool := !(Builtin.Str.occurrences j i 0 j.length 1).isEmpty
def oInS (x y : Val) : M RV := match x, y with
  | .str i, .str j => mV (.bl (inS i j))
  | _, _ => M.bad
theorem v_inS : OpV K W oInS (fun x y H Q => ∃ i j, x = .str i ∧ y = .str j ∧ Q (.bl (!(Builtin.Str.occurrences j i 0 j.length 1).isEmpty)) H) := by
  intro B F H e σ v w x y Q C rv rw_ h
  unfold oInS at h
  split at h
  · exact ⟨_, _, rv.str, rw_.str, h.ok rfl C (VR.bl _)⟩
  · exact h.elim
theorem b_inS : ∀ v w e r' e', oInS v w e = .ok r' e' → ∃ b, r' = .dat (.bl b) := by
  intro v w e r' e' h
  unfold oInS at h
  split at h
  · unfold mV M.ret at h; cases h; exact ⟨_, rfl⟩
  · cases h
end
def signs (x : Str) : List Val := x.cps.toList.map fun c => .str ⟨#[c]⟩
def mItemsS (a : M RV) : M (List Val) := a.bind fun r => (M.rd r).bind fun v => match v with
  | .str x => M.ret (signs x)
  | _ => M.bad
section
variable {X : Cx} {W : WX} {a tg : Expr} {ma : M RV}
theorem si_str (ha : SE X W a ma) : SI X W tg a (mItemsS ma) := by
  refine PI.imp (pi_str ha) fun σ H R h => ?_
  obtain ⟨np, F, e, Rl, h⟩ := h
  refine use (R1 := RR X.K) (Cur.refl Rl) h fun r e1 F1 H1 x C1 q1 _ h1 => ?_
  obtain ⟨v, rv, h2⟩ := At.rd C1.rel q1 h1
  split at h2
  · rename_i z
    refine ⟨z, rv.str, h2.ok rfl C1 ⟨fun _ => True, fun i H v H' => H' = H ∧ ∃ c, z.cps[i]? = some c ∧ v = .str ⟨#[c]⟩, ?_, fun _ _ => trivial, ?_⟩⟩
    · have := walk_str (z := z)
      unfold signs
      rw [List.length_map, Array.length_toList]
      exact this
    · rintro i v B1 F2 H2 e2 σ2 x H' hv C2 _ ⟨rfl, c, hc, rfl⟩
      refine ⟨F2, C2, Same.refl _, ?_⟩
      unfold signs at hv
      rw [List.getElem?_map, Array.getElem?_toList, hc] at hv
      cases hv
      exact VR.str _
  · exact h2.elim
end
def strs? : List Val → Option (List Str)
  | [] => some []
  | .str x :: r => (match strs? r with
    | some xs => some (x :: xs)
    | none => none)
  | _ :: _ => none
theorem strsV_of {K : PySem.W.Frag} {F : Hp} : ∀ {vs : List Val} {us : List V} {xs : List Str}, VRs K F vs us → strs? vs = some xs → us = xs.map V.str
  | [], _, _, h, q => by cases h; cases q; rfl
  | v :: vs, _, xs, .cons a b, q => by
    cases v with
    | str i =>
      unfold strs? at q
      cases z : strs? vs with
      | none => rw [z] at q; cases q
      | some is =>
        rw [z] at q
        cases q
        cases a
        rw [strsV_of b z]
        rfl
    | _ => cases q
def spl (a b : Str) : List Val := (Txt.split a b).map .str
def mSplit (mo ma : M RV) : M RV := mo.bind fun r => (M.rd r).bind fun v => match v with
  | .str a => ma.bind fun s => (M.rd s).bind fun w => match w with
    | .str b => if (b.length == 0) = false ∧ a.length + 2 ≤ sizeLine then M.ret (.tmp (.lst (spl a b))) else M.bad
    | _ => M.bad
  | _ => M.bad
def joinOk (a : Str) (ys : List Str) : Prop := (ys.map (·.length)).sum + ys.length * a.length ≤ 16777216
instance {a : Str} {ys : List Str} : Decidable (joinOk a ys) := by unfold joinOk; infer_instance
def mJoin (mo ma : M RV) : M RV := mo.bind fun r => (M.rd r).bind fun v => match v with
  | .str a => ma.bind fun s => (M.rd s).bind fun w => match w with
    | .lst vs => (match strs? vs with
      | some ys => if joinOk a ys then mV (.str (Txt.join a ys)) else M.bad
      | none => M.bad)
    | .tup vs => (match strs? vs with
      | some ys => if joinOk a ys then mV (.str (Txt.join a ys)) else M.bad
      | none => M.bad)
    | _ => M.bad
  | _ => M.bad
section
variable {X : Cx} {W : WX} {o e : Expr} {mo ma : M RV} {apos cpos : Pos}
theorem se_split (ho : SE X W o mo) (ha : SE X W e ma) (hbase : attributeBase o "split" X.env (eval o X.env) = eval o X.env := by rfl)
    (hfew : ((backTo cpos (starEach [e] X.env)).all (fun x => !x.1) && (backToKw cpos (keywordEach [] X.env)).all (fun x => x.1.isSome) && decide ([e].length + ([] : List Keyword).length + (if ([] : List Keyword).isEmpty then 0 else 1) < 30)) = true := by rfl)
    (hline : (apos.endLine == cpos.line) = true := by rfl) (hs : starEach [e] X.env = (false, eval e X.env) :: starEach [] X.env := by rfl) (hplain : (backTo cpos (starEach [] X.env)).any (·.1) = false := by rfl) :
    SE X W (.Call (.Attribute o "split" apos) [e] [] cpos) (mSplit mo ma) := by
  refine PE.imp (pe_bm PySem.F.plainAttrs_str PySem.F.slot_str_split PySem.F.type_str_split mt_split ho (pa_cons ha pa_nil hs) hbase hfew hline hs hplain) fun σ H Q h => ?_
  obtain ⟨np, F, e, R, h⟩ := h
  refine use (R1 := RR X.K) (Cur.refl R) h fun r e1 F1 H1 u C1 q1 _ h1 => ?_
  obtain ⟨v0, rv, h2⟩ := At.rd C1.rel q1 h1
  cases v0 with
  | str a =>
    obtain rfl := rv.str
    refine ⟨rfl, ?_⟩
    refine use (R1 := RR X.K) C1 h2 fun s e2 F2 H2 y C2 q2 _ h3 => ?_
    obtain ⟨w0, rw_, h4⟩ := At.rd C2.rel q2 h3
    cases w0 with
    | str b =>
      obtain rfl := rw_.str
      dsimp only at h4
      by_cases c : (b.length == 0) = false ∧ a.length + 2 ≤ sizeLine
      · rw [if_pos c] at h4
        refine ⟨a, b, rfl, rfl, c.1, c.2, fun p hp => ?_⟩
        obtain ⟨C3, n3, f3, m3⟩ := C2.grow (o := .lst ((Txt.split a b).map V.str)) hp
        refine h4.ok (r := RV.tmp (.lst (spl a b))) rfl C3 ⟨p, rfl, f3, ⟨_, upd_same, ?_⟩, n3, m3⟩
        unfold spl
        generalize Txt.split a b = L
        induction L with
        | nil => exact .nil
        | cons x r ih => exact .cons (VR.str x) ih
      · rw [if_neg c] at h4
        exact h4.elim
    | _ => exact h4.elim
  | _ => exact h2.elim
theorem se_join (ho : SE X W o mo) (ha : SE X W e ma) (hbase : attributeBase o "join" X.env (eval o X.env) = eval o X.env := by rfl)
    (hfew : ((backTo cpos (starEach [e] X.env)).all (fun x => !x.1) && (backToKw cpos (keywordEach [] X.env)).all (fun x => x.1.isSome) && decide ([e].length + ([] : List Keyword).length + (if ([] : List Keyword).isEmpty then 0 else 1) < 30)) = true := by rfl)
    (hline : (apos.endLine == cpos.line) = true := by rfl) (hs : starEach [e] X.env = (false, eval e X.env) :: starEach [] X.env := by rfl) (hplain : (backTo cpos (starEach [] X.env)).any (·.1) = false := by rfl) :
    SE X W (.Call (.Attribute o "join" apos) [e] [] cpos) (mJoin mo ma) := by
  refine PE.imp (pe_bm PySem.F.plainAttrs_str PySem.F.slot_str_join PySem.F.type_str_join mt_join ho (pa_cons ha pa_nil hs) hbase hfew hline hs hplain) fun σ H Q h => ?_
  obtain ⟨np, F, e, R, h⟩ := h
  refine use (R1 := RR X.K) (Cur.refl R) h fun r e1 F1 H1 u C1 q1 _ h1 => ?_
  obtain ⟨v0, rv, h2⟩ := At.rd C1.rel q1 h1
  cases v0 with
  | str a =>
    obtain rfl := rv.str
    refine ⟨rfl, ?_⟩
    refine use (R1 := RR X.K) C1 h2 fun s e2 F2 H2 y C2 q2 _ h3 => ?_
    obtain ⟨w0, rw_, h4⟩ := At.rd C2.rel q2 h3
    cases w0 with
    | lst vs =>
      dsimp only at h4
      cases hz : strs? vs with
      | none => rw [hz] at h4; exact h4.elim
      | some ys =>
        rw [hz] at h4
        dsimp only at h4
        by_cases c : joinOk a ys
        · rw [if_pos c] at h4
          obtain ⟨p, us, rfl, h5, h6⟩ := rw_.lst C2.rel.sub
          obtain rfl := strsV_of h6 hz
          exact ⟨a, p, ys, rfl, rfl, .inl (.inl h5), c, h4.ok rfl C2 (VR.str _)⟩
        · rw [if_neg c] at h4
          exact h4.elim
    | tup vs =>
      dsimp only at h4
      cases hz : strs? vs with
      | none => rw [hz] at h4; exact h4.elim
      | some ys =>
        rw [hz] at h4
        dsimp only at h4
        by_cases c : joinOk a ys
        · rw [if_pos c] at h4
          obtain ⟨p, us, rfl, h5, h6⟩ := rw_.tup C2.rel.sub
          obtain rfl := strsV_of h6 hz
          exact ⟨a, p, ys, rfl, rfl, .inr h5, c, h4.ok rfl C2 (VR.str _)⟩
        · rw [if_neg c] at h4
          exact h4.elim
    | _ => exact h4.elim
  | _ => exact h2.elim
end
end Pu
set_option Elab.async false
set_option linter.all false
set_option maxRecDepth 100000
set_option maxHeartbeats 2000000
namespace Pu
open PySem PySem.Spec PyProof.Rows L2
section
variable {X : Cx} {k : Nat} {f C p0 : Addr} {mc : Value} {fd : FuncData} {ps : List Str} {sp : Sp} {W : WX} {x m : Str} {p pos apos : Pos} {e o : Expr} {es : List Expr} {ta : TE} {t : TA}
def cmG (C : Addr) (sp : Sp) (W : WX) (ta : TE) (t : TA) : TE := fun σ H Q => ta σ H fun y H1 => y = .ref C ∧ t σ H1 fun vs H2 => sp (.ref C :: vs) H2 Q (WE W σ)
theorem pg_cmeth {pl : Sem Bool} (he : PE X o ta) (r : ClX.CRead X.K C mc) (c : ClX.CMet X.K C mc m p0 f) (F : FnG X.prog X.w X.K X.mg X.base k f fd ps sp) (hr : Room k X.A) (hG : X.A.guards = some []) (tk : L2N.Takes X W) (hb : Binds X.K fd ps []) (ha : PA X (e :: es) t)
    (hst : starEach (e :: es) X.env = (false, eval e X.env) :: starEach es X.env := by rfl) (hpl : (backTo pos (starEach es X.env)).any (·.1) = false := by rfl)
    (ht : eval (.Call (.Attribute o m apos) (e :: es) [] pos) X.env = (do
      let ov ← eval o X.env
      standAt apos.atName
      let (f, first) ← holding [ov] (getMethod ov m pl)
      callWith pos f first (backTo pos (starEach (e :: es) X.env)) (backToKw pos (keywordEach [] X.env))) := by rfl) :
    PE X (.Call (.Attribute o m apos) (e :: es) [] pos) (cmG C sp W ta t) := by
  refine ⟨fun pins s σ H Q I h => ?_⟩
  refine PySem.W.methodCall_KW (pl := pl) (thn (he.run pins s σ H _ I h) fun u s1 ⟨x, H1, I1, rx, ex, q⟩ => ?_) ht
  subst ex
  obtain rfl : u = Value.ref C := rx
  refine ClX.getmethcm_ok I1 r c fun s2 I2 => ?_
  refine ClX.callwith_cm I2 (ClX.base_none I1 (Nat.le_refl _)) c.fi (thn (ha.run pos _ s2 σ H1 _ I2 q) fun us s3 ⟨vs, H2, I3, rv, q2⟩ => ⟨⟨ClX.pin_at I3, I3.kIn⟩, ?_⟩) hst hpl
  have rd : Vals (.ref C :: vs) (.ref C :: us) := .cons rfl rv
  have bt := hb s3 (.ref C :: us) I3.kIn (by
    have := rd.length.symm.trans (F.many _ _ _ _ q2)
    rw [List.append_nil]
    exact this)
  rw [List.append_nil] at bt
  have z : wpAny (model X.prog X.w) X.A (call (.ref s1.heap.objs.size) us) (EP X ((s1.heap.objs.size, PySem.W.methodObj (.ref f) (.ref C)) :: pins) σ Q) X.xe s3 :=
    wpAny_call (PySem.W.method_call (ClX.pin_at I3) (codeAny_mono (F.goes X.A X.stack s3 H2 ⟨.ref C :: us, []⟩ (.ref C :: us) (.ref C :: vs) Q (WE W σ) hr hG I3.env0 bt rd q2) fun res s' got => by
      have z := end_of tk I3 got
      cases res with
      | error z' => exact z
      | ok fl => cases fl with
        | ret u => exact z
        | next => exact z.elim
        | brk => exact z.elim
        | cont => exact z.elim))
  exact thn z fun _ _ y => ClX.unpinE y
theorem pg_makeV (Mk : Mk X.K C f) (he : PE X (.Name x p) ta) (F : FnG X.prog X.w X.K X.mg X.base k f fd ps sp) (hr : Room (k + 1) X.A) (hG : X.A.guards = some []) (tk : L2N.Takes X W) (hb : Binds X.K fd ps []) (ha : PA X (e :: es) t)
    (n2 : starEach (e :: es) X.env = (false, eval e X.env) :: starEach es X.env := by rfl) (n3 : (backTo pos (starEach es X.env)).any (·.1) = false := by rfl) :
    PE X (.Call (.Name x p) (e :: es) [] pos) (fun σ H Q => ta σ H fun y H1 => y = .ref C ∧ nG C sp W [] t σ H1 Q) := by
  constructor
  intro pins s σ H Q I h
  refine wpAny_Call_Name_kw (thn (he.run pins s σ H _ I h) fun u s1 ⟨y, H1, I1, r1, ey, q1⟩ => ?_)
  subst ey
  obtain rfl : u = Value.ref C := r1
  refine PySem.W.callWith_K (h₀ := X.base) I1.ok.mod.kin Mk.kp (thn (ha.run pos pins s1 σ H1 _ I1 q1) ?_) n2 n3
  rintro us s2 ⟨vs, H2, I2, r, q⟩
  exact ⟨I2.kIn, goMake Mk F hr hG tk hb .nil I2 r q⟩
end
def gC (K : PySem.W.Frag) (C m : Str) : Addr := match PySem.W.recIn K (He.ma K (He.ga K C) m) "classmethod" with
  | some (.ref a :: _) => a
  | _ => 0
def cmB (K : PySem.W.Frag) (C m : Str) : Bool := PySem.W.readsIn K (He.ga K C) (.type "type") && (He.eqO (PySem.W.specialIn K (.ref (He.ga K C)) "__getattribute__") (some (some (.builtin "type.__getattribute__"))) && ((match PySem.W.findCls K (.ref (He.ga K C)) (.type "type") m with
    | some (.get (.builtin b) (.ref p) .none (.ref c)) => b == "classmethod.__get__" && (p == He.ma K (He.ga K C) m && c == He.ga K C)
    | _ => false) && ((match PySem.W.recIn K (He.ma K (He.ga K C) m) "classmethod" with
    | some (.ref _ :: _) => true
    | _ => false) && PySem.W.fnIn K (gC K C m))))
structure CmOf (K : PySem.W.Frag) (C m : Str) : Prop where
  r : ClX.CRead K (He.ga K C) (.type "type")
  c : ClX.CMet K (He.ga K C) (.type "type") m (He.ma K (He.ga K C) m) (gC K C m)
theorem cm_ok {K : PySem.W.Frag} {C m : Str} (h : cmB K C m = true) : CmOf K C m := by
  unfold cmB at h
  simp only [Bool.and_eq_true] at h
  obtain ⟨h1, h2, h3, h4, h5⟩ := h
  refine ⟨⟨h1, He.eqO_ok h2⟩, ?_, ?_, h5⟩
  · split at h3
    · rename_i b p c e
      simp only [Bool.and_eq_true, beq_iff_eq] at h3
      obtain ⟨rfl, rfl, rfl⟩ := h3
      exact e
    · cases h3
  · unfold gC
    split at h4
    · rename_i a rest e
      rw [e]
      exact ⟨rest, rfl⟩
    · cases h4
def mCM (C : Str) (ms : List Bool) (mf mo : M RV) (mr : M (List RV)) : M RV := mo.bind fun r => (M.rd r).bind fun v => match v with
  | .glo x => if x = C then mr.bind fun rs => runF ms mf (.dat (.glo C) :: rs) else M.bad
  | _ => M.bad
def mMakeV (C : Str) (ms : List Bool) (mf mo : M RV) (mr : M (List RV)) : M RV := mo.bind fun r => (M.rd r).bind fun v => match v with
  | .glo x => if x = C then mr.bind fun rs => runMk C ms mf rs else M.bad
  | _ => M.bad
section
variable {X : Cx} {W : WX} {k n : Nat} {d : He5.DefA} {ps : List Str} {x m : Str} {p pos apos : Pos} {e o : Expr} {es : List Expr} {mf mo : M RV} {mr : M (List RV)}
theorem se_cmethD {pl : Sem Bool} {C : Str} (ms : List Bool) (ho : SE X W o mo) (c : CmOf X.K C m) (ha0 : d.at_ X.K = gC X.K C m) (B : FnB X.prog X.w X.K X.mg X.base k d ps n mf) (bd : BindD d ps) (G : Good X k W) (ha : SA X W (e :: es) mr) (hn : ms.length = n := by rfl)
    (n2 : starEach (e :: es) X.env = (false, eval e X.env) :: starEach es X.env := by rfl) (n3 : (backTo pos (starEach es X.env)).any (·.1) = false := by rfl)
    (look : eval (.Call (.Attribute o m apos) (e :: es) [] pos) X.env = (do
      let ov ← eval o X.env
      standAt apos.atName
      let (f, first) ← holding [ov] (getMethod ov m pl)
      callWith pos f first (backTo pos (starEach (e :: es) X.env)) (backToKw pos (keywordEach [] X.env))) := by rfl) : SE X W (.Call (.Attribute o m apos) (e :: es) [] pos) (mCM C ms mf mo mr) := by
  obtain ⟨fd, F, hb, kp⟩ := B.parts bd
  rw [ha0] at F
  refine PE.imp (pg_cmeth ho c.r c.c F G.room G.gd G.tk hb ha n2 n3 look) fun σ H Q h => ?_
  obtain ⟨np, F, e, R, h⟩ := h
  refine use (R1 := RR X.K) (Cur.refl R) h fun r e1 F1 H1 u C1 q1 _ h1 => ?_
  obtain ⟨v0, rv, h2⟩ := At.rd C1.rel q1 h1
  cases v0 with
  | glo y =>
    dsimp only at h2
    by_cases c : y = C
    · rw [if_pos c] at h2
      subst c
      obtain rfl := rv.glo
      refine ⟨rfl, ?_⟩
      refine use (R1 := RRs X.K) C1 h2 fun rs e2 F2 H2 us C2 q2 _ h3 => ?_
      have q3 : RRs X.K _ F2 H2 e2 σ (.dat (.glo y) :: rs) (.ref (He.ga X.K y) :: us) := .cons (show VR X.K F2 (.glo y) _ from VR.glo y) (fun v z => by cases z) q2
      exact call_ok C2 q3 h3 hn
    · rw [if_neg c] at h2
      exact h2.elim
  | _ => exact h2.elim
theorem se_makeVD {C : Str} (ms : List Bool) (Mk : Mk X.K (He.ga X.K C) (d.at_ X.K)) (ho : SE X W (.Name x p) mo) (B : FnB X.prog X.w X.K X.mg X.base k d ps n mf) (bd : BindD d ps) (G : Good X (k + 1) W) (ha : SA X W (e :: es) mr) (hn : ms.length + 1 = n := by rfl)
    (n2 : starEach (e :: es) X.env = (false, eval e X.env) :: starEach es X.env := by rfl) (n3 : (backTo pos (starEach es X.env)).any (·.1) = false := by rfl) : SE X W (.Call (.Name x p) (e :: es) [] pos) (mMakeV C ms mf mo mr) := by
  obtain ⟨fd, F, hb, kp⟩ := B.parts bd
  refine PE.imp (pg_makeV Mk ho F G.room G.gd G.tk hb ha n2 n3) fun σ H Q h => ?_
  obtain ⟨np, F, e, R, h⟩ := h
  refine use (R1 := RR X.K) (Cur.refl R) h fun r e1 F1 H1 u C1 q1 _ h1 => ?_
  obtain ⟨v0, rv, h2⟩ := At.rd C1.rel q1 h1
  cases v0 with
  | glo y =>
    dsimp only at h2
    by_cases c : y = C
    · rw [if_pos c] at h2
      subst c
      obtain rfl := rv.glo
      refine ⟨rfl, ?_⟩
      refine use (R1 := RRs X.K) C1 h2 fun rs e2 F2 H2 us C2 q2 _ h3 y dx hy hx ne => ?_
      rw [List.append_nil]
      exact make_ok C2 q2 hy hx ne hn h3
    · rw [if_neg c] at h2
      exact h2.elim
  | _ => exact h2.elim
end
def mTryN (m : S) : S := fun e => match m e with
  | .ok o e' => .ok o e'
  | .rs _ _ => .bad
  | .bad => .bad
theorem Good.nox {X : Cx} {k : Nat} {W : WX} (G : Good X k W) : Good X.nox k noW := ⟨G.nd, G.calm, G.room, G.gd, noTakes, PassesOwn.never⟩
theorem ss_tryN {X : Cx} {W : WX} {np : Nat} {body : List Stmt} {h0 : ExceptHandler} {hs : List ExceptHandler} {m : S} {pos : Pos} (hb : SB X.nox noW np body m) : SS X W np (.Try body (h0 :: hs) [] [] pos) (mTryN m) := by
  refine PS.imp (ps_try_thru0 hb) fun D σ H h => ?_
  obtain ⟨F, e, R, h⟩ := h
  refine ⟨F, e, R, ?_⟩
  unfold AtS mTryN at h
  unfold AtS
  cases z : m e with
  | bad => rw [z] at h; exact h
  | rs x e' => rw [z] at h; exact h.elim
  | ok o e' => rw [z] at h; cases o <;> exact h
end Pu
set_option Elab.async false
set_option linter.all false
set_option maxRecDepth 100000
set_option maxHeartbeats 2000000
namespace Pu
open PySem PySem.Spec PyProof.Rows L2
def keyVal (e : DictEntry) : Option (Str × Int) := match e.key, e.val with
  | .str x _, .int i _ => some (x, i)
  | _, _ => none
def dicI (K : PySem.W.Frag) (x : Str) (kvs : List (Str × Int)) : Bool := match K.lookup (He.ga K x) with
  | some ⟨.type c, none, .dict es _, sl⟩ => decide (es.toList.map keyVal = kvs.map some)
  | _ => false
def lookI (kvs : List (Str × Int)) (z : Str) : Option Int := (kvs.find? fun q => q.1 == z).map (·.2)
structure KDicI (K : PySem.W.Frag) (w : World) (x : Str) (kvs : List (Str × Int)) : Prop where
  ex : ∃ es n, KDict K w (He.ga K x) es n ∧ es.toList.map keyVal = kvs.map some
theorem dicI_ok {K : PySem.W.Frag} {w : World} {x : Str} {kvs : List (Str × Int)} {ks : List Str} (h : dicI K x kvs = true) (d : He.dicW K (He.ga K x) = some (He.keysIn w.params ks)) : KDicI K w x kvs := by
  obtain ⟨es, n, D⟩ := He.dicW_ok d
  refine ⟨es, n, D, ?_⟩
  unfold dicI at h
  rw [D.at_] at h
  exact of_decide_eq_true h
theorem find_kv {z : Str} : ∀ {es : List DictEntry} {kvs : List (Str × Int)}, es.map keyVal = kvs.map some → (es.any (·.refKey) = false) ∧ (match lookI kvs z with
    | some i => ∃ e t, es.find? (·.key.isStr z) = some e ∧ e.val = .int i t
    | none => es.find? (·.key.isStr z) = none)
  | [], [], _ => ⟨rfl, rfl⟩
  | [], _ :: _, h => by cases h
  | _ :: _, [], h => by cases h
  | e :: r, q :: qs, h => by
    rw [List.map_cons, List.map_cons] at h
    injection h with h1 h2
    obtain ⟨i1, i2⟩ := find_kv (z := z) h2
    unfold keyVal at h1
    split at h1
    · rename_i k t1 i t2 e1 e2
      cases h1
      have er : e.refKey = false := by
        unfold DictEntry.refKey
        rw [e1]
      have es : e.key.isStr z = (k == z) := by rw [e1]; rfl
      refine ⟨by rw [List.any_cons, er, i1]; rfl, ?_⟩
      unfold lookI at i2 ⊢
      rw [List.find?_cons, List.find?_cons, es]
      cases c : (k == z) with
      | true => exact ⟨e, t2, rfl, e2⟩
      | false => exact i2
    · cases h1
theorem ns_kv {K : PySem.W.Frag} {w : World} {d : Addr} {es : Array DictEntry} {n : Nat} {kvs : List (Str × Int)} {z : Str} (D : KDict K w d es n) (h : es.toList.map keyVal = kvs.map some) : match lookI kvs z with
    | some i => ∃ t, PySem.W.nsIn K d z = some (some (.int i t))
    | none => PySem.W.nsIn K d z = some none := by
  obtain ⟨h1, h2⟩ := find_kv (z := z) h
  unfold PySem.W.nsIn
  rw [D.at_]
  dsimp only
  cases c : lookI kvs z with
  | some i =>
    rw [c] at h2
    obtain ⟨e, t, h3, h4⟩ := h2
    refine ⟨t, ?_⟩
    rw [h3]
    dsimp only
    rw [h4]
  | none =>
    rw [c] at h2
    have h2 : es.toList.find? (·.key.isStr z) = none := h2
    dsimp only
    rw [h2]
    dsimp only
    rw [h1]
    rfl
def mKGet (kvs : List (Str × Int)) (me mf : M RV) : M RV := me.bind fun r => (M.rd r).bind fun v => match v with
  | .str z => mf.bind fun s => (M.rd s).bind fun w => match w with
    | .int j => mV (.int ((lookI kvs z).getD j))
    | _ => M.bad
  | _ => M.bad
theorem se_kget {X : Cx} {W : WX} {x : Str} {p apos cpos : Pos} {e f : Expr} {me mf : M RV} {kvs : List (Str × Int)} (gl : Gl X x) (at_ : X.mg x = some (.ref (He.ga X.K x))) (D : KDicI X.K X.w x kvs) (he : SE X W e me) (hf : SE X W f mf)
    (m : M2 X (.Name x p) "get" apos e f cpos := by exact ⟨rfl, rfl, rfl, rfl⟩) (hd : (x == ("__debug__" : Str)) = false := by decide) : SE X W (.Call (.Attribute (.Name x p) "get" apos) [e, f] [] cpos) (mKGet kvs me mf) := by
  obtain ⟨es, n, D, kv⟩ := D.ex
  refine ⟨fun pins s σ H Q I h => ?_⟩
  obtain ⟨np, F, ev, R, h⟩ := h
  refine wpAny_Call_method m.base m.few m.line PySem.F.plainAttrs_dict PySem.F.slot_dict_get PySem.F.type_dict_get (ld_glob I gl at_ ?_ hd)
  have hm := fun (s : Shared) (k : X.K.In s.heap) => PySem.W.mapOf_K (prog := X.prog) (w := X.w) k D.at_ D.lit
  refine ⟨(hm s I.kIn).typeIs, fun b q => ?_, ?_⟩
  · cases q
    exact ⟨_, I.kIn _ _ D.at_, rfl⟩
  rw [m.trees]
  have step : tE X.K W me σ H (fun u H1 => ∃ z, u = .str z ∧ tE X.K W mf σ H1 fun y H2 => ∃ j, y = .int j ∧ Q (.int ((lookI kvs z).getD j)) H2) := by
    refine use (R1 := RR X.K) (Cur.refl R) h fun r e1 F1 H1 u C1 q1 _ h1 => ?_
    obtain ⟨v0, rv, h2⟩ := At.rd C1.rel q1 h1
    cases v0 with
    | str z =>
      obtain rfl := rv.str
      refine ⟨z, rfl, ?_⟩
      refine use (R1 := RR X.K) C1 h2 fun s e2 F2 H2 y C2 q2 _ h3 => ?_
      obtain ⟨w0, rw_, h4⟩ := At.rd C2.rel q2 h3
      cases w0 with
      | int j =>
        obtain rfl := rw_.int
        exact ⟨j, rfl, h4.ok rfl C2 (VR.int _)⟩
      | _ => exact h4.elim
    | _ => exact h2.elim
  refine Calls.callWith_builtin rfl (Calls.evalArgs_plain (Calls.spliced_cons (thn (he.run pins s σ H _ I step) fun iv s2 ⟨y, H2, I2, ry, z, ey, q2⟩ =>
    Calls.spliced_cons (thn (hf.run pins s2 σ H2 _ I2 q2) fun fv s3 ⟨y2, H3, I3, rz, j, ez, q3⟩ => Calls.spliced_nil ?_))))
  subst ey
  subst ez
  obtain ⟨t, rfl⟩ := (show ∃ t, iv = Value.str z t from ry)
  obtain ⟨t2, rfl⟩ := (show ∃ t, fv = Value.int j t from rz)
  have nk := ns_kv (z := z) D kv
  refine call_meetsIn PySem.F.slot_dict_get (hm s3 I3.kIn).typeIs PySem.F.entry_dict_get (PySem.F.args_dict_get_3 _ _ _) (meets_dict_get_default _ (He.ga X.K x) (strKind_is X.prog X.w z t) D.low (.int j t2)) ⟨_, hm s3 I3.kIn, ?_⟩
  cases c : lookI kvs z with
  | some i =>
    rw [c] at nk q3
    obtain ⟨t3, nk⟩ := nk
    rw [PySem.W.find_K D.at_ nk]
    exact ⟨.int i, H3, I3.tok _, ⟨_, rfl⟩, q3⟩
  | none =>
    rw [c] at nk q3
    rw [PySem.W.find_K D.at_ nk]
    exact ⟨.int j, H3, I3.tok _, ⟨_, rfl⟩, q3⟩
abbrev AlQ : Type := AlP × List (Option (List (Option (Str × Int))))
def obsQ (n : Nat) (fa : List He.Fa) (fn : List He5.DefA) (fy : List Fy) (fd : List (Str × List Str)) (g : Addr → Option Obj) : AlQ := (obsP n fa fn fy g, fd.map fun x => He.dicW (frP n g) (He.ga (frP n g) x.1))
def DicsP (fd : List (Str × List Str)) (w : World) (K : PySem.W.Frag) : Prop := ∀ x ∈ fd, He.dicW K (He.ga K x.1) = some (He.keysIn w.params x.2)
def hookQ (n : Nat) (fa : List He.Fa) (fn : List He5.DefA) (fy : List Fy) (fd : List (Str × List Str)) : PySem.W.Hook where
  α := AlQ
  obs := fun s => obsQ n fa fn fy fd s.heap.get?
  val := fun w => ((He5.valA fn, true), fd.map fun x => some (He.keysIn w.params x.2))
  says := fun w h => ∃ K : PySem.W.Frag, K.In h ∧ SaysP fa fn fy K ∧ TabsE K h ∧ DicsP fd w K
  of := fun w h e => by
    have e0 := congrArg (fun z : AlQ => z.1) e
    have e1 := congrArg (fun z : AlP => z.1) e0
    have e2 := Bool.and_eq_true_iff.mp (congrArg (fun z : AlP => z.2) e0)
    have e3 := Bool.and_eq_true_iff.mp e2.2
    have e4 := congrArg (fun z : AlQ => z.2) e
    exact ⟨_, He.frT_in, ⟨e1, List.all_eq_true.mp e2.1, e3.1⟩, tabsChk_ok e3.2, fun x hx => List.map_inj_left.mp e4 x hx⟩
  keeps := fun _ _ _ q kp => by
    obtain ⟨K, inK, c, t, d⟩ := q
    exact ⟨K, PySem.W.Frag.In.keeps inK kp, c, ⟨t.hd, t.out, fun p hp => kp _ _ (t.empty p hp), t.one⟩, d⟩
theorem obsQ_eq {n : Nat} {fa : List He.Fa} {fn : List He5.DefA} {fy : List Fy} {fd : List (Str × List Str)} {g : Addr → Option Obj} {s : Shared} (h : ∀ a, g a = s.heap.get? a) : obsQ n fa fn fy fd g = (hookQ n fa fn fy fd).obs s := by
  obtain rfl : g = s.heap.get? := funext h
  rfl
def fmtV (v : Val) : M Str := fun e => match v with
  | .str y => if y.length ≤ sizeLine then .ok y e else .bad
  | .int i => if i.natAbs.log2 < 1920 then .ok (toString i) e else .bad
  | _ => .bad
def mFmt (m : M RV) : M RV := m.bind fun r => (M.rd r).bind fun v => (fmtV v).bind fun y => mV (.str y)
inductive SJ (X : Cx) (W : WX) : List Expr → List (M RV) → Prop where
  | nil : SJ X W [] []
  | cons {e : Expr} {m : M RV} {es : List Expr} {ms : List (M RV)} (h : SE X W e m) (r : SJ X W es ms) : SJ X W (e :: es) (m :: ms)
def mJs : List (M RV) → Str → M Str
  | [], acc => M.ret acc
  | m :: ms, acc => m.bind fun r => (M.rd r).bind fun v => match v with
    | .str y => if (acc ++ y).length ≤ sizeLine then mJs ms (acc ++ y) else M.bad
    | _ => M.bad
def mFs (ms : List (M RV)) : M RV := (mJs ms Str.empty).bind fun y => mV (.str y)
section
variable {X : Cx} {W : WX} {e : Expr} {m : M RV} {es : List Expr} {ms : List (M RV)} {pos : Pos}
theorem se_fmt (he : SE X W e m) : SE X W (.FormattedValue e (-1) none pos) (mFmt m) := by
  refine PE.imp (pe_fmt he) fun σ H Q h => ?_
  obtain ⟨np, F, ev, R, h⟩ := h
  refine use (R1 := RR X.K) (Cur.refl R) h fun r e1 F1 H1 u C1 q1 _ h1 => ?_
  obtain ⟨v0, rv, h2⟩ := At.rd C1.rel q1 h1
  cases v0 with
  | str y =>
    obtain rfl := rv.str
    by_cases c : y.length ≤ sizeLine
    · refine .inl ⟨y, rfl, c, h2.ok (r := RV.dat (.str y)) (e' := e1) ?_ C1 (VR.str y)⟩
      unfold M.bind fmtV
      simp only [c, if_true]
      rfl
    · unfold At M.bind fmtV at h2
      simp only [c, if_false] at h2
  | int i =>
    obtain rfl := rv.int
    by_cases c : i.natAbs.log2 < 1920
    · refine .inr ⟨i, rfl, c, h2.ok (r := RV.dat (.str (toString i))) (e' := e1) ?_ C1 (VR.str _)⟩
      unfold M.bind fmtV
      simp only [c, if_true]
      rfl
    · unfold At M.bind fmtV at h2
      simp only [c, if_false] at h2
  | _ => exact h2.elim
theorem pj_of : ∀ {es : List Expr} {ms : List (M RV)}, SJ X W es ms → PJ X es (ms.map fun m => tE X.K W m)
  | _, _, .nil => .nil
  | _, _, .cons h r => .cons h (pj_of r)
theorem js_of {K : PySem.W.Frag} : ∀ {ms : List (M RV)} {acc : Str} {B : Bg} {F H : Hp} {ev : Ev} {σ : Sig} {Q : Str → Hp → Prop}, Cur K B F H ev σ → At K W (fun _ _ _ _ _ (b c : Str) => b = c) B (mJs ms acc) F ev σ H Q → tJs (ms.map fun m => tE K W m) acc σ H Q
  | [], acc, B, F, H, ev, σ, Q, C, h => h.ok rfl C rfl
  | m :: ms, acc, B, F, H, ev, σ, Q, C, h => by
    show tE K W m σ H _
    refine use (R1 := RR K) C h fun r e1 F1 H1 u C1 q1 _ h1 => ?_
    obtain ⟨v0, rv, h2⟩ := At.rd C1.rel q1 h1
    cases v0 with
    | str y =>
      obtain rfl := rv.str
      dsimp only at h2
      by_cases c : (acc ++ y).length ≤ sizeLine
      · rw [if_pos c] at h2
        exact ⟨y, rfl, c, js_of C1 h2⟩
      · rw [if_neg c] at h2
        exact h2.elim
    | _ => exact h2.elim
theorem se_fs {v1 v2 : Expr} {rest : List Expr} (h : SJ X W (v1 :: v2 :: rest) ms) : SE X W (.JoinedStr (v1 :: v2 :: rest) pos) (mFs ms) := by
  refine PE.imp (pe_joined (pj_of h)) fun σ H Q h => ?_
  obtain ⟨np, F, ev, R, h⟩ := h
  refine js_of (Cur.refl (np := np) R) ?_
  unfold mFs At M.bind at h
  unfold At
  cases z : mJs ms Str.empty ev with
  | bad => rw [z] at h; exact h
  | rs x e' => rw [z] at h; exact h
  | ok y e' =>
    rw [z] at h
    intro F' H' u C q
    subst q
    exact h F' H' (.str y) C (VR.str y)
theorem se_fs1 (h : SE X W e m) : SE X W (.JoinedStr [e] pos) m := pe_joined1 h
end
def mDct1 (i j : Int) : M RV := M.ret (.tmp (.dct [Sum.inl i] [.int j]))
theorem upd_upd {H : Hp} {p : Addr} {a b : HO} : upd (upd H p a) p b = upd H p b := by
  funext q
  by_cases h : q = p
  · subst h; rw [upd_same, upd_same]
  · rw [upd_ne h, upd_ne h, upd_ne h]
theorem se_dct1 {X : Cx} {W : WX} {i j : Int} {a b : Nat} {p1 p2 pos : Pos} : SE X W (.Dict [some (.Constant (.int i) a p1)] [.Constant (.int j) b p2] pos) (mDct1 i j) := by
  refine PE.imp (pe_disp (pps_cons pe_int pe_int pps_nil) rfl rfl (by simp) (by simp)) fun σ H Q h p hp => ?_
  obtain ⟨np, F, ev, R, h⟩ := h
  refine ⟨upd_same, [(Sum.inl i, .int j)], rfl, by simp, ?_⟩
  rw [upd_upd]
  have em : mergeK [] [((Sum.inl i : Key), V.int j)] = [(Sum.inl i, .int j)] := by
    unfold mergeK
    rfl
  rw [em]
  obtain ⟨C3, n3, f3, m3⟩ := (Cur.refl (np := np) R).grow (o := .dK [(Sum.inl i, V.int j)]) hp
  exact h.ok (r := RV.tmp (.dct [Sum.inl i] [.int j])) rfl C3 ⟨p, rfl, f3, ⟨[.int j], upd_same, rfl, .cons (VR.int j) .nil⟩, n3, m3⟩
def oIsB (x y : Val) : M RV := match x, y with
  | .bl a, .bl b => mV (.bl (decide (a = b)))
  | _, _ => M.bad
theorem v_isB {K : PySem.W.Frag} {W : WX} : OpV K W oIsB rIsB := by
  intro B F H e σ v w x y Q C rv rw_ h
  unfold oIsB at h
  split at h
  · exact ⟨_, _, rv.bl, rw_.bl, h.ok rfl C (VR.bl _)⟩
  · exact h.elim
theorem b_isB : ∀ v w e r' e', oIsB v w e = .ok r' e' → ∃ b, r' = .dat (.bl b) := by
  intro v w e r' e' h
  unfold oIsB at h
  split at h
  · unfold mV M.ret at h; cases h; exact ⟨_, rfl⟩
  · cases h
def oNotB (x y : Val) : M RV := match x, y with
  | .bl a, .bl b => mV (.bl (!decide (a = b)))
  | _, _ => M.bad
theorem v_notB {K : PySem.W.Frag} {W : WX} : OpV K W oNotB rNotB := by
  intro B F H e σ v w x y Q C rv rw_ h
  unfold oNotB at h
  split at h
  · exact ⟨_, _, rv.bl, rw_.bl, h.ok rfl C (VR.bl _)⟩
  · exact h.elim
theorem b_notB : ∀ v w e r' e', oNotB v w e = .ok r' e' → ∃ b, r' = .dat (.bl b) := by
  intro v w e r' e' h
  unfold oNotB at h
  split at h
  · unfold mV M.ret at h; cases h; exact ⟨_, rfl⟩
  · cases h
end Pu
namespace Pu.Q
open PySem PySem.Spec PyProof.Rows L2 Pu
structure Fx (K : PySem.W.Frag) (mg : Str → Option Value) : Prop where
  free_int : mg "int" = none
  free_isinstance : mg "isinstance" = none
  free_bool : mg "bool" = none
  glo_is_integer : mg "is_integer" = some (.ref (He.ga K "is_integer"))
  glo_is_between : mg "is_between" = some (.ref (He.ga K "is_between"))
  glo_check_number : mg "check_number" = some (.ref (He.ga K "check_number"))
  int_MOST_STEP_1000000000000 : ∃ t, mg "MOST_STEP" = some (.int 1000000000000 t)
  free_str : mg "str" = none
  glo_SETTINGS : mg "SETTINGS" = some (.ref (He.ga K "SETTINGS"))
  int_MOST_LIMIT_1000000000000000000 : ∃ t, mg "MOST_LIMIT" = some (.int 1000000000000000000 t)
  cls_Rule : Cls K (He.ga K "Rule")
  noat_Rule_limit : NoAttr K (He.ga K "Rule") "limit"
  noat_Rule_parts : NoAttr K (He.ga K "Rule") "parts"
  mkr_Rule : Mk K (He.ga K "Rule") (He.ma K (He.ga K "Rule") "__init__")
  glo_Rule : mg "Rule" = some (.ref (He.ga K "Rule"))
  glo_check_rule : mg "check_rule" = some (.ref (He.ga K "check_rule"))
  glo_check_both : mg "check_both" = some (.ref (He.ga K "check_both"))
  int_MOST_LEAST_100000000000000000000 : ∃ t, mg "MOST_LEAST" = some (.int 100000000000000000000 t)
  glo_common : mg "common" = some (.ref (He.ga K "common"))
  glo_reach : mg "reach" = some (.ref (He.ga K "reach"))
  free_sorted : mg "sorted" = none
  glo_up : mg "up" = some (.ref (He.ga K "up"))
  glo_sum_of : mg "sum_of" = some (.ref (He.ga K "sum_of"))
  free_max : mg "max" = none
  free_min : mg "min" = none
  glo_how_many : mg "how_many" = some (.ref (He.ga K "how_many"))
  glo_mark_at : mg "mark_at" = some (.ref (He.ga K "mark_at"))
  glo_first_in : mg "first_in" = some (.ref (He.ga K "first_in"))
  glo_first_rest : mg "first_rest" = some (.ref (He.ga K "first_rest"))
  glo_arrival_with : mg "arrival_with" = some (.ref (He.ga K "arrival_with"))
  glo_bounds_of : mg "bounds_of" = some (.ref (He.ga K "bounds_of"))
  glo_versus : mg "versus" = some (.ref (He.ga K "versus"))
  glo_never_less : mg "never_less" = some (.ref (He.ga K "never_less"))
  free_len : mg "len" = none
  free_range : mg "range" = none
  glo__law_sip : mg "_law_sip" = some (.ref (He.ga K "_law_sip"))
  glo__law_pick : mg "_law_pick" = some (.ref (He.ga K "_law_pick"))
  glo__law_far : mg "_law_far" = some (.ref (He.ga K "_law_far"))
  glo__law_plan : mg "_law_plan" = some (.ref (He.ga K "_law_plan"))
  glo__law_round : mg "_law_round" = some (.ref (He.ga K "_law_round"))
  glo__law_made : mg "_law_made" = some (.ref (He.ga K "_law_made"))
  glo__law_mark : mg "_law_mark" = some (.ref (He.ga K "_law_mark"))
  free_repr : mg "repr" = none
  glo__law_right : mg "_law_right" = some (.ref (He.ga K "_law_right"))
  free_abs : mg "abs" = none
  glo__law_flask : mg "_law_flask" = some (.ref (He.ga K "_law_flask"))
  free_all : mg "all" = none
  glo_law : mg "law" = some (.ref (He.ga K "law"))
  tup_SETTINGS : He.tupB K "SETTINGS" (([(.str "next"), (.str "last"), (.str "near")] : List Val).map gv) = true
  prop_Rule_step : PropOf K (He.ga K "Rule") "step" (He.ma K (He.ga K "Rule") "step") (gA K "Rule" "step")
  prop_Rule_setting : PropOf K (He.ga K "Rule") "setting" (He.ma K (He.ga K "Rule") "setting") (gA K "Rule" "setting")
  isi : TOk K isT
theorem fx_of {K : PySem.W.Frag} {h : Heap} {mg : Str → Option Value} (X : K.In h) (G : h.Ns mainGlobals mg) (c : SaysP fa fn fy K) : Fx K mg where
  free_int := He.free_ok X G (c.a.fact 0 (f := .free "int") rfl)
  free_isinstance := He.free_ok X G (c.a.fact 1 (f := .free "isinstance") rfl)
  free_bool := He.free_ok X G (c.a.fact 2 (f := .free "bool") rfl)
  glo_is_integer := He.glo_ok X G (c.a.fact 3 (f := .glo "is_integer") rfl)
  glo_is_between := He.glo_ok X G (c.a.fact 4 (f := .glo "is_between") rfl)
  glo_check_number := He.glo_ok X G (c.a.fact 5 (f := .glo "check_number") rfl)
  int_MOST_STEP_1000000000000 := He.int_ok X G (c.a.fact 6 (f := .int "MOST_STEP" 1000000000000) rfl)
  free_str := He.free_ok X G (c.a.fact 7 (f := .free "str") rfl)
  glo_SETTINGS := He.glo_ok X G (c.a.fact 8 (f := .glo "SETTINGS") rfl)
  int_MOST_LIMIT_1000000000000000000 := He.int_ok X G (c.a.fact 9 (f := .int "MOST_LIMIT" 1000000000000000000) rfl)
  cls_Rule := He.cls_ok (c.a.fact 10 (f := .cls "Rule") rfl)
  noat_Rule_limit := He.noat_ok (c.a.fact 11 (f := .noat "Rule" "limit") rfl)
  noat_Rule_parts := He.noat_ok (c.a.fact 12 (f := .noat "Rule" "parts") rfl)
  mkr_Rule := He.mkr_ok (c.a.fact 13 (f := .mkr "Rule") rfl)
  glo_Rule := He.glo_ok X G (c.a.fact 14 (f := .glo "Rule") rfl)
  glo_check_rule := He.glo_ok X G (c.a.fact 15 (f := .glo "check_rule") rfl)
  glo_check_both := He.glo_ok X G (c.a.fact 16 (f := .glo "check_both") rfl)
  int_MOST_LEAST_100000000000000000000 := He.int_ok X G (c.a.fact 17 (f := .int "MOST_LEAST" 100000000000000000000) rfl)
  glo_common := He.glo_ok X G (c.a.fact 18 (f := .glo "common") rfl)
  glo_reach := He.glo_ok X G (c.a.fact 19 (f := .glo "reach") rfl)
  free_sorted := He.free_ok X G (c.a.fact 20 (f := .free "sorted") rfl)
  glo_up := He.glo_ok X G (c.a.fact 21 (f := .glo "up") rfl)
  glo_sum_of := He.glo_ok X G (c.a.fact 22 (f := .glo "sum_of") rfl)
  free_max := He.free_ok X G (c.a.fact 23 (f := .free "max") rfl)
  free_min := He.free_ok X G (c.a.fact 24 (f := .free "min") rfl)
  glo_how_many := He.glo_ok X G (c.a.fact 25 (f := .glo "how_many") rfl)
  glo_mark_at := He.glo_ok X G (c.a.fact 26 (f := .glo "mark_at") rfl)
  glo_first_in := He.glo_ok X G (c.a.fact 27 (f := .glo "first_in") rfl)
  glo_first_rest := He.glo_ok X G (c.a.fact 28 (f := .glo "first_rest") rfl)
  glo_arrival_with := He.glo_ok X G (c.a.fact 29 (f := .glo "arrival_with") rfl)
  glo_bounds_of := He.glo_ok X G (c.a.fact 30 (f := .glo "bounds_of") rfl)
  glo_versus := He.glo_ok X G (c.a.fact 31 (f := .glo "versus") rfl)
  glo_never_less := He.glo_ok X G (c.a.fact 32 (f := .glo "never_less") rfl)
  free_len := He.free_ok X G (c.a.fact 33 (f := .free "len") rfl)
  free_range := He.free_ok X G (c.a.fact 34 (f := .free "range") rfl)
  glo__law_sip := He.glo_ok X G (c.a.fact 35 (f := .glo "_law_sip") rfl)
  glo__law_pick := He.glo_ok X G (c.a.fact 36 (f := .glo "_law_pick") rfl)
  glo__law_far := He.glo_ok X G (c.a.fact 37 (f := .glo "_law_far") rfl)
  glo__law_plan := He.glo_ok X G (c.a.fact 38 (f := .glo "_law_plan") rfl)
  glo__law_round := He.glo_ok X G (c.a.fact 39 (f := .glo "_law_round") rfl)
  glo__law_made := He.glo_ok X G (c.a.fact 40 (f := .glo "_law_made") rfl)
  glo__law_mark := He.glo_ok X G (c.a.fact 41 (f := .glo "_law_mark") rfl)
  free_repr := He.free_ok X G (c.a.fact 42 (f := .free "repr") rfl)
  glo__law_right := He.glo_ok X G (c.a.fact 43 (f := .glo "_law_right") rfl)
  free_abs := He.free_ok X G (c.a.fact 44 (f := .free "abs") rfl)
  glo__law_flask := He.glo_ok X G (c.a.fact 45 (f := .glo "_law_flask") rfl)
  free_all := He.free_ok X G (c.a.fact 46 (f := .free "all") rfl)
  glo_law := He.glo_ok X G (c.a.fact 47 (f := .glo "law") rfl)
  tup_SETTINGS := id (c.y (.tup "SETTINGS" (([(.str "next"), (.str "last"), (.str "near")] : List Val).map gv)) (List.mem_of_getElem? (i := 0) rfl))
  prop_Rule_step := prop_ok (c.y (.prop "Rule" "step") (List.mem_of_getElem? (i := 1) rfl))
  prop_Rule_setting := prop_ok (c.y (.prop "Rule" "setting") (List.mem_of_getElem? (i := 2) rfl))
  isi := by
    refine ⟨fun e he => ?_, fun e he C hC => ?_⟩
    · have go : ∀ e ∈ isT, (Fy.kit e.1 e.2.1 e.2.2) ∈ fy := fun e he => List.mem_of_mem_drop (i := 4) (show Fy.kit e.1 e.2.1 e.2.2 ∈ isT.map fun e => Fy.kit e.1 e.2.1 e.2.2 from List.mem_map.mpr ⟨e, he, rfl⟩)
      exact kit_ok (c.y _ (go e he))
    · have go : ∀ e ∈ isT, ∀ C, e.1 = .inr C → ∃ i : Nat, fy[i]? = some (Fy.isi C) := by
        intro e he C hC
        simp only [isT, List.mem_cons, List.not_mem_nil, or_false] at he
        rcases he with rfl | rfl | rfl | rfl | rfl | rfl | rfl | rfl | rfl | rfl | rfl | rfl | rfl | rfl | rfl | rfl | rfl | rfl | rfl | rfl | rfl | rfl | rfl | rfl | rfl | rfl | rfl | rfl | rfl | rfl | rfl | rfl <;> first | (cases hC; done) | (cases hC; first | exact ⟨3, rfl⟩)
      obtain ⟨i, hi⟩ := go e he C hC
      exact isi_ok (c.y _ (List.mem_of_getElem? hi))
section
variable {P : Program} {w : World} {K : PySem.W.Frag} {mg : Str → Option Value} {base : Heap}
theorem bd_is_integer : BindD d_is_integer ["value"] := ⟨rfl, rfl, fun _ _ _ _ _ _ us hl => match us, hl with | [_], _ => rfl⟩
theorem sc_is_integer : FnScope ["value"] ["value"] d_is_integer.scope := ⟨rfl, rfl, rfl, by decide +kernel, rfl, by decide +kernel, by decide +kernel⟩
theorem ok_is_integer (x : Fx K mg)  (D : ∃ fd, FunD K d_is_integer.name d_is_integer.qual d_is_integer.params d_is_integer.body d_is_integer.scope (d_is_integer.dvs K) (d_is_integer.kws K) (d_is_integer.at_ K) fd) : FnB P w K mg base 1 d_is_integer ["value"] 1 den_is_integer := by
  refine fnB_of (k := 0) D sc_is_integer rfl rfl fun cdv A outer s H E G => ?_
  unfold b_is_integer
  exact (sb_one (ss_ret (se_and (se_callB call_isi (v_isi x.isi) rfl x.free_isinstance (sa_cons (se_var 0) (sa_cons (se_ty rfl x.free_int) sa_nil))) (se_one (se_not (se_callB call_isi (v_isi x.isi) rfl x.free_isinstance (sa_cons (se_var 0) (sa_cons (se_ty rfl x.free_bool) sa_nil))))))))
theorem bd_is_between : BindD d_is_between ["value", "least", "most"] := ⟨rfl, rfl, fun _ _ _ _ _ _ us hl => match us, hl with | [_, _, _], _ => rfl⟩
theorem sc_is_between : FnScope ["value", "least", "most"] ["value", "least", "most"] d_is_between.scope := ⟨rfl, rfl, rfl, by decide +kernel, rfl, by decide +kernel, by decide +kernel⟩
theorem ok_is_between (x : Fx K mg) (c_is_integer : FnB P w K mg base 1 d_is_integer ["value"] 1 den_is_integer) (D : ∃ fd, FunD K d_is_between.name d_is_between.qual d_is_between.params d_is_between.body d_is_between.scope (d_is_between.dvs K) (d_is_between.kws K) (d_is_between.at_ K) fd) : FnB P w K mg base 2 d_is_between ["value", "least", "most"] 3 den_is_between := by
  refine fnB_of (k := 1) D sc_is_between rfl rfl fun cdv A outer s H E G => ?_
  unfold b_is_between
  exact (sb_one (ss_ret (se_and (se_callD [false] c_is_integer.up bd_is_integer G rfl x.glo_is_integer (sa_cons (se_var 0) sa_nil)) (se_one (se_chain op_le op_le v_le v_le (se_var 1) (se_var 0) (se_var 2))))))
theorem bd_check_number : BindD d_check_number ["value", "least", "most"] := ⟨rfl, rfl, fun _ _ _ _ _ _ us hl => match us, hl with | [_, _, _], _ => rfl⟩
theorem sc_check_number : FnScope ["value", "least", "most"] ["value", "least", "most"] d_check_number.scope := ⟨rfl, rfl, rfl, by decide +kernel, rfl, by decide +kernel, by decide +kernel⟩
theorem ok_check_number (x : Fx K mg) (c_is_between : FnB P w K mg base 2 d_is_between ["value", "least", "most"] 3 den_is_between) (D : ∃ fd, FunD K d_check_number.name d_check_number.qual d_check_number.params d_check_number.body d_check_number.scope (d_check_number.dvs K) (d_check_number.kws K) (d_check_number.at_ K) fd) : FnB P w K mg base 3 d_check_number ["value", "least", "most"] 3 den_check_number := by
  refine fnB_of (k := 2) D sc_check_number rfl rfl fun cdv A outer s H E G => ?_
  unfold b_check_number
  exact (sb_one (ss_if (st_not (st_val (se_callD [false, false, false] c_is_between.up bd_is_between G rfl x.glo_is_between (sa_cons (se_var 0) (sa_cons (se_var 1) (sa_cons (se_var 2) sa_nil)))))) (sb_one ss_bad) sb_nil))
theorem bd_Rule____init__ : BindD d_Rule____init__ ["self", "step", "setting", "limit", "pause"] := ⟨rfl, rfl, fun _ _ _ _ _ _ us hl => match us, hl with | [_, _, _, _, _], _ => rfl⟩
theorem sc_Rule____init__ : FnScope ["self", "step", "setting", "limit", "pause"] ["self", "step", "setting", "limit", "pause"] d_Rule____init__.scope := ⟨rfl, rfl, rfl, by decide +kernel, rfl, by decide +kernel, by decide +kernel⟩
theorem ok_Rule____init__ (x : Fx K mg) (c_check_number : FnB P w K mg base 3 d_check_number ["value", "least", "most"] 3 den_check_number) (D : ∃ fd, FunD K d_Rule____init__.name d_Rule____init__.qual d_Rule____init__.params d_Rule____init__.body d_Rule____init__.scope (d_Rule____init__.dvs K) (d_Rule____init__.kws K) (d_Rule____init__.at_ K) fd) : FnB P w K mg base 4 d_Rule____init__ ["self", "step", "setting", "limit", "pause"] 5 den_Rule____init__ := by
  refine fnB_of (k := 3) D sc_Rule____init__ rfl rfl fun cdv A outer s H E G => ?_
  unfold b_Rule____init__
  exact (sb_cons (ss_expr (se_callD [false, false, false] c_check_number.up bd_check_number G rfl x.glo_check_number (sa_cons (se_var 1) (sa_cons se_int (sa_cons (se_gInt rfl x.int_MOST_STEP_1000000000000) sa_nil))))) (sb_cons (ss_if (st_w (sw_or (st_not (st_val (se_callB call_isi (v_isi x.isi) rfl x.free_isinstance (sa_cons (se_var 2) (sa_cons (se_ty rfl x.free_str) sa_nil))))) (sw_or1 (st_cmp op_notIn_seq (v_in true) b_in (se_var 2) (se_gTup (vs := [(.str "next"), (.str "last"), (.str "near")]) rfl x.glo_SETTINGS x.tup_SETTINGS))))) (sb_one ss_bad) sb_nil) (sb_cons (ss_expr (se_callD [false, false, false] c_check_number.up bd_check_number G rfl x.glo_check_number (sa_cons (se_var 3) (sa_cons (se_var 1) (sa_cons (se_gInt rfl x.int_MOST_LIMIT_1000000000000000000) sa_nil))))) (sb_cons (ss_expr (se_callD [false, false, false] c_check_number.up bd_check_number G rfl x.glo_check_number (sa_cons (se_var 4) (sa_cons se_int (sa_cons (se_gInt rfl x.int_MOST_LIMIT_1000000000000000000) sa_nil))))) (sb_cons (ss_put x.cls_Rule x.noat_Rule_limit (se_var 0) (se_var 3)) (sb_one (ss_put x.cls_Rule x.noat_Rule_parts (se_var 0) (se_tup (sa_cons (se_var 1) (sa_cons (se_var 2) (sa_cons (se_var 3) (sa_cons (se_var 4) sa_nil))))))))))))
theorem bd_check_rule : BindD d_check_rule ["value"] := ⟨rfl, rfl, fun _ _ _ _ _ _ us hl => match us, hl with | [_], _ => rfl⟩
theorem sc_check_rule : FnScope ["value"] ["value"] d_check_rule.scope := ⟨rfl, rfl, rfl, by decide +kernel, rfl, by decide +kernel, by decide +kernel⟩
theorem ok_check_rule (x : Fx K mg)  (D : ∃ fd, FunD K d_check_rule.name d_check_rule.qual d_check_rule.params d_check_rule.body d_check_rule.scope (d_check_rule.dvs K) (d_check_rule.kws K) (d_check_rule.at_ K) fd) : FnB P w K mg base 1 d_check_rule ["value"] 1 den_check_rule := by
  refine fnB_of (k := 0) D sc_check_rule rfl rfl fun cdv A outer s H E G => ?_
  unfold b_check_rule
  exact (sb_one (ss_if (st_not (st_val (se_callB call_isi (v_isi x.isi) rfl x.free_isinstance (sa_cons (se_var 0) (sa_cons (se_glo rfl x.glo_Rule) sa_nil))))) (sb_one ss_bad) sb_nil))
theorem bd_check_both_k07 : BindD d_check_both_k07 ["one", "other"] := ⟨rfl, rfl, fun _ _ _ _ _ _ us hl => match us, hl with | [_, _], _ => rfl⟩
theorem sc_check_both_k07 : FnScope ["one", "other"] ["one", "other"] d_check_both_k07.scope := ⟨rfl, rfl, rfl, by decide +kernel, rfl, by decide +kernel, by decide +kernel⟩
theorem ok_check_both_k07 (x : Fx K mg) (c_check_rule : FnB P w K mg base 1 d_check_rule ["value"] 1 den_check_rule) (D : ∃ fd, FunD K d_check_both_k07.name d_check_both_k07.qual d_check_both_k07.params d_check_both_k07.body d_check_both_k07.scope (d_check_both_k07.dvs K) (d_check_both_k07.kws K) (d_check_both_k07.at_ K) fd) : FnB P w K mg base 2 d_check_both_k07 ["one", "other"] 2 den_check_both_k07 := by
  refine fnB_of (k := 1) D sc_check_both_k07 rfl rfl fun cdv A outer s H E G => ?_
  unfold b_check_both_k07
  exact (sb_cons (ss_expr (se_callD [false] c_check_rule.up bd_check_rule G rfl x.glo_check_rule (sa_cons (se_var 0) sa_nil))) (sb_one (ss_expr (se_callD [false] c_check_rule.up bd_check_rule G rfl x.glo_check_rule (sa_cons (se_var 1) sa_nil)))))
theorem bd_common : BindD d_common ["high", "low"] := ⟨rfl, rfl, fun _ _ _ _ _ _ us hl => match us, hl with | [_, _], _ => rfl⟩
theorem sc_common : FnScope ["high", "low"] ["high", "low"] d_common.scope := ⟨rfl, rfl, rfl, by decide +kernel, rfl, by decide +kernel, by decide +kernel⟩
theorem ok_common (x : Fx K mg)  (D : ∃ fd, FunD K d_common.name d_common.qual d_common.params d_common.body d_common.scope (d_common.dvs K) (d_common.kws K) (d_common.at_ K) fd) : FnB P w K mg base 1 d_common ["high", "low"] 2 den_common := by
  refine fnB_of (k := 0) D sc_common rfl rfl fun cdv A outer s H E G => ?_
  unfold b_common
  exact (sb_cons (ss_while mostTurns G (st_cmp op_gt v_gt b_I (se_var 1) se_int) (sb_one (ss_par 0 1 true G (sa_cons (se_var 1) (sa_cons (se_bin op_mod v_mod (se_var 0) (se_var 1)) sa_nil))))) (sb_one (ss_ret (se_var 0))))
theorem bd_Rule__step : BindD d_Rule__step ["self"] := ⟨rfl, rfl, fun _ _ _ _ _ _ us hl => match us, hl with | [_], _ => rfl⟩
theorem sc_Rule__step : FnScope ["self"] ["self"] d_Rule__step.scope := ⟨rfl, rfl, rfl, by decide +kernel, rfl, by decide +kernel, by decide +kernel⟩
theorem ok_Rule__step (x : Fx K mg)  (D : ∃ fd, FunD K d_Rule__step.name d_Rule__step.qual d_Rule__step.params d_Rule__step.body d_Rule__step.scope (d_Rule__step.dvs K) (d_Rule__step.kws K) (d_Rule__step.at_ K) fd) : FnB P w K mg base 1 d_Rule__step ["self"] 1 den_Rule__step := by
  refine fnB_of (k := 0) D sc_Rule__step rfl rfl fun cdv A outer s H E G => ?_
  unfold b_Rule__step
  exact (sb_one (ss_ret (se_ix (se_get x.cls_Rule x.noat_Rule_parts (se_var 0)) se_int)))
theorem bd_Rule__setting : BindD d_Rule__setting ["self"] := ⟨rfl, rfl, fun _ _ _ _ _ _ us hl => match us, hl with | [_], _ => rfl⟩
theorem sc_Rule__setting : FnScope ["self"] ["self"] d_Rule__setting.scope := ⟨rfl, rfl, rfl, by decide +kernel, rfl, by decide +kernel, by decide +kernel⟩
theorem ok_Rule__setting (x : Fx K mg)  (D : ∃ fd, FunD K d_Rule__setting.name d_Rule__setting.qual d_Rule__setting.params d_Rule__setting.body d_Rule__setting.scope (d_Rule__setting.dvs K) (d_Rule__setting.kws K) (d_Rule__setting.at_ K) fd) : FnB P w K mg base 1 d_Rule__setting ["self"] 1 den_Rule__setting := by
  refine fnB_of (k := 0) D sc_Rule__setting rfl rfl fun cdv A outer s H E G => ?_
  unfold b_Rule__setting
  exact (sb_one (ss_ret (se_ix (se_get x.cls_Rule x.noat_Rule_parts (se_var 0)) se_int)))
theorem bd_reach : BindD d_reach ["rule"] := ⟨rfl, rfl, fun _ _ _ _ _ _ us hl => match us, hl with | [_], _ => rfl⟩
theorem sc_reach : FnScope ["rule"] ["rule"] d_reach.scope := ⟨rfl, rfl, rfl, by decide +kernel, rfl, by decide +kernel, by decide +kernel⟩
theorem ok_reach (x : Fx K mg) (c_Rule__setting : FnB P w K mg base 1 d_Rule__setting ["self"] 1 den_Rule__setting) (c_Rule__step : FnB P w K mg base 1 d_Rule__step ["self"] 1 den_Rule__step) (D : ∃ fd, FunD K d_reach.name d_reach.qual d_reach.params d_reach.body d_reach.scope (d_reach.dvs K) (d_reach.kws K) (d_reach.at_ K) fd) : FnB P w K mg base 3 d_reach ["rule"] 1 den_reach := by
  refine fnB_of (k := 2) D sc_reach rfl rfl fun cdv A outer s H E G => ?_
  unfold b_reach
  exact (sb_cons (ss_if (st_cmp (op_eqA G.room.units) v_eq b_eq (se_propD (k := 1) (d := d_Rule__setting) (se_var 0) x.cls_Rule x.prop_Rule_setting c_Rule__setting.up bd_Rule__setting G) se_str) (sb_one (ss_ret (se_tup (sa_cons se_int (sa_cons (se_bin op_sub v_sub (se_propD (k := 1) (d := d_Rule__step) (se_var 0) x.cls_Rule x.prop_Rule_step c_Rule__step.up bd_Rule__step G) se_int) sa_nil))))) sb_nil) (sb_cons (ss_if (st_cmp (op_eqA G.room.units) v_eq b_eq (se_propD (k := 1) (d := d_Rule__setting) (se_var 0) x.cls_Rule x.prop_Rule_setting c_Rule__setting.up bd_Rule__setting G) se_str) (sb_one (ss_ret (se_tup (sa_cons (se_bin op_sub v_sub se_int (se_propD (k := 1) (d := d_Rule__step) (se_var 0) x.cls_Rule x.prop_Rule_step c_Rule__step.up bd_Rule__step G)) (sa_cons se_int sa_nil))))) sb_nil) (sb_one (ss_ret (se_tup (sa_cons (se_neg (se_bin op_fdivW v_div (se_bin op_sub v_sub (se_propD (k := 1) (d := d_Rule__step) (se_var 0) x.cls_Rule x.prop_Rule_step c_Rule__step.up bd_Rule__step G) se_int) se_int)) (sa_cons (se_bin op_fdivW v_div (se_propD (k := 1) (d := d_Rule__step) (se_var 0) x.cls_Rule x.prop_Rule_step c_Rule__step.up bd_Rule__step G) se_int) sa_nil)))))))
theorem bd_up : BindD d_up ["number", "part"] := ⟨rfl, rfl, fun _ _ _ _ _ _ us hl => match us, hl with | [_, _], _ => rfl⟩
theorem sc_up : FnScope ["number", "part"] ["number", "part"] d_up.scope := ⟨rfl, rfl, rfl, by decide +kernel, rfl, by decide +kernel, by decide +kernel⟩
theorem ok_up (x : Fx K mg)  (D : ∃ fd, FunD K d_up.name d_up.qual d_up.params d_up.body d_up.scope (d_up.dvs K) (d_up.kws K) (d_up.at_ K) fd) : FnB P w K mg base 1 d_up ["number", "part"] 2 den_up := by
  refine fnB_of (k := 0) D sc_up rfl rfl fun cdv A outer s H E G => ?_
  unfold b_up
  exact (sb_one (ss_ret (se_neg (se_bin op_fdivW v_div (se_neg (se_var 0)) (se_var 1)))))
theorem bd_sum_of : BindD d_sum_of ["low", "high", "part", "base", "slope"] := ⟨rfl, rfl, fun _ _ _ _ _ _ us hl => match us, hl with | [_, _, _, _, _], _ => rfl⟩
theorem sc_sum_of : FnScope ["low", "high", "part", "base", "slope", "first", "many"] ["low", "high", "part", "base", "slope"] d_sum_of.scope := ⟨rfl, rfl, rfl, by decide +kernel, rfl, by decide +kernel, by decide +kernel⟩
theorem ok_sum_of (x : Fx K mg) (c_up : FnB P w K mg base 1 d_up ["number", "part"] 2 den_up) (D : ∃ fd, FunD K d_sum_of.name d_sum_of.qual d_sum_of.params d_sum_of.body d_sum_of.scope (d_sum_of.dvs K) (d_sum_of.kws K) (d_sum_of.at_ K) fd) : FnB P w K mg base 2 d_sum_of ["low", "high", "part", "base", "slope"] 5 den_sum_of := by
  refine fnB_of (k := 1) D sc_sum_of rfl rfl fun cdv A outer s H E G => ?_
  unfold b_sum_of
  exact (sb_cons (ss_set 5 G (se_bin op_mulP v_mul (se_callD [false, false] c_up.up bd_up G rfl x.glo_up (sa_cons (se_var 0) (sa_cons (se_var 2) sa_nil))) (se_var 2))) (sb_cons (ss_if (st_cmp op_gt v_gt b_I (se_var 5) (se_var 1)) (sb_one (ss_ret se_int)) sb_nil) (sb_cons (ss_set 6 G (se_bin op_addA v_add (se_bin op_fdivW v_div (se_bin op_sub v_sub (se_var 1) (se_var 5)) (se_var 2)) se_int)) (sb_one (ss_ret (se_bin op_addA v_add (se_bin op_mulP v_mul (se_var 3) (se_var 6)) (se_bin op_mulP v_mul (se_var 4) (se_bin op_addA v_add (se_bin op_mulP v_mul (se_var 6) (se_var 5)) (se_bin op_mulP v_mul (se_var 2) (se_bin op_fdivW v_div (se_bin op_mulP v_mul (se_var 6) (se_bin op_sub v_sub (se_var 6) se_int)) se_int))))))))))
theorem bd_how_many_k07 : BindD d_how_many_k07 ["one", "other", "least"] := ⟨rfl, rfl, fun _ _ _ _ _ _ us hl => match us, hl with | [_, _, _], _ => rfl⟩
theorem bk_how_many_k07_0_least_other_one : BindK d_how_many_k07 ["one", "other", "least"] 0 ["least", "other", "one"] [2, 1, 0] := ⟨rfl, by decide, fun _ _ _ _ _ _ us ws h1 h2 => match us, ws, h1, h2 with | [], [_, _, _], _, _ => rfl⟩
theorem sc_how_many_k07 : FnScope ["one", "other", "least", "found", "part", "need", "marks", "begin", "end", "low", "high", "deep", "top"] ["one", "other", "least"] d_how_many_k07.scope := ⟨rfl, rfl, rfl, by decide +kernel, rfl, by decide +kernel, by decide +kernel⟩
theorem ok_how_many_k07 (x : Fx K mg) (c_check_both_k07 : FnB P w K mg base 2 d_check_both_k07 ["one", "other"] 2 den_check_both_k07) (c_check_number : FnB P w K mg base 3 d_check_number ["value", "least", "most"] 3 den_check_number) (c_common : FnB P w K mg base 1 d_common ["high", "low"] 2 den_common) (c_Rule__step : FnB P w K mg base 1 d_Rule__step ["self"] 1 den_Rule__step) (c_reach : FnB P w K mg base 3 d_reach ["rule"] 1 den_reach) (c_sum_of : FnB P w K mg base 2 d_sum_of ["low", "high", "part", "base", "slope"] 5 den_sum_of) (D : ∃ fd, FunD K d_how_many_k07.name d_how_many_k07.qual d_how_many_k07.params d_how_many_k07.body d_how_many_k07.scope (d_how_many_k07.dvs K) (d_how_many_k07.kws K) (d_how_many_k07.at_ K) fd) : FnB P w K mg base 4 d_how_many_k07 ["one", "other", "least"] 3 den_how_many_k07 := by
  refine fnB_of (k := 3) D sc_how_many_k07 rfl rfl fun cdv A outer s H E G => ?_
  unfold b_how_many_k07
  exact (sb_cons (ss_expr (se_callD [false, false] c_check_both_k07.up bd_check_both_k07 G rfl x.glo_check_both (sa_cons (se_var 0) (sa_cons (se_var 1) sa_nil)))) (sb_cons (ss_expr (se_callD [false, false, false] c_check_number.up bd_check_number G rfl x.glo_check_number (sa_cons (se_var 2) (sa_cons (se_neg (se_gInt rfl x.int_MOST_LEAST_100000000000000000000)) (sa_cons (se_gInt rfl x.int_MOST_LEAST_100000000000000000000) sa_nil))))) (sb_cons (ss_asg (ws := [4, 9, 10, 11, 12]) (se_tup (sa_cons (se_callD [false] c_reach.up bd_reach G rfl x.glo_reach (sa_cons (se_var 0) sa_nil)) (sa_cons (se_callD [false] c_reach.up bd_reach G rfl x.glo_reach (sa_cons (se_var 1) sa_nil)) (sa_cons (se_callD [false, false] c_common.up bd_common G rfl x.glo_common (sa_cons (se_propD (k := 2) (d := d_Rule__step) (se_var 0) x.cls_Rule x.prop_Rule_step c_Rule__step.up bd_Rule__step G) (sa_cons (se_propD (k := 2) (d := d_Rule__step) (se_var 1) x.cls_Rule x.prop_Rule_step c_Rule__step.up bd_Rule__step G) sa_nil))) sa_nil)))) (sg_tup G.calm (sgs_cons (sg_tup G.calm (sgs_cons (sg_name 9 G.nd) (sgs_cons (sg_name 10 G.nd) sgs_nil))) (sgs_cons (sg_tup G.calm (sgs_cons (sg_name 11 G.nd) (sgs_cons (sg_name 12 G.nd) sgs_nil))) (sgs_cons (sg_name 4 G.nd) sgs_nil))))) (sb_cons (ss_par 5 6 false G (sa_cons (se_bin op_addA v_add (se_bin op_sub v_sub (se_var 2) (se_get x.cls_Rule x.noat_Rule_limit (se_var 0))) (se_get x.cls_Rule x.noat_Rule_limit (se_var 1))) (sa_cons (se_sort rfl x.free_sorted (se_lst (sa_cons (se_bin op_sub v_sub (se_var 10) (se_var 12)) (sa_cons (se_bin op_sub v_sub (se_var 9) (se_var 11)) sa_nil)))) sa_nil))) (sb_cons (ss_par 7 8 false G (sa_cons (se_bin op_sub v_sub (se_var 9) (se_var 12)) (sa_cons (se_bin op_sub v_sub (se_var 10) (se_var 11)) sa_nil))) (sb_cons (ss_set 3 G (se_callD [false, false, false, false, false] c_sum_of.up bd_sum_of G rfl x.glo_sum_of (sa_cons (se_callB (call_max2 G.calm) v_max2 rfl x.free_max (sa_cons (se_var 5) (sa_cons (se_var 7) sa_nil))) (sa_cons (se_ix (se_var 6) se_int) (sa_cons (se_var 4) (sa_cons (se_bin op_sub v_sub se_int (se_var 7)) (sa_cons se_int sa_nil))))))) (sb_cons (ss_aug 3 G iop_add v_addI (se_callD [false, false, false, false, false] c_sum_of.up bd_sum_of G rfl x.glo_sum_of (sa_cons (se_callB (call_max2 G.calm) v_max2 rfl x.free_max (sa_cons (se_var 5) (sa_cons (se_bin op_addA v_add (se_ix (se_var 6) se_int) se_int) sa_nil))) (sa_cons (se_ix (se_var 6) se_int) (sa_cons (se_var 4) (sa_cons (se_callB (call_min2 G.calm) v_min2 rfl x.free_min (sa_cons (se_propD (k := 2) (d := d_Rule__step) (se_var 0) x.cls_Rule x.prop_Rule_step c_Rule__step.up bd_Rule__step G) (sa_cons (se_propD (k := 2) (d := d_Rule__step) (se_var 1) x.cls_Rule x.prop_Rule_step c_Rule__step.up bd_Rule__step G) sa_nil))) (sa_cons se_int sa_nil))))))) (sb_cons (ss_aug 3 G iop_add v_addI (se_callD [false, false, false, false, false] c_sum_of.up bd_sum_of G rfl x.glo_sum_of (sa_cons (se_callB (call_max2 G.calm) v_max2 rfl x.free_max (sa_cons (se_var 5) (sa_cons (se_bin op_addA v_add (se_ix (se_var 6) se_int) se_int) sa_nil))) (sa_cons (se_var 8) (sa_cons (se_var 4) (sa_cons (se_bin op_addA v_add (se_var 8) se_int) (sa_cons (se_neg se_int) sa_nil))))))) (sb_one (ss_ret (se_tup (sa_cons (se_var 3) (sa_cons (se_bin op_mulP v_mul (se_bin op_fdivW v_div (se_propD (k := 2) (d := d_Rule__step) (se_var 0) x.cls_Rule x.prop_Rule_step c_Rule__step.up bd_Rule__step G) (se_var 4)) (se_propD (k := 2) (d := d_Rule__step) (se_var 1) x.cls_Rule x.prop_Rule_step c_Rule__step.up bd_Rule__step G)) sa_nil)))))))))))))
theorem bd_mark_at : BindD d_mark_at ["rule", "arrival"] := ⟨rfl, rfl, fun _ _ _ _ _ _ us hl => match us, hl with | [_, _], _ => rfl⟩
theorem sc_mark_at : FnScope ["rule", "arrival", "low"] ["rule", "arrival"] d_mark_at.scope := ⟨rfl, rfl, rfl, by decide +kernel, rfl, by decide +kernel, by decide +kernel⟩
theorem ok_mark_at (x : Fx K mg) (c_reach : FnB P w K mg base 3 d_reach ["rule"] 1 den_reach) (c_Rule__step : FnB P w K mg base 1 d_Rule__step ["self"] 1 den_Rule__step) (D : ∃ fd, FunD K d_mark_at.name d_mark_at.qual d_mark_at.params d_mark_at.body d_mark_at.scope (d_mark_at.dvs K) (d_mark_at.kws K) (d_mark_at.at_ K) fd) : FnB P w K mg base 4 d_mark_at ["rule", "arrival"] 2 den_mark_at := by
  refine fnB_of (k := 3) D sc_mark_at rfl rfl fun cdv A outer s H E G => ?_
  unfold b_mark_at
  exact (sb_cons (ss_set 2 G (se_ix (se_callD [false] c_reach.up bd_reach G rfl x.glo_reach (sa_cons (se_var 0) sa_nil)) se_int)) (sb_one (ss_ret (se_bin op_addA v_add (se_bin op_addA v_add (se_var 1) (se_var 2)) (se_bin op_mod v_mod (se_bin op_sub v_sub (se_neg (se_var 1)) (se_var 2)) (se_propD (k := 2) (d := d_Rule__step) (se_var 0) x.cls_Rule x.prop_Rule_step c_Rule__step.up bd_Rule__step G))))))
theorem bd_first_in : BindD d_first_in ["step", "whole", "low", "high"] := ⟨rfl, rfl, fun _ _ _ _ _ _ us hl => match us, hl with | [_, _, _, _], _ => rfl⟩
theorem sc_first_in : FnScope ["step", "whole", "low", "high", "least", "back"] ["step", "whole", "low", "high"] d_first_in.scope := ⟨rfl, rfl, rfl, by decide +kernel, rfl, by decide +kernel, by decide +kernel⟩
theorem ok_first_in (x : Fx K mg) (c_up : FnB P w K mg base 1 d_up ["number", "part"] 2 den_up) (D : ∃ fd, FunD K d_first_in.name d_first_in.qual d_first_in.params d_first_in.body d_first_in.scope (d_first_in.dvs K) (d_first_in.kws K) (d_first_in.at_ K) fd) : FnB P w K mg base 102 d_first_in ["step", "whole", "low", "high"] 4 den_first_in := by
  have go : ∀ i : Nat, FnB P w K mg base (2 + i) d_first_in ["step", "whole", "low", "high"] 4 (denN_first_in i) := by
    intro i
    induction i with
    | zero => exact fnB_bad D rfl
    | succ i c_self =>
      refine fnB_of (k := 2 + i) D sc_first_in rfl rfl fun cdv A outer s H E G => ?_
      unfold b_first_in
      exact (sb_cons (ss_aug 0 G iop_mod v_mod (se_var 1)) (sb_cons (ss_if (st_cmp (op_eqA G.room.units) v_eq b_eq (se_var 2) se_int) (sb_one (ss_ret se_int)) sb_nil) (sb_cons (ss_if (st_cmp (op_eqA G.room.units) v_eq b_eq (se_var 0) se_int) (sb_one (ss_ret se_non)) sb_nil) (sb_cons (ss_set 4 G (se_callD [false, false] (c_up.up (by omega)) bd_up G rfl x.glo_up (sa_cons (se_var 2) (sa_cons (se_var 0) sa_nil)))) (sb_cons (ss_if (st_cmp op_le v_le b_I (se_bin op_mulP v_mul (se_var 0) (se_var 4)) (se_var 3)) (sb_one (ss_ret (se_var 4))) sb_nil) (sb_cons (ss_set 5 G (se_callD [false, false, false, false] c_self bd_first_in G rfl x.glo_first_in (sa_cons (se_bin op_mod v_mod (se_var 1) (se_var 0)) (sa_cons (se_var 0) (sa_cons (se_bin op_mod v_mod (se_neg (se_var 3)) (se_var 0)) (sa_cons (se_bin op_mod v_mod (se_neg (se_var 2)) (se_var 0)) sa_nil)))))) (sb_one (ss_ret (se_ifE (st_cmp op_isN v_is b_is (se_var 5) se_non) se_non (se_callD [false, false] (c_up.up (by omega)) bd_up G rfl x.glo_up (sa_cons (se_bin op_addA v_add (se_var 2) (se_bin op_mulP v_mul (se_var 1) (se_var 5))) (sa_cons (se_var 0) sa_nil))))))))))))
  exact go 100
theorem bd_first_rest : BindD d_first_rest ["start", "step", "whole", "most"] := ⟨rfl, rfl, fun _ _ _ _ _ _ us hl => match us, hl with | [_, _, _, _], _ => rfl⟩
theorem sc_first_rest : FnScope ["start", "step", "whole", "most", "low", "high"] ["start", "step", "whole", "most"] d_first_rest.scope := ⟨rfl, rfl, rfl, by decide +kernel, rfl, by decide +kernel, by decide +kernel⟩
theorem ok_first_rest (x : Fx K mg) (c_first_in : FnB P w K mg base 102 d_first_in ["step", "whole", "low", "high"] 4 den_first_in) (D : ∃ fd, FunD K d_first_rest.name d_first_rest.qual d_first_rest.params d_first_rest.body d_first_rest.scope (d_first_rest.dvs K) (d_first_rest.kws K) (d_first_rest.at_ K) fd) : FnB P w K mg base 103 d_first_rest ["start", "step", "whole", "most"] 4 den_first_rest := by
  refine fnB_of (k := 102) D sc_first_rest rfl rfl fun cdv A outer s H E G => ?_
  unfold b_first_rest
  exact (sb_cons (ss_if (st_cmp op_lt v_lt b_I (se_var 3) se_int) (sb_one (ss_ret se_non)) sb_nil) (sb_cons (ss_par 4 5 false G (sa_cons (se_bin op_mod v_mod (se_neg (se_var 0)) (se_var 2)) (sa_cons (se_bin op_mod v_mod (se_bin op_sub v_sub (se_var 3) (se_var 0)) (se_var 2)) sa_nil))) (sb_cons (ss_if (st_w (sw_or (st_cmp op_ge v_ge b_I (se_var 3) (se_bin op_sub v_sub (se_var 2) se_int)) (sw_or1 (st_cmp op_gt v_gt b_I (se_var 4) (se_var 5))))) (sb_one (ss_ret se_int)) sb_nil) (sb_one (ss_ret (se_callD [false, false, false, false] c_first_in.up bd_first_in G rfl x.glo_first_in (sa_cons (se_var 1) (sa_cons (se_var 2) (sa_cons (se_var 4) (sa_cons (se_var 5) sa_nil))))))))))
theorem bd_arrival_with_k07 : BindD d_arrival_with_k07 ["one", "other", "least"] := ⟨rfl, rfl, fun _ _ _ _ _ _ us hl => match us, hl with | [_, _, _], _ => rfl⟩
theorem bk_arrival_with_k07_0_least_other_one : BindK d_arrival_with_k07 ["one", "other", "least"] 0 ["least", "other", "one"] [2, 1, 0] := ⟨rfl, by decide, fun _ _ _ _ _ _ us ws h1 h2 => match us, ws, h1, h2 with | [], [_, _, _], _, _ => rfl⟩
theorem sc_arrival_with_k07 : FnScope ["one", "other", "least", "begin", "turns", "need", "high", "deep"] ["one", "other", "least"] d_arrival_with_k07.scope := ⟨rfl, rfl, rfl, by decide +kernel, rfl, by decide +kernel, by decide +kernel⟩
theorem ok_arrival_with_k07 (x : Fx K mg) (c_check_both_k07 : FnB P w K mg base 2 d_check_both_k07 ["one", "other"] 2 den_check_both_k07) (c_check_number : FnB P w K mg base 3 d_check_number ["value", "least", "most"] 3 den_check_number) (c_reach : FnB P w K mg base 3 d_reach ["rule"] 1 den_reach) (c_mark_at : FnB P w K mg base 4 d_mark_at ["rule", "arrival"] 2 den_mark_at) (c_Rule__step : FnB P w K mg base 1 d_Rule__step ["self"] 1 den_Rule__step) (c_first_rest : FnB P w K mg base 103 d_first_rest ["start", "step", "whole", "most"] 4 den_first_rest) (D : ∃ fd, FunD K d_arrival_with_k07.name d_arrival_with_k07.qual d_arrival_with_k07.params d_arrival_with_k07.body d_arrival_with_k07.scope (d_arrival_with_k07.dvs K) (d_arrival_with_k07.kws K) (d_arrival_with_k07.at_ K) fd) : FnB P w K mg base 104 d_arrival_with_k07 ["one", "other", "least"] 3 den_arrival_with_k07 := by
  refine fnB_of (k := 103) D sc_arrival_with_k07 rfl rfl fun cdv A outer s H E G => ?_
  unfold b_arrival_with_k07
  exact (sb_cons (ss_expr (se_callD [false, false] c_check_both_k07.up bd_check_both_k07 G rfl x.glo_check_both (sa_cons (se_var 0) (sa_cons (se_var 1) sa_nil)))) (sb_cons (ss_expr (se_callD [false, false, false] c_check_number.up bd_check_number G rfl x.glo_check_number (sa_cons (se_var 2) (sa_cons (se_neg (se_gInt rfl x.int_MOST_LEAST_100000000000000000000)) (sa_cons (se_gInt rfl x.int_MOST_LEAST_100000000000000000000) sa_nil))))) (sb_cons (ss_par3 5 6 7 false G (sa_cons (se_bin op_addA v_add (se_bin op_sub v_sub (se_var 2) (se_get x.cls_Rule x.noat_Rule_limit (se_var 0))) (se_get x.cls_Rule x.noat_Rule_limit (se_var 1))) (sa_cons (se_ix (se_callD [false] c_reach.up bd_reach G rfl x.glo_reach (sa_cons (se_var 0) sa_nil)) se_int) (sa_cons (se_ix (se_callD [false] c_reach.up bd_reach G rfl x.glo_reach (sa_cons (se_var 1) sa_nil)) se_int) sa_nil)))) (sb_cons (ss_if (st_cmp op_ge v_ge b_I (se_bin op_sub v_sub (se_callD [false, false] c_mark_at.up bd_mark_at G rfl x.glo_mark_at (sa_cons (se_var 0) (sa_cons se_int sa_nil))) (se_callD [false, false] c_mark_at.up bd_mark_at G rfl x.glo_mark_at (sa_cons (se_var 1) (sa_cons se_int sa_nil)))) (se_var 5)) (sb_one (ss_ret se_int)) sb_nil) (sb_cons (ss_set 3 G (se_bin op_sub v_sub (se_bin op_mulP v_mul (se_bin op_addA v_add (se_bin op_fdivW v_div (se_var 6) (se_propD (k := 102) (d := d_Rule__step) (se_var 0) x.cls_Rule x.prop_Rule_step c_Rule__step.up bd_Rule__step G)) se_int) (se_propD (k := 102) (d := d_Rule__step) (se_var 0) x.cls_Rule x.prop_Rule_step c_Rule__step.up bd_Rule__step G)) (se_var 6))) (sb_cons (ss_set 4 G (se_callD [false, false, false, false] c_first_rest.up bd_first_rest G rfl x.glo_first_rest (sa_cons (se_bin op_sub v_sub (se_neg (se_var 3)) (se_var 7)) (sa_cons (se_neg (se_propD (k := 102) (d := d_Rule__step) (se_var 0) x.cls_Rule x.prop_Rule_step c_Rule__step.up bd_Rule__step G)) (sa_cons (se_propD (k := 102) (d := d_Rule__step) (se_var 1) x.cls_Rule x.prop_Rule_step c_Rule__step.up bd_Rule__step G) (sa_cons (se_bin op_sub v_sub (se_bin op_sub v_sub (se_var 6) (se_var 5)) (se_var 7)) sa_nil)))))) (sb_one (ss_ret (se_ifE (st_cmp op_isN v_is b_is (se_var 4) se_non) se_non (se_bin op_addA v_add (se_var 3) (se_bin op_mulP v_mul (se_var 4) (se_propD (k := 102) (d := d_Rule__step) (se_var 0) x.cls_Rule x.prop_Rule_step c_Rule__step.up bd_Rule__step G))))))))))))
theorem bd_bounds_of : BindD d_bounds_of ["one", "other"] := ⟨rfl, rfl, fun _ _ _ _ _ _ us hl => match us, hl with | [_, _], _ => rfl⟩
theorem sc_bounds_of : FnScope ["one", "other", "part", "low", "high", "deep", "top"] ["one", "other"] d_bounds_of.scope := ⟨rfl, rfl, rfl, by decide +kernel, rfl, by decide +kernel, by decide +kernel⟩
theorem ok_bounds_of (x : Fx K mg) (c_common : FnB P w K mg base 1 d_common ["high", "low"] 2 den_common) (c_Rule__step : FnB P w K mg base 1 d_Rule__step ["self"] 1 den_Rule__step) (c_reach : FnB P w K mg base 3 d_reach ["rule"] 1 den_reach) (c_up : FnB P w K mg base 1 d_up ["number", "part"] 2 den_up) (D : ∃ fd, FunD K d_bounds_of.name d_bounds_of.qual d_bounds_of.params d_bounds_of.body d_bounds_of.scope (d_bounds_of.dvs K) (d_bounds_of.kws K) (d_bounds_of.at_ K) fd) : FnB P w K mg base 4 d_bounds_of ["one", "other"] 2 den_bounds_of := by
  refine fnB_of (k := 3) D sc_bounds_of rfl rfl fun cdv A outer s H E G => ?_
  unfold b_bounds_of
  exact (sb_cons (ss_asg (ws := [2, 3, 4, 5, 6]) (se_tup (sa_cons (se_callD [false] c_reach.up bd_reach G rfl x.glo_reach (sa_cons (se_var 0) sa_nil)) (sa_cons (se_callD [false] c_reach.up bd_reach G rfl x.glo_reach (sa_cons (se_var 1) sa_nil)) (sa_cons (se_callD [false, false] c_common.up bd_common G rfl x.glo_common (sa_cons (se_propD (k := 2) (d := d_Rule__step) (se_var 0) x.cls_Rule x.prop_Rule_step c_Rule__step.up bd_Rule__step G) (sa_cons (se_propD (k := 2) (d := d_Rule__step) (se_var 1) x.cls_Rule x.prop_Rule_step c_Rule__step.up bd_Rule__step G) sa_nil))) sa_nil)))) (sg_tup G.calm (sgs_cons (sg_tup G.calm (sgs_cons (sg_name 3 G.nd) (sgs_cons (sg_name 4 G.nd) sgs_nil))) (sgs_cons (sg_tup G.calm (sgs_cons (sg_name 5 G.nd) (sgs_cons (sg_name 6 G.nd) sgs_nil))) (sgs_cons (sg_name 2 G.nd) sgs_nil))))) (sb_one (ss_ret (se_tup (sa_cons (se_bin op_mulP v_mul (se_callD [false, false] c_up.up bd_up G rfl x.glo_up (sa_cons (se_bin op_sub v_sub (se_var 3) (se_var 6)) (sa_cons (se_var 2) sa_nil))) (se_var 2)) (sa_cons (se_bin op_mulP v_mul (se_bin op_fdivW v_div (se_bin op_sub v_sub (se_var 4) (se_var 5)) (se_var 2)) (se_var 2)) sa_nil))))))
theorem bd_versus_k07 : BindD d_versus_k07 ["one", "other"] := ⟨rfl, rfl, fun _ _ _ _ _ _ us hl => match us, hl with | [_, _], _ => rfl⟩
theorem bk_versus_k07_0_other_one : BindK d_versus_k07 ["one", "other"] 0 ["other", "one"] [1, 0] := ⟨rfl, by decide, fun _ _ _ _ _ _ us ws h1 h2 => match us, ws, h1, h2 with | [], [_, _], _, _ => rfl⟩
theorem sc_versus_k07 : FnScope ["one", "other", "least", "most"] ["one", "other"] d_versus_k07.scope := ⟨rfl, rfl, rfl, by decide +kernel, rfl, by decide +kernel, by decide +kernel⟩
theorem ok_versus_k07 (x : Fx K mg) (c_check_both_k07 : FnB P w K mg base 2 d_check_both_k07 ["one", "other"] 2 den_check_both_k07) (c_bounds_of : FnB P w K mg base 4 d_bounds_of ["one", "other"] 2 den_bounds_of) (D : ∃ fd, FunD K d_versus_k07.name d_versus_k07.qual d_versus_k07.params d_versus_k07.body d_versus_k07.scope (d_versus_k07.dvs K) (d_versus_k07.kws K) (d_versus_k07.at_ K) fd) : FnB P w K mg base 5 d_versus_k07 ["one", "other"] 2 den_versus_k07 := by
  refine fnB_of (k := 4) D sc_versus_k07 rfl rfl fun cdv A outer s H E G => ?_
  unfold b_versus_k07
  exact (sb_cons (ss_expr (se_callD [false, false] c_check_both_k07.up bd_check_both_k07 G rfl x.glo_check_both (sa_cons (se_var 0) (sa_cons (se_var 1) sa_nil)))) (sb_cons (ss_asg (ws := [2, 3]) (se_callD [false, false] c_bounds_of.up bd_bounds_of G rfl x.glo_bounds_of (sa_cons (se_var 0) (sa_cons (se_var 1) sa_nil))) (sg_tup G.calm (sgs_cons (sg_name 2 G.nd) (sgs_cons (sg_name 3 G.nd) sgs_nil)))) (sb_one (ss_ret (se_tup (sa_cons (se_bin op_sub v_sub (se_bin op_addA v_add (se_var 2) (se_get x.cls_Rule x.noat_Rule_limit (se_var 0))) (se_get x.cls_Rule x.noat_Rule_limit (se_var 1))) (sa_cons (se_bin op_sub v_sub (se_bin op_addA v_add (se_var 3) (se_get x.cls_Rule x.noat_Rule_limit (se_var 0))) (se_get x.cls_Rule x.noat_Rule_limit (se_var 1))) sa_nil)))))))
theorem bd_never_less_k07 : BindD d_never_less_k07 ["one", "other"] := ⟨rfl, rfl, fun _ _ _ _ _ _ us hl => match us, hl with | [_, _], _ => rfl⟩
theorem bk_never_less_k07_0_other_one : BindK d_never_less_k07 ["one", "other"] 0 ["other", "one"] [1, 0] := ⟨rfl, by decide, fun _ _ _ _ _ _ us ws h1 h2 => match us, ws, h1, h2 with | [], [_, _], _, _ => rfl⟩
theorem sc_never_less_k07 : FnScope ["one", "other"] ["one", "other"] d_never_less_k07.scope := ⟨rfl, rfl, rfl, by decide +kernel, rfl, by decide +kernel, by decide +kernel⟩
theorem ok_never_less_k07 (x : Fx K mg) (c_versus_k07 : FnB P w K mg base 5 d_versus_k07 ["one", "other"] 2 den_versus_k07) (D : ∃ fd, FunD K d_never_less_k07.name d_never_less_k07.qual d_never_less_k07.params d_never_less_k07.body d_never_less_k07.scope (d_never_less_k07.dvs K) (d_never_less_k07.kws K) (d_never_less_k07.at_ K) fd) : FnB P w K mg base 6 d_never_less_k07 ["one", "other"] 2 den_never_less_k07 := by
  refine fnB_of (k := 5) D sc_never_less_k07 rfl rfl fun cdv A outer s H E G => ?_
  unfold b_never_less_k07
  exact (sb_one (ss_ret (se_cmp op_ge v_ge (se_ix (se_callD [false, false] c_versus_k07.up bd_versus_k07 G rfl x.glo_versus (sa_cons (se_var 0) (sa_cons (se_var 1) sa_nil))) se_int) se_int)))
theorem bd__law_sip : BindD d__law_sip ["_law_flask_here", "_law_top"] := ⟨rfl, rfl, fun _ _ _ _ _ _ us hl => match us, hl with | [_, _], _ => rfl⟩
theorem sc__law_sip : FnScope ["_law_flask_here", "_law_top", "_law_digit"] ["_law_flask_here", "_law_top"] d__law_sip.scope := ⟨rfl, rfl, rfl, by decide +kernel, rfl, by decide +kernel, by decide +kernel⟩
theorem ok__law_sip (x : Fx K mg)  (D : ∃ fd, FunD K d__law_sip.name d__law_sip.qual d__law_sip.params d__law_sip.body d__law_sip.scope (d__law_sip.dvs K) (d__law_sip.kws K) (d__law_sip.at_ K) fd) : FnB P w K mg base 1 d__law_sip ["_law_flask_here", "_law_top"] 2 den__law_sip := by
  refine fnB_of (k := 0) D sc__law_sip rfl rfl fun cdv A outer s H E G => ?_
  unfold b__law_sip
  exact (sb_cons (ss_asg (ws := []) (se_bin op_addA v_add (se_ix (se_var 0) se_int) se_int) (sg_sb (se_var 0) se_int)) (sb_cons (ss_if (st_cmp op_gt v_gt b_I (se_ix (se_var 0) se_int) se_int) (sb_cons (ss_set 2 G (se_bin op_mod v_mod (se_callT call_int1 v_int rfl x.free_int (sa_cons (se_ix (se_var 0) se_int) sa_nil)) (se_var 1))) (sb_cons (ss_asg (ws := []) (se_bin op_fdivW v_div (se_callT call_int1 v_int rfl x.free_int (sa_cons (se_ix (se_var 0) se_int) sa_nil)) (se_var 1)) (sg_sb (se_var 0) se_int)) (sb_one (ss_ret (se_var 2))))) sb_nil) (sb_cons (ss_asg (ws := []) (se_bin op_mod v_mod (se_callT call_int1 v_int rfl x.free_int (sa_cons (se_bin op_addA v_add (se_bin op_addA v_add (se_bin op_mulP v_mul (se_ix (se_var 0) se_int) se_int) (se_bin op_mulP v_mul se_int (se_ix (se_var 0) se_int))) se_int) sa_nil)) se_int) (sg_sb (se_var 0) se_int)) (sb_one (ss_ret (se_bin op_mod v_mod (se_callT call_int1 v_int rfl x.free_int (sa_cons (se_bin op_fdivW v_div (se_ix (se_var 0) se_int) se_int) sa_nil)) (se_var 1)))))))
theorem bd__law_pick : BindD d__law_pick ["_law_flask_here", "_law_menu"] := ⟨rfl, rfl, fun _ _ _ _ _ _ us hl => match us, hl with | [_, _], _ => rfl⟩
theorem sc__law_pick : FnScope ["_law_flask_here", "_law_menu"] ["_law_flask_here", "_law_menu"] d__law_pick.scope := ⟨rfl, rfl, rfl, by decide +kernel, rfl, by decide +kernel, by decide +kernel⟩
theorem ok__law_pick (x : Fx K mg) (c__law_sip : FnB P w K mg base 1 d__law_sip ["_law_flask_here", "_law_top"] 2 den__law_sip) (D : ∃ fd, FunD K d__law_pick.name d__law_pick.qual d__law_pick.params d__law_pick.body d__law_pick.scope (d__law_pick.dvs K) (d__law_pick.kws K) (d__law_pick.at_ K) fd) : FnB P w K mg base 2 d__law_pick ["_law_flask_here", "_law_menu"] 2 den__law_pick := by
  refine fnB_of (k := 1) D sc__law_pick rfl rfl fun cdv A outer s H E G => ?_
  unfold b__law_pick
  exact (sb_one (ss_ret (se_ix (se_var 1) (se_callD [true, false] c__law_sip.up bd__law_sip G rfl x.glo__law_sip (sa_cons (se_var 0) (sa_cons (se_callB c_len v_len rfl x.free_len (sa_cons (se_var 1) sa_nil)) sa_nil))))))
theorem bd__law_far : BindD d__law_far ["_law_flask_here", "_law_most"] := ⟨rfl, rfl, fun _ _ _ _ _ _ us hl => match us, hl with | [_, _], _ => rfl⟩
theorem sc__law_far : FnScope ["_law_flask_here", "_law_most", "_law_scale"] ["_law_flask_here", "_law_most"] d__law_far.scope := ⟨rfl, rfl, rfl, by decide +kernel, rfl, by decide +kernel, by decide +kernel⟩
theorem ok__law_far (x : Fx K mg) (c__law_sip : FnB P w K mg base 1 d__law_sip ["_law_flask_here", "_law_top"] 2 den__law_sip) (c__law_pick : FnB P w K mg base 2 d__law_pick ["_law_flask_here", "_law_menu"] 2 den__law_pick) (D : ∃ fd, FunD K d__law_far.name d__law_far.qual d__law_far.params d__law_far.body d__law_far.scope (d__law_far.dvs K) (d__law_far.kws K) (d__law_far.at_ K) fd) : FnB P w K mg base 3 d__law_far ["_law_flask_here", "_law_most"] 2 den__law_far := by
  refine fnB_of (k := 2) D sc__law_far rfl rfl fun cdv A outer s H E G => ?_
  unfold b__law_far
  exact (sb_cons (ss_if (st_cmp op_le v_le b_I (se_var 1) (se_bin op_pow v_pow se_int se_int)) (sb_one (ss_ret (se_bin op_addA v_add se_int (se_callD [true, false] c__law_sip.up bd__law_sip G rfl x.glo__law_sip (sa_cons (se_var 0) (sa_cons (se_var 1) sa_nil)))))) sb_nil) (sb_cons (ss_set 2 G (se_callD [true, false] c__law_pick.up bd__law_pick G rfl x.glo__law_pick (sa_cons (se_var 0) (sa_cons (se_lst (sa_cons se_int (sa_cons se_int (sa_cons (se_bin op_pow v_pow se_int se_int) (sa_cons (se_bin op_pow v_pow se_int se_int) (sa_cons (se_bin op_pow v_pow se_int se_int) (sa_cons (se_bin op_pow v_pow se_int se_int) (sa_cons (se_bin op_pow v_pow se_int se_int) (sa_cons (se_bin op_pow v_pow se_int se_int) sa_nil))))))))) sa_nil)))) (sb_one (ss_ret (se_bin op_addA v_add se_int (se_bin op_mod v_mod (se_callT call_int1 v_int rfl x.free_int (sa_cons (se_bin op_addA v_add (se_bin op_mulP v_mul (se_callD [true, false] c__law_sip.up bd__law_sip G rfl x.glo__law_sip (sa_cons (se_var 0) (sa_cons (se_bin op_pow v_pow se_int se_int) sa_nil))) (se_var 2)) (se_callD [true, false] c__law_sip.up bd__law_sip G rfl x.glo__law_sip (sa_cons (se_var 0) (sa_cons se_int sa_nil)))) sa_nil)) (se_var 1)))))))
theorem bd__law_plan : BindD d__law_plan ["_law_flask_here", "_law_most_step"] := ⟨rfl, rfl, fun _ _ _ _ _ _ us hl => match us, hl with | [_, _], _ => rfl⟩
theorem sc__law_plan : FnScope ["_law_flask_here", "_law_most_step", "_law_grid", "_law_free"] ["_law_flask_here", "_law_most_step"] d__law_plan.scope := ⟨rfl, rfl, rfl, by decide +kernel, rfl, by decide +kernel, by decide +kernel⟩
theorem ok__law_plan (x : Fx K mg) (c__law_pick : FnB P w K mg base 2 d__law_pick ["_law_flask_here", "_law_menu"] 2 den__law_pick) (c__law_far : FnB P w K mg base 3 d__law_far ["_law_flask_here", "_law_most"] 2 den__law_far) (c__law_sip : FnB P w K mg base 1 d__law_sip ["_law_flask_here", "_law_top"] 2 den__law_sip) (D : ∃ fd, FunD K d__law_plan.name d__law_plan.qual d__law_plan.params d__law_plan.body d__law_plan.scope (d__law_plan.dvs K) (d__law_plan.kws K) (d__law_plan.at_ K) fd) : FnB P w K mg base 4 d__law_plan ["_law_flask_here", "_law_most_step"] 2 den__law_plan := by
  refine fnB_of (k := 3) D sc__law_plan rfl rfl fun cdv A outer s H E G => ?_
  unfold b__law_plan
  exact (sb_cons (ss_set 2 G (se_callD [true, false] c__law_pick.up bd__law_pick G rfl x.glo__law_pick (sa_cons (se_var 0) (sa_cons (se_lst (sa_cons se_int (sa_cons se_int (sa_cons se_int (sa_cons se_int (sa_cons (se_callD [true, false] c__law_far.up bd__law_far G rfl x.glo__law_far (sa_cons (se_var 0) (sa_cons (se_var 1) sa_nil))) sa_nil)))))) sa_nil)))) (sb_cons (ss_set 3 G (se_bin op_addA v_add (se_var 2) (se_callD [true, false] c__law_pick.up bd__law_pick G rfl x.glo__law_pick (sa_cons (se_var 0) (sa_cons (se_lst (sa_cons se_int (sa_cons se_int (sa_cons se_int (sa_cons se_int (sa_cons (se_callD [true, false] c__law_sip.up bd__law_sip G rfl x.glo__law_sip (sa_cons (se_var 0) (sa_cons (se_bin op_addA v_add (se_bin op_mulP v_mul se_int (se_callB (call_min2 G.calm) v_min2 rfl x.free_min (sa_cons (se_var 2) (sa_cons (se_bin op_pow v_pow se_int se_int) sa_nil)))) se_int) sa_nil))) sa_nil)))))) sa_nil))))) (sb_one (ss_ret (se_lst (sa_cons (se_var 2) (sa_cons (se_callD [true, false] c__law_pick.up bd__law_pick G rfl x.glo__law_pick (sa_cons (se_var 0) (sa_cons (se_lst (sa_cons se_str (sa_cons se_str (sa_cons se_str sa_nil)))) sa_nil))) (sa_cons (se_var 3) (sa_cons (se_callD [true, false] c__law_pick.up bd__law_pick G rfl x.glo__law_pick (sa_cons (se_var 0) (sa_cons (se_lst (sa_cons se_int (sa_cons se_int (sa_cons se_int (sa_cons se_int (sa_cons se_int sa_nil)))))) sa_nil))) sa_nil)))))))))
theorem bd__law_round : BindD d__law_round ["_law_one", "_law_two"] := ⟨rfl, rfl, fun _ _ _ _ _ _ us hl => match us, hl with | [_, _], _ => rfl⟩
theorem sc__law_round : FnScope ["_law_one", "_law_two", "_law_found"] ["_law_one", "_law_two"] d__law_round.scope := ⟨rfl, rfl, rfl, by decide +kernel, rfl, by decide +kernel, by decide +kernel⟩
theorem ok__law_round (x : Fx K mg)  (D : ∃ fd, FunD K d__law_round.name d__law_round.qual d__law_round.params d__law_round.body d__law_round.scope (d__law_round.dvs K) (d__law_round.kws K) (d__law_round.at_ K) fd) : FnB P w K mg base 1 d__law_round ["_law_one", "_law_two"] 2 den__law_round := by
  refine fnB_of (k := 0) D sc__law_round rfl rfl fun cdv A outer s H E G => ?_
  unfold b__law_round
  exact (sb_cons (ss_set 2 G (se_callB (call_max2 G.calm) v_max2 rfl x.free_max (sa_cons (se_ix (se_var 0) se_int) (sa_cons (se_ix (se_var 1) se_int) sa_nil)))) (sb_cons (ss_while mostTurns G (st_w (sw_or (st_cmp (op_neA G.room.units) v_ne b_ne (se_bin op_mod v_mod (se_callT call_int1 v_int rfl x.free_int (sa_cons (se_var 2) sa_nil)) (se_ix (se_var 0) se_int)) se_int) (sw_or1 (st_cmp (op_neA G.room.units) v_ne b_ne (se_bin op_mod v_mod (se_callT call_int1 v_int rfl x.free_int (sa_cons (se_var 2) sa_nil)) (se_ix (se_var 1) se_int)) se_int)))) (sb_one (ss_set 2 G (se_bin op_addA v_add (se_var 2) se_int)))) (sb_one (ss_ret (se_var 2)))))
theorem bd__law_made : BindD d__law_made ["_law_plan_here"] := ⟨rfl, rfl, fun _ _ _ _ _ _ us hl => match us, hl with | [_], _ => rfl⟩
theorem sc__law_made : FnScope ["_law_plan_here"] ["_law_plan_here"] d__law_made.scope := ⟨rfl, rfl, rfl, by decide +kernel, rfl, by decide +kernel, by decide +kernel⟩
theorem ok__law_made (x : Fx K mg) (c_Rule____init__ : FnB P w K mg base 4 d_Rule____init__ ["self", "step", "setting", "limit", "pause"] 5 den_Rule____init__) (D : ∃ fd, FunD K d__law_made.name d__law_made.qual d__law_made.params d__law_made.body d__law_made.scope (d__law_made.dvs K) (d__law_made.kws K) (d__law_made.at_ K) fd) : FnB P w K mg base 6 d__law_made ["_law_plan_here"] 1 den__law_made := by
  refine fnB_of (k := 5) D sc__law_made rfl rfl fun cdv A outer s H E G => ?_
  unfold b__law_made
  exact (sb_one (ss_ret (se_makeD (k := 4) (d := d_Rule____init__) [false, false, false, false] x.mkr_Rule c_Rule____init__.up bd_Rule____init__ G rfl x.glo_Rule (sa_cons (se_ix (se_var 0) se_int) (sa_cons (se_ix (se_var 0) se_int) (sa_cons (se_ix (se_var 0) se_int) (sa_cons (se_ix (se_var 0) se_int) sa_nil)))))))
theorem bd__law_mark : BindD d__law_mark ["_law_plan_here", "_law_a"] := ⟨rfl, rfl, fun _ _ _ _ _ _ us hl => match us, hl with | [_, _], _ => rfl⟩
theorem sc__law_mark : FnScope ["_law_plan_here", "_law_a", "_law_below"] ["_law_plan_here", "_law_a"] d__law_mark.scope := ⟨rfl, rfl, rfl, by decide +kernel, rfl, by decide +kernel, by decide +kernel⟩
theorem ok__law_mark (x : Fx K mg)  (D : ∃ fd, FunD K d__law_mark.name d__law_mark.qual d__law_mark.params d__law_mark.body d__law_mark.scope (d__law_mark.dvs K) (d__law_mark.kws K) (d__law_mark.at_ K) fd) : FnB P w K mg base 1 d__law_mark ["_law_plan_here", "_law_a"] 2 den__law_mark := by
  refine fnB_of (k := 0) D sc__law_mark rfl rfl fun cdv A outer s H E G => ?_
  unfold b__law_mark
  exact (sb_cons (ss_set 2 G (se_bin op_sub v_sub (se_var 1) (se_bin op_mod v_mod (se_callT call_int1 v_int rfl x.free_int (sa_cons (se_var 1) sa_nil)) (se_ix (se_var 0) se_int)))) (sb_cons (ss_if (st_w (sw_or (st_cmp (op_eqA G.room.units) v_eq b_eq (se_var 2) (se_var 1)) (sw_or1 (st_cmp (op_eqA G.room.units) v_eq b_eq (se_ix (se_var 0) se_int) se_str)))) (sb_one (ss_ret (se_var 2))) sb_nil) (sb_cons (ss_if (st_w (sw_or (st_cmp (op_eqA G.room.units) v_eq b_eq (se_ix (se_var 0) se_int) se_str) (sw_or1 (st_cmp op_ge v_ge b_I (se_bin op_mulP v_mul se_int (se_bin op_sub v_sub (se_var 1) (se_var 2))) (se_ix (se_var 0) se_int))))) (sb_one (ss_ret (se_bin op_addA v_add (se_var 2) (se_ix (se_var 0) se_int)))) sb_nil) (sb_one (ss_ret (se_var 2))))))
theorem bd__law_right_k07 : BindD d__law_right_k07 ["_law_flask_here"] := ⟨rfl, rfl, fun _ _ _ _ _ _ us hl => match us, hl with | [_], _ => rfl⟩
theorem sc__law_right_k07 : FnScope ["_law_flask_here", "_law_turn", "_law_row", "_law_by", "_law_one", "_law_two", "_law_mine", "_law_mate", "_law_whole", "_law_good", "_law_first", "_law_a"] ["_law_flask_here"] d__law_right_k07.scope := ⟨rfl, rfl, rfl, by decide +kernel, rfl, by decide +kernel, by decide +kernel⟩
theorem ok__law_right_k07 (x : Fx K mg) (c__law_plan : FnB P w K mg base 4 d__law_plan ["_law_flask_here", "_law_most_step"] 2 den__law_plan) (c__law_round : FnB P w K mg base 1 d__law_round ["_law_one", "_law_two"] 2 den__law_round) (c__law_made : FnB P w K mg base 6 d__law_made ["_law_plan_here"] 1 den__law_made) (c__law_mark : FnB P w K mg base 1 d__law_mark ["_law_plan_here", "_law_a"] 2 den__law_mark) (c_versus_k07 : FnB P w K mg base 5 d_versus_k07 ["one", "other"] 2 den_versus_k07) (c_never_less_k07 : FnB P w K mg base 6 d_never_less_k07 ["one", "other"] 2 den_never_less_k07) (c__law_pick : FnB P w K mg base 2 d__law_pick ["_law_flask_here", "_law_menu"] 2 den__law_pick) (c_how_many_k07 : FnB P w K mg base 4 d_how_many_k07 ["one", "other", "least"] 3 den_how_many_k07) (c_arrival_with_k07 : FnB P w K mg base 104 d_arrival_with_k07 ["one", "other", "least"] 3 den_arrival_with_k07) (D : ∃ fd, FunD K d__law_right_k07.name d__law_right_k07.qual d__law_right_k07.params d__law_right_k07.body d__law_right_k07.scope (d__law_right_k07.dvs K) (d__law_right_k07.kws K) (d__law_right_k07.at_ K) fd) : FnB P w K mg base 105 d__law_right_k07 ["_law_flask_here"] 1 den__law_right_k07 := by
  refine fnB_of (k := 104) D sc__law_right_k07 rfl rfl fun cdv A outer s H E G => ?_
  unfold b__law_right_k07
  exact (sb_cons (ss_for (ws := [1]) G (si_rng1 rfl x.free_range se_int) (sg_name 1 G.nd) (sb_cons (ss_asg (ws := [4, 5]) (se_tup (sa_cons (se_callD [true, false] c__law_plan.up bd__law_plan G rfl x.glo__law_plan (sa_cons (se_var 0) (sa_cons se_int sa_nil))) (sa_cons (se_callD [true, false] c__law_plan.up bd__law_plan G rfl x.glo__law_plan (sa_cons (se_var 0) (sa_cons se_int sa_nil))) sa_nil))) (sg_tup G.calm (sgs_cons (sg_name 4 G.nd) (sgs_cons (sg_name 5 G.nd) sgs_nil)))) (sb_cons (ss_par3 6 7 8 false G (sa_cons (se_callD [false] c__law_made.up bd__law_made G rfl x.glo__law_made (sa_cons (se_var 4) sa_nil)) (sa_cons (se_callD [false] c__law_made.up bd__law_made G rfl x.glo__law_made (sa_cons (se_var 5) sa_nil)) (sa_cons (se_callD [false, false] c__law_round.up bd__law_round G rfl x.glo__law_round (sa_cons (se_var 4) (sa_cons (se_var 5) sa_nil))) sa_nil)))) (sb_cons (ss_set 2 G (se_comp (own := [("_law_a", 11)]) G.calm G.nd (si_rng1 rfl x.free_range (se_var 8)) (blkOk_by (by first | (show blkC ["_law_flask_here", "_law_turn", "_law_row", "_law_by", "_law_one", "_law_two", "_law_mine", "_law_mate", "_law_whole", "_law_good", "_law_first", "_law_a"] d__law_right_k07.scope _ _ = true; decide +kernel) | kernel_rfl)) (fun _ _ _ _ _ => (sg_name 11 G.blk.nd)) (fun _ _ _ _ _ => sts_nil) (fun _ _ _ _ _ => (se_bin op_sub v_sub (se_bin op_sub v_sub (se_bin op_addA v_add (se_callD [false, false] c__law_mark.up bd__law_mark G.blk rfl x.glo__law_mark (sa_cons (se_var 4) (sa_cons (se_var 11) sa_nil))) (se_ix (se_var 4) se_int)) (se_callD [false, false] c__law_mark.up bd__law_mark G.blk rfl x.glo__law_mark (sa_cons (se_var 5) (sa_cons (se_var 11) sa_nil)))) (se_ix (se_var 5) se_int))))) (sb_cons (ss_if (st_cmp (op_neA G.room.units) v_ne b_ne (se_callB (c_repr G.room G.gd) v_repr rfl x.free_repr (sa_cons (se_lst (sa_cons (se_callD [false, false] c_versus_k07.up bd_versus_k07 G rfl x.glo_versus (sa_cons (se_var 6) (sa_cons (se_var 7) sa_nil))) (sa_cons (se_callDK0 [false, false] c_versus_k07.up (bk_versus_k07_0_other_one) G rfl x.glo_versus (sk_cons (se_var 7) (sk_cons (se_var 6) sk_nil))) sa_nil))) sa_nil)) (se_callB (c_repr G.room G.gd) v_repr rfl x.free_repr (sa_cons (se_rep (se_lst (sa_cons (se_tup (sa_cons (se_callB (cr_min G.calm) v_minL rfl x.free_min (sa_cons (se_var 2) sa_nil)) (sa_cons (se_callB (cr_max G.calm) v_maxL rfl x.free_max (sa_cons (se_var 2) sa_nil)) sa_nil))) sa_nil)) se_int) sa_nil))) (sb_one (ss_ret se_bl)) sb_nil) (sb_cons (ss_if (st_w (sw_or (st_cmp (op_neA G.room.units) v_ne b_ne (se_callD [false, false] c_versus_k07.up bd_versus_k07 G rfl x.glo_versus (sa_cons (se_var 7) (sa_cons (se_var 6) sa_nil))) (se_tup (sa_cons (se_neg (se_callB (cr_max G.calm) v_maxL rfl x.free_max (sa_cons (se_var 2) sa_nil))) (sa_cons (se_neg (se_callB (cr_min G.calm) v_minL rfl x.free_min (sa_cons (se_var 2) sa_nil))) sa_nil)))) (sw_or (st_cmp (op_neA G.room.units) v_ne b_ne (se_callD [false, false] c_never_less_k07.up bd_never_less_k07 G rfl x.glo_never_less (sa_cons (se_var 6) (sa_cons (se_var 7) sa_nil))) (se_cmp op_ge v_ge (se_callB (cr_min G.calm) v_minL rfl x.free_min (sa_cons (se_var 2) sa_nil)) se_int)) (sw_or1 (st_cmp (op_neA G.room.units) v_ne b_ne (se_callDK0 [false, false] c_never_less_k07.up (bk_never_less_k07_0_other_one) G rfl x.glo_never_less (sk_cons (se_var 6) (sk_cons (se_var 7) sk_nil))) (se_cmp op_le v_le (se_callB (cr_max G.calm) v_maxL rfl x.free_max (sa_cons (se_var 2) sa_nil)) se_int)))))) (sb_one (ss_ret se_bl)) sb_nil) (sb_one (ss_for (ws := [3]) G (si_seq (se_lst (sa_cons (se_callB (cr_min G.calm) v_minL rfl x.free_min (sa_cons (se_var 2) sa_nil)) (sa_cons (se_callB (cr_max G.calm) v_maxL rfl x.free_max (sa_cons (se_var 2) sa_nil)) (sa_cons (se_bin op_addA v_add (se_callB (cr_max G.calm) v_maxL rfl x.free_max (sa_cons (se_var 2) sa_nil)) se_int) (sa_cons se_int (sa_cons (se_callD [true, false] c__law_pick.up bd__law_pick G rfl x.glo__law_pick (sa_cons (se_var 0) (sa_cons (se_var 2) sa_nil))) (sa_cons (se_bin op_addA v_add (se_callD [true, false] c__law_pick.up bd__law_pick G rfl x.glo__law_pick (sa_cons (se_var 0) (sa_cons (se_var 2) sa_nil))) se_int) (sa_cons (se_bin op_sub v_sub (se_callB (cr_min G.calm) v_minL rfl x.free_min (sa_cons (se_var 2) sa_nil)) se_int) sa_nil))))))))) (sg_name 3 G.nd) (sb_cons (ss_comp (own := [("_law_a", 11)]) 9 G (si_rng1 rfl x.free_range (se_var 8)) (blkOk_by (by first | (show blkC ["_law_flask_here", "_law_turn", "_law_row", "_law_by", "_law_one", "_law_two", "_law_mine", "_law_mate", "_law_whole", "_law_good", "_law_first", "_law_a"] d__law_right_k07.scope _ _ = true; decide +kernel) | kernel_rfl)) (fun _ _ _ _ _ => (sg_name 11 G.blk.nd)) (fun _ _ _ _ _ => (sts_one (st_cmp op_ge v_ge b_I (se_ix (se_var 2) (se_var 11)) (se_var 3)))) (fun _ _ _ _ _ => (se_var 11)) (by first | rfl | decide +kernel)) (sb_cons (ss_if (st_cmp (op_neA G.room.units) v_ne b_ne (se_callB (c_repr G.room G.gd) v_repr rfl x.free_repr (sa_cons (se_lst (sa_cons (se_callD [false, false, false] c_how_many_k07.up bd_how_many_k07 G rfl x.glo_how_many (sa_cons (se_var 6) (sa_cons (se_var 7) (sa_cons (se_var 3) sa_nil)))) (sa_cons (se_callDK0 [false, false, false] c_how_many_k07.up (bk_how_many_k07_0_least_other_one) G rfl x.glo_how_many (sk_cons (se_var 3) (sk_cons (se_var 7) (sk_cons (se_var 6) sk_nil)))) sa_nil))) sa_nil)) (se_callB (c_repr G.room G.gd) v_repr rfl x.free_repr (sa_cons (se_rep (se_lst (sa_cons (se_tup (sa_cons (se_callB c_len v_len rfl x.free_len (sa_cons (se_var 9) sa_nil)) (sa_cons (se_var 8) sa_nil))) sa_nil)) se_int) sa_nil))) (sb_one (ss_ret se_bl)) sb_nil) (sb_cons (ss_set 10 G (se_ifE (st_cmp (op_neA G.room.units) v_ne b_ne (se_var 9) (se_lst sa_nil)) (se_ix (se_var 9) se_int) se_non)) (sb_one (ss_if (st_cmp (op_neA G.room.units) v_ne b_ne (se_callB (c_repr G.room G.gd) v_repr rfl x.free_repr (sa_cons (se_lst (sa_cons (se_callD [false, false, false] c_arrival_with_k07.up bd_arrival_with_k07 G rfl x.glo_arrival_with (sa_cons (se_var 6) (sa_cons (se_var 7) (sa_cons (se_var 3) sa_nil)))) (sa_cons (se_callDK0 [false, false, false] c_arrival_with_k07.up (bk_arrival_with_k07_0_least_other_one) G rfl x.glo_arrival_with (sk_cons (se_var 3) (sk_cons (se_var 7) (sk_cons (se_var 6) sk_nil)))) sa_nil))) sa_nil)) (se_callB (c_repr G.room G.gd) v_repr rfl x.free_repr (sa_cons (se_lst (sa_cons (se_var 10) (sa_cons (se_var 10) sa_nil))) sa_nil))) (sb_one (ss_ret se_bl)) sb_nil))))))))))))) (sb_one (ss_ret se_bl)))
theorem bd__law_flask : BindD d__law_flask ["_law_script", "_law_turn"] := ⟨rfl, rfl, fun _ _ _ _ _ _ us hl => match us, hl with | [_, _], _ => rfl⟩
theorem sc__law_flask : FnScope ["_law_script", "_law_turn", "_law_entry", "_law_stirred", "_law_each"] ["_law_script", "_law_turn"] d__law_flask.scope := ⟨rfl, rfl, rfl, by decide +kernel, rfl, by decide +kernel, by decide +kernel⟩
theorem ok__law_flask (x : Fx K mg)  (D : ∃ fd, FunD K d__law_flask.name d__law_flask.qual d__law_flask.params d__law_flask.body d__law_flask.scope (d__law_flask.dvs K) (d__law_flask.kws K) (d__law_flask.at_ K) fd) : FnB P w K mg base 1 d__law_flask ["_law_script", "_law_turn"] 2 den__law_flask := by
  refine fnB_of (k := 0) D sc__law_flask rfl rfl fun cdv A outer s H E G => ?_
  unfold b__law_flask
  exact (sb_cons (ss_set 2 G (se_ifE (st_cmp op_lt v_lt b_I (se_var 1) (se_callB c_len v_len rfl x.free_len (sa_cons (se_var 0) sa_nil))) (se_callT call_int1 v_int rfl x.free_int (sa_cons (se_ix (se_var 0) (se_var 1)) sa_nil)) (se_bin op_addA v_add (se_bin op_mulP v_mul se_int (se_var 1)) se_int))) (sb_cons (ss_set 3 G (se_bin op_addA v_add se_int (se_bin op_mulP v_mul se_int (se_var 1)))) (sb_cons (ss_for (ws := [4]) G (si_seq (se_slice (se_var 0) so_none (so_some se_int))) (sg_name 4 G.nd) (sb_one (ss_set 3 G (se_bin op_mod v_mod (se_callT call_int1 v_int rfl x.free_int (sa_cons (se_bin op_addA v_add (se_bin op_addA v_add (se_bin op_mulP v_mul (se_var 3) se_int) (se_bin op_mod v_mod (se_callT call_int1 v_int rfl x.free_int (sa_cons (se_var 4) sa_nil)) se_int)) (se_var 1)) sa_nil)) se_int)))) (sb_cons (ss_set 3 G (se_bin op_mod v_mod (se_callT call_int1 v_int rfl x.free_int (sa_cons (se_bin op_addA v_add (se_bin op_mulP v_mul (se_var 3) se_int) (se_bin op_mod v_mod (se_callT call_int1 v_int rfl x.free_int (sa_cons (se_var 2) sa_nil)) se_int)) sa_nil)) se_int)) (sb_one (ss_ret (se_lst (sa_cons (se_ifE (st_cmp op_ge v_ge b_I (se_callB call_abs v_abs rfl x.free_abs (sa_cons (se_var 2) sa_nil)) (se_bin op_pow v_pow se_int se_int)) (se_callB call_abs v_abs rfl x.free_abs (sa_cons (se_var 2) sa_nil)) se_int) (sa_cons (se_var 3) (sa_cons se_int sa_nil))))))))))
theorem bd_law_k07 : BindD d_law_k07 ["_law_script"] := ⟨rfl, rfl, fun _ _ _ _ _ _ us hl => match us, hl with | [_], _ => rfl⟩
theorem sc_law_k07 : FnScope ["_law_script", "_law_blue", "_law_old", "_law_near", "_law_turn"] ["_law_script"] d_law_k07.scope := ⟨rfl, rfl, rfl, by decide +kernel, rfl, by decide +kernel, by decide +kernel⟩
theorem ok_law_k07 (x : Fx K mg) (c_Rule____init__ : FnB P w K mg base 4 d_Rule____init__ ["self", "step", "setting", "limit", "pause"] 5 den_Rule____init__) (c_how_many_k07 : FnB P w K mg base 4 d_how_many_k07 ["one", "other", "least"] 3 den_how_many_k07) (c_arrival_with_k07 : FnB P w K mg base 104 d_arrival_with_k07 ["one", "other", "least"] 3 den_arrival_with_k07) (c_never_less_k07 : FnB P w K mg base 6 d_never_less_k07 ["one", "other"] 2 den_never_less_k07) (c_versus_k07 : FnB P w K mg base 5 d_versus_k07 ["one", "other"] 2 den_versus_k07) (c__law_right_k07 : FnB P w K mg base 105 d__law_right_k07 ["_law_flask_here"] 1 den__law_right_k07) (c__law_flask : FnB P w K mg base 1 d__law_flask ["_law_script", "_law_turn"] 2 den__law_flask) (D : ∃ fd, FunD K d_law_k07.name d_law_k07.qual d_law_k07.params d_law_k07.body d_law_k07.scope (d_law_k07.dvs K) (d_law_k07.kws K) (d_law_k07.at_ K) fd) : FnB P w K mg base 106 d_law_k07 ["_law_script"] 1 den_law_k07 := by
  refine fnB_of (k := 105) D sc_law_k07 rfl rfl fun cdv A outer s H E G => ?_
  unfold b_law_k07
  exact (sb_cons (ss_par3 1 2 3 false G (sa_cons (se_makeD (k := 104) (d := d_Rule____init__) [false, false, false, false] x.mkr_Rule c_Rule____init__.up bd_Rule____init__ G rfl x.glo_Rule (sa_cons se_int (sa_cons se_str (sa_cons se_int (sa_cons se_int sa_nil))))) (sa_cons (se_makeD (k := 104) (d := d_Rule____init__) [false, false, false, false] x.mkr_Rule c_Rule____init__.up bd_Rule____init__ G rfl x.glo_Rule (sa_cons se_int (sa_cons se_str (sa_cons se_int (sa_cons se_int sa_nil))))) (sa_cons (se_makeD (k := 104) (d := d_Rule____init__) [false, false, false, false] x.mkr_Rule c_Rule____init__.up bd_Rule____init__ G rfl x.glo_Rule (sa_cons se_int (sa_cons se_str (sa_cons se_int (sa_cons se_int sa_nil))))) sa_nil)))) (sb_cons (ss_if (st_cmp (op_neA G.room.units) v_ne b_ne (se_lst (sa_cons (se_callD [false, false] c_versus_k07.up bd_versus_k07 G rfl x.glo_versus (sa_cons (se_var 1) (sa_cons (se_var 2) sa_nil))) (sa_cons (se_callD [false, false] c_never_less_k07.up bd_never_less_k07 G rfl x.glo_never_less (sa_cons (se_var 1) (sa_cons (se_var 3) sa_nil))) (sa_cons (se_callD [false, false, false] c_how_many_k07.up bd_how_many_k07 G rfl x.glo_how_many (sa_cons (se_var 1) (sa_cons (se_var 2) (sa_cons se_int sa_nil)))) (sa_cons (se_callD [false, false, false] c_arrival_with_k07.up bd_arrival_with_k07 G rfl x.glo_arrival_with (sa_cons (se_var 1) (sa_cons (se_var 2) (sa_cons se_int sa_nil)))) (sa_cons (se_callD [false, false, false] c_how_many_k07.up bd_how_many_k07 G rfl x.glo_how_many (sa_cons (se_var 1) (sa_cons (se_var 3) (sa_cons se_int sa_nil)))) sa_nil)))))) (se_lst (sa_cons (se_tup (sa_cons (se_neg se_int) (sa_cons se_int sa_nil))) (sa_cons se_bl (sa_cons (se_tup (sa_cons se_int (sa_cons se_int sa_nil))) (sa_cons se_int (sa_cons (se_tup (sa_cons se_int (sa_cons se_int sa_nil))) sa_nil))))))) (sb_one (ss_ret se_bl)) sb_nil) (sb_one (ss_ret (se_callB (cr_all G.calm) v_all rfl x.free_all (sa_cons (se_comp (own := [("_law_turn", 4)]) G.calm G.nd (si_rng1 rfl x.free_range (se_callB (call_max2 G.calm) v_max2 rfl x.free_max (sa_cons se_int (sa_cons (se_callB (call_min2 G.calm) v_min2 rfl x.free_min (sa_cons (se_callB c_len v_len rfl x.free_len (sa_cons (se_var 0) sa_nil)) (sa_cons se_int sa_nil))) sa_nil)))) (blkOk_by (by first | (show blkC ["_law_script", "_law_blue", "_law_old", "_law_near", "_law_turn"] d_law_k07.scope _ _ = true; decide +kernel) | kernel_rfl)) (fun _ _ _ _ _ => (sg_name 4 G.blk.nd)) (fun _ _ _ _ _ => sts_nil) (fun _ _ _ _ _ => (se_callD [true] c__law_right_k07.up bd__law_right_k07 G.blk rfl x.glo__law_right (sa_cons (se_callD [false, false] c__law_flask.up bd__law_flask G.blk rfl x.glo__law_flask (sa_cons (se_var 0) (sa_cons (se_var 4) sa_nil))) sa_nil)))) sa_nil))))))
theorem all_ok {h : Heap} (X : K.In h) (Gm : h.Ns mainGlobals mg) (c : SaysP fa fn fy K) (tone : TabOne K) (tb : TabsB K mg base) : FnB P w K mg base 106 d_law_k07 ["_law_script"] 1 den_law_k07 := by
  have x := fx_of X Gm c
  have c_is_integer := ok_is_integer (P := P) (w := w) (base := base) x  (c.a.def_ 0 (d := d_is_integer) rfl)
  have c_is_between := ok_is_between (P := P) (w := w) (base := base) x c_is_integer (c.a.def_ 1 (d := d_is_between) rfl)
  have c_check_number := ok_check_number (P := P) (w := w) (base := base) x c_is_between (c.a.def_ 2 (d := d_check_number) rfl)
  have c_Rule____init__ := ok_Rule____init__ (P := P) (w := w) (base := base) x c_check_number (c.a.def_ 3 (d := d_Rule____init__) rfl)
  have c_check_rule := ok_check_rule (P := P) (w := w) (base := base) x  (c.a.def_ 4 (d := d_check_rule) rfl)
  have c_check_both_k07 := ok_check_both_k07 (P := P) (w := w) (base := base) x c_check_rule (c.a.def_ 5 (d := d_check_both_k07) rfl)
  have c_common := ok_common (P := P) (w := w) (base := base) x  (c.a.def_ 6 (d := d_common) rfl)
  have c_Rule__step := ok_Rule__step (P := P) (w := w) (base := base) x  (c.a.def_ 7 (d := d_Rule__step) rfl)
  have c_Rule__setting := ok_Rule__setting (P := P) (w := w) (base := base) x  (c.a.def_ 8 (d := d_Rule__setting) rfl)
  have c_reach := ok_reach (P := P) (w := w) (base := base) x c_Rule__setting c_Rule__step (c.a.def_ 9 (d := d_reach) rfl)
  have c_up := ok_up (P := P) (w := w) (base := base) x  (c.a.def_ 10 (d := d_up) rfl)
  have c_sum_of := ok_sum_of (P := P) (w := w) (base := base) x c_up (c.a.def_ 11 (d := d_sum_of) rfl)
  have c_how_many_k07 := ok_how_many_k07 (P := P) (w := w) (base := base) x c_check_both_k07 c_check_number c_common c_Rule__step c_reach c_sum_of (c.a.def_ 12 (d := d_how_many_k07) rfl)
  have c_mark_at := ok_mark_at (P := P) (w := w) (base := base) x c_reach c_Rule__step (c.a.def_ 13 (d := d_mark_at) rfl)
  have c_first_in := ok_first_in (P := P) (w := w) (base := base) x c_up (c.a.def_ 14 (d := d_first_in) rfl)
  have c_first_rest := ok_first_rest (P := P) (w := w) (base := base) x c_first_in (c.a.def_ 15 (d := d_first_rest) rfl)
  have c_arrival_with_k07 := ok_arrival_with_k07 (P := P) (w := w) (base := base) x c_check_both_k07 c_check_number c_reach c_mark_at c_Rule__step c_first_rest (c.a.def_ 16 (d := d_arrival_with_k07) rfl)
  have c_bounds_of := ok_bounds_of (P := P) (w := w) (base := base) x c_common c_Rule__step c_reach c_up (c.a.def_ 17 (d := d_bounds_of) rfl)
  have c_versus_k07 := ok_versus_k07 (P := P) (w := w) (base := base) x c_check_both_k07 c_bounds_of (c.a.def_ 18 (d := d_versus_k07) rfl)
  have c_never_less_k07 := ok_never_less_k07 (P := P) (w := w) (base := base) x c_versus_k07 (c.a.def_ 19 (d := d_never_less_k07) rfl)
  have c__law_sip := ok__law_sip (P := P) (w := w) (base := base) x  (c.a.def_ 20 (d := d__law_sip) rfl)
  have c__law_pick := ok__law_pick (P := P) (w := w) (base := base) x c__law_sip (c.a.def_ 21 (d := d__law_pick) rfl)
  have c__law_far := ok__law_far (P := P) (w := w) (base := base) x c__law_sip c__law_pick (c.a.def_ 22 (d := d__law_far) rfl)
  have c__law_plan := ok__law_plan (P := P) (w := w) (base := base) x c__law_pick c__law_far c__law_sip (c.a.def_ 23 (d := d__law_plan) rfl)
  have c__law_round := ok__law_round (P := P) (w := w) (base := base) x  (c.a.def_ 24 (d := d__law_round) rfl)
  have c__law_made := ok__law_made (P := P) (w := w) (base := base) x c_Rule____init__ (c.a.def_ 25 (d := d__law_made) rfl)
  have c__law_mark := ok__law_mark (P := P) (w := w) (base := base) x  (c.a.def_ 26 (d := d__law_mark) rfl)
  have c__law_right_k07 := ok__law_right_k07 (P := P) (w := w) (base := base) x c__law_plan c__law_round c__law_made c__law_mark c_versus_k07 c_never_less_k07 c__law_pick c_how_many_k07 c_arrival_with_k07 (c.a.def_ 27 (d := d__law_right_k07) rfl)
  have c__law_flask := ok__law_flask (P := P) (w := w) (base := base) x  (c.a.def_ 28 (d := d__law_flask) rfl)
  have c_law_k07 := ok_law_k07 (P := P) (w := w) (base := base) x c_Rule____init__ c_how_many_k07 c_arrival_with_k07 c_never_less_k07 c_versus_k07 c__law_right_k07 c__law_flask (c.a.def_ 29 (d := d_law_k07) rfl)
  exact c_law_k07
end
def fnLaw : Nat := 29
theorem law_at {K : PySem.W.Frag} {h : Heap} {mg : Str → Option Value} (X : K.In h) (G : h.Ns mainGlobals mg) (c : SaysP fa fn fy K) : mg "law" = some (.ref (He.ga K "law")) := (fx_of X G c).glo_law
end Pu.Q
local macro_rules
  | `(tactic| simp_arith [$xs,*]) => `(tactic| simp (disch := first | omega | rfl) only [↓Pu.ok_d1, ↓Pu.ok_d2, ↓Pu.ok_d3, ↓Pu.ok_d4, ↓Pu.ok_d5, ↓Pu.ok_d6, ↓Pu.ok_d7, ↓Pu.ok_bind, ↓Pu.ok_ret, ↓Pu.ok_bad, ↓Pu.ok_mV, ↓Pu.ok_rdD, ↓Pu.ok_rdT, ↓Pu.ok_dtD, ↓Pu.ok_dtT, ↓Pu.ok_rds0, ↓Pu.ok_rdsC, ↓Pu.ok_dts0, ↓Pu.ok_dtsC, ↓Pu.ok_nil, ↓Pu.ok_cons, ↓Pu.ok_bin, ↓Pu.ok_cb, ↓Pu.ok_tup, ↓Pu.ok_lst, ↓Pu.ok_tru, ↓Pu.ok_truB, ↓Pu.ok_truI, ↓Pu.ok_truN, ↓Pu.ok_truL, ↓Pu.ok_truT, ↓Pu.ok_and, ↓Pu.ok_or, ↓Pu.ok_not, ↓Pu.ok_ifE, ↓Pu.ok_andV, ↓Pu.ok_orV, ↓Pu.ok_notV, ↓Pu.ok_neg, ↓Pu.ok_chain, ↓Pu.ok_seq, ↓Pu.ok_skip, ↓Pu.ok_retS, ↓Pu.ok_retN, ↓Pu.ok_bk, ↓Pu.ok_ct, ↓Pu.ok_ex1, ↓Pu.ok_if, ↓Pu.ok_set, ↓Pu.ok_setP, ↓Pu.ok_asg, ↓Pu.ok_gN, ↓Pu.ok_gsN, ↓Pu.ok_gsC, ↓Pu.ok_gT, ↓Pu.ok_gTL, ↓Pu.ok_gSb, ↓Pu.ok_par, ↓Pu.ok_put, ↓Pu.ok_get, ↓Pu.ok_run, ↓Pu.ok_call, ↓Pu.ok_callK, ↓Pu.ok_callKD, ↓Pu.ok_make, ↓Pu.ok_prop, ↓Pu.ok_for, ↓Pu.ok_items, ↓Pu.ok_rng1, ↓Pu.ok_rng2, ↓Pu.ok_comp, ↓Pu.ok_yes, ↓Pu.ok_compS0, ↓Pu.ok_compSC, Pu.wipeE, ↓Pu.ok_sl, ↓Pu.ok_noP, ↓Pu.ok_pt, ↓Pu.ok_slL, ↓Pu.ok_slT, ↓Pu.ok_rep, ↓Pu.ok_app, ↓Pu.ok_oSub, ↓Pu.ok_oMul, ↓Pu.ok_oDiv, ↓Pu.ok_oMod, ↓Pu.ok_oPow, ↓Pu.ok_oLt, ↓Pu.ok_oLe, ↓Pu.ok_oGt, ↓Pu.ok_oGe, ↓Pu.ok_oAdd, ↓Pu.ok_oAddL, ↓Pu.ok_oAddT, ↓Pu.ok_oAddI, ↓Pu.ok_oEqI, ↓Pu.ok_oEqL, ↓Pu.ok_oEqT, ↓Pu.ok_oEqB, ↓Pu.ok_oEqN, ↓Pu.ok_oEqS, ↓Pu.ok_oNeI, ↓Pu.ok_oNeL, ↓Pu.ok_oNeT, ↓Pu.ok_oNeB, ↓Pu.ok_oNeN, ↓Pu.ok_oNeS, ↓Pu.ok_oIs, ↓Pu.ok_oIsN, ↓Pu.ix_0, ↓Pu.ix_1, ↓Pu.ix_2, ↓Pu.ix_3, ↓Pu.ix_4, ↓Pu.it_0, ↓Pu.it_1, ↓Pu.it_2, ↓Pu.it_3, Pu.ixn_0, Pu.ixn_1, Pu.ixn_2, ↓Pu.ok_len, ↓Pu.ok_lenT, ↓Pu.ok_absI, ↓Pu.ok_intI, ↓Pu.ok_max2, ↓Pu.ok_min2, ↓Pu.ok_max3, ↓Pu.ok_min3, ↓Pu.ok_dm, ↓Pu.ok_repr, Pu.argsE, Pu.backE, Pu.outE, Pu.M.dt, List.getElem?_cons_zero, List.getElem?_cons_succ, List.set_cons_zero, List.set_cons_succ, List.take_succ_cons, List.take_zero, List.replicate_zero, List.replicate_succ, List.append_nil, List.nil_append, List.cons_append, List.length_cons, List.length_nil, Nat.sub_self, Nat.reduceSub, Nat.reduceAdd, Nat.reduceLeDiff, decide_true, decide_false, reduceCtorEq, Pu.noBor, Pu.setsE, Pu.slotOf, Pu.setsS, Pu.putFs, Pu.putVs, Pu.lookV, Pu.sel, Pu.isNon, Bool.not_true, Bool.not_false, Bool.not_eq_true, decide_eq_true_eq, decide_eq_false_iff_not, Bool.true_eq_false, Bool.false_eq_true, false_implies, true_implies, and_true, true_and, not_true_eq_false, not_false_eq_true, and_self, implies_true, or_false, false_or, List.flatten_cons, List.flatten_nil, true_or, or_true, Int.sub_zero, eq_self, Pu.veq_int, Pu.veq_str, Pu.cMod, Pu.cDiv, Pu.cPow, Pu.cMul_r, Pu.cMul_l, Pu.strq, String.reduceEq, Pu.sz, Pu.szl, Pu.dOk_int, Pu.dOk_bl, Pu.dOk_non, if_true, if_false, Int.reducePow, Int.reduceToNat, Int.reduceMul, Int.reduceAdd, Int.reduceSub, Int.reduceNeg, Int.reduceLT, Int.reduceLE, Int.reduceGT, Int.reduceEq, gt_iff_lt, ge_iff_le, Nat.reducePow, Nat.reduceMul, Nat.reduceLT, Int.cast_ofNat_Int, false_and, and_false, Bool.and_true, Bool.true_and, Bool.and_false, Bool.false_and, Bool.or_true, Bool.true_or, Bool.or_false, Bool.false_or, ↓Pu.vD_0, ↓Pu.vO_0, ↓Pu.rD_0, ↓Pu.rO_0, ↓Pu.kD_0, ↓Pu.kO_0, ↓Pu.vD_1, ↓Pu.vO_1, ↓Pu.rD_1, ↓Pu.rO_1, ↓Pu.kD_1, ↓Pu.kO_1, ↓Pu.vD_2, ↓Pu.vO_2, ↓Pu.rD_2, ↓Pu.rO_2, ↓Pu.kD_2, ↓Pu.kO_2, ↓Pu.vD_3, ↓Pu.vO_3, ↓Pu.rD_3, ↓Pu.rO_3, ↓Pu.kD_3, ↓Pu.kO_3, ↓Pu.vD_4, ↓Pu.vO_4, ↓Pu.rD_4, ↓Pu.rO_4, ↓Pu.kD_4, ↓Pu.kO_4, ↓Pu.vD_5, ↓Pu.vO_5, ↓Pu.rD_5, ↓Pu.rO_5, ↓Pu.kD_5, ↓Pu.kO_5, ↓Pu.vD_6, ↓Pu.vO_6, ↓Pu.rD_6, ↓Pu.rO_6, ↓Pu.kD_6, ↓Pu.kO_6, ↓Pu.vD_7, ↓Pu.vO_7, ↓Pu.rD_7, ↓Pu.rO_7, ↓Pu.kD_7, ↓Pu.kO_7, ↓Pu.vD_8, ↓Pu.vO_8, ↓Pu.rD_8, ↓Pu.rO_8, ↓Pu.kD_8, ↓Pu.kO_8, ↓Pu.vD_9, ↓Pu.vO_9, ↓Pu.rD_9, ↓Pu.rO_9, ↓Pu.kD_9, ↓Pu.kO_9, ↓Pu.vD_10, ↓Pu.vO_10, ↓Pu.rD_10, ↓Pu.rO_10, ↓Pu.kD_10, ↓Pu.kO_10, ↓Pu.vD_11, ↓Pu.vO_11, ↓Pu.rD_11, ↓Pu.rO_11, ↓Pu.kD_11, ↓Pu.kO_11, ↓Pu.vD_12, ↓Pu.vO_12, ↓Pu.rD_12, ↓Pu.rO_12, ↓Pu.kD_12, ↓Pu.kO_12, ↓Pu.vD_13, ↓Pu.vO_13, ↓Pu.rD_13, ↓Pu.rO_13, ↓Pu.kD_13, ↓Pu.kO_13, ↓Pu.vD_14, ↓Pu.vO_14, ↓Pu.rD_14, ↓Pu.rO_14, ↓Pu.kD_14, ↓Pu.kO_14, ↓Pu.vD_15, ↓Pu.vO_15, ↓Pu.rD_15, ↓Pu.rO_15, ↓Pu.kD_15, ↓Pu.kO_15, $xs,*])
  | `(tactic| simp_arith) => `(tactic| simp (disch := first | omega | rfl) only [↓Pu.ok_d1, ↓Pu.ok_d2, ↓Pu.ok_d3, ↓Pu.ok_d4, ↓Pu.ok_d5, ↓Pu.ok_d6, ↓Pu.ok_d7, ↓Pu.ok_bind, ↓Pu.ok_ret, ↓Pu.ok_bad, ↓Pu.ok_mV, ↓Pu.ok_rdD, ↓Pu.ok_rdT, ↓Pu.ok_dtD, ↓Pu.ok_dtT, ↓Pu.ok_rds0, ↓Pu.ok_rdsC, ↓Pu.ok_dts0, ↓Pu.ok_dtsC, ↓Pu.ok_nil, ↓Pu.ok_cons, ↓Pu.ok_bin, ↓Pu.ok_cb, ↓Pu.ok_tup, ↓Pu.ok_lst, ↓Pu.ok_tru, ↓Pu.ok_truB, ↓Pu.ok_truI, ↓Pu.ok_truN, ↓Pu.ok_truL, ↓Pu.ok_truT, ↓Pu.ok_and, ↓Pu.ok_or, ↓Pu.ok_not, ↓Pu.ok_ifE, ↓Pu.ok_andV, ↓Pu.ok_orV, ↓Pu.ok_notV, ↓Pu.ok_neg, ↓Pu.ok_chain, ↓Pu.ok_seq, ↓Pu.ok_skip, ↓Pu.ok_retS, ↓Pu.ok_retN, ↓Pu.ok_bk, ↓Pu.ok_ct, ↓Pu.ok_ex1, ↓Pu.ok_if, ↓Pu.ok_set, ↓Pu.ok_setP, ↓Pu.ok_asg, ↓Pu.ok_gN, ↓Pu.ok_gsN, ↓Pu.ok_gsC, ↓Pu.ok_gT, ↓Pu.ok_gTL, ↓Pu.ok_gSb, ↓Pu.ok_par, ↓Pu.ok_put, ↓Pu.ok_get, ↓Pu.ok_run, ↓Pu.ok_call, ↓Pu.ok_callK, ↓Pu.ok_callKD, ↓Pu.ok_make, ↓Pu.ok_prop, ↓Pu.ok_for, ↓Pu.ok_items, ↓Pu.ok_rng1, ↓Pu.ok_rng2, ↓Pu.ok_comp, ↓Pu.ok_yes, ↓Pu.ok_compS0, ↓Pu.ok_compSC, Pu.wipeE, ↓Pu.ok_sl, ↓Pu.ok_noP, ↓Pu.ok_pt, ↓Pu.ok_slL, ↓Pu.ok_slT, ↓Pu.ok_rep, ↓Pu.ok_app, ↓Pu.ok_oSub, ↓Pu.ok_oMul, ↓Pu.ok_oDiv, ↓Pu.ok_oMod, ↓Pu.ok_oPow, ↓Pu.ok_oLt, ↓Pu.ok_oLe, ↓Pu.ok_oGt, ↓Pu.ok_oGe, ↓Pu.ok_oAdd, ↓Pu.ok_oAddL, ↓Pu.ok_oAddT, ↓Pu.ok_oAddI, ↓Pu.ok_oEqI, ↓Pu.ok_oEqL, ↓Pu.ok_oEqT, ↓Pu.ok_oEqB, ↓Pu.ok_oEqN, ↓Pu.ok_oEqS, ↓Pu.ok_oNeI, ↓Pu.ok_oNeL, ↓Pu.ok_oNeT, ↓Pu.ok_oNeB, ↓Pu.ok_oNeN, ↓Pu.ok_oNeS, ↓Pu.ok_oIs, ↓Pu.ok_oIsN, ↓Pu.ix_0, ↓Pu.ix_1, ↓Pu.ix_2, ↓Pu.ix_3, ↓Pu.ix_4, ↓Pu.it_0, ↓Pu.it_1, ↓Pu.it_2, ↓Pu.it_3, Pu.ixn_0, Pu.ixn_1, Pu.ixn_2, ↓Pu.ok_len, ↓Pu.ok_lenT, ↓Pu.ok_absI, ↓Pu.ok_intI, ↓Pu.ok_max2, ↓Pu.ok_min2, ↓Pu.ok_max3, ↓Pu.ok_min3, ↓Pu.ok_dm, ↓Pu.ok_repr, Pu.argsE, Pu.backE, Pu.outE, Pu.M.dt, List.getElem?_cons_zero, List.getElem?_cons_succ, List.set_cons_zero, List.set_cons_succ, List.take_succ_cons, List.take_zero, List.replicate_zero, List.replicate_succ, List.append_nil, List.nil_append, List.cons_append, List.length_cons, List.length_nil, Nat.sub_self, Nat.reduceSub, Nat.reduceAdd, Nat.reduceLeDiff, decide_true, decide_false, reduceCtorEq, Pu.noBor, Pu.setsE, Pu.slotOf, Pu.setsS, Pu.putFs, Pu.putVs, Pu.lookV, Pu.sel, Pu.isNon, Bool.not_true, Bool.not_false, Bool.not_eq_true, decide_eq_true_eq, decide_eq_false_iff_not, Bool.true_eq_false, Bool.false_eq_true, false_implies, true_implies, and_true, true_and, not_true_eq_false, not_false_eq_true, and_self, implies_true, or_false, false_or, List.flatten_cons, List.flatten_nil, true_or, or_true, Int.sub_zero, eq_self, Pu.veq_int, Pu.veq_str, Pu.cMod, Pu.cDiv, Pu.cPow, Pu.cMul_r, Pu.cMul_l, Pu.strq, String.reduceEq, Pu.sz, Pu.szl, Pu.dOk_int, Pu.dOk_bl, Pu.dOk_non, if_true, if_false, Int.reducePow, Int.reduceToNat, Int.reduceMul, Int.reduceAdd, Int.reduceSub, Int.reduceNeg, Int.reduceLT, Int.reduceLE, Int.reduceGT, Int.reduceEq, gt_iff_lt, ge_iff_le, Nat.reducePow, Nat.reduceMul, Nat.reduceLT, Int.cast_ofNat_Int, false_and, and_false, Bool.and_true, Bool.true_and, Bool.and_false, Bool.false_and, Bool.or_true, Bool.true_or, Bool.or_false, Bool.false_or, ↓Pu.vD_0, ↓Pu.vO_0, ↓Pu.rD_0, ↓Pu.rO_0, ↓Pu.kD_0, ↓Pu.kO_0, ↓Pu.vD_1, ↓Pu.vO_1, ↓Pu.rD_1, ↓Pu.rO_1, ↓Pu.kD_1, ↓Pu.kO_1, ↓Pu.vD_2, ↓Pu.vO_2, ↓Pu.rD_2, ↓Pu.rO_2, ↓Pu.kD_2, ↓Pu.kO_2, ↓Pu.vD_3, ↓Pu.vO_3, ↓Pu.rD_3, ↓Pu.rO_3, ↓Pu.kD_3, ↓Pu.kO_3, ↓Pu.vD_4, ↓Pu.vO_4, ↓Pu.rD_4, ↓Pu.rO_4, ↓Pu.kD_4, ↓Pu.kO_4, ↓Pu.vD_5, ↓Pu.vO_5, ↓Pu.rD_5, ↓Pu.rO_5, ↓Pu.kD_5, ↓Pu.kO_5, ↓Pu.vD_6, ↓Pu.vO_6, ↓Pu.rD_6, ↓Pu.rO_6, ↓Pu.kD_6, ↓Pu.kO_6, ↓Pu.vD_7, ↓Pu.vO_7, ↓Pu.rD_7, ↓Pu.rO_7, ↓Pu.kD_7, ↓Pu.kO_7, ↓Pu.vD_8, ↓Pu.vO_8, ↓Pu.rD_8, ↓Pu.rO_8, ↓Pu.kD_8, ↓Pu.kO_8, ↓Pu.vD_9, ↓Pu.vO_9, ↓Pu.rD_9, ↓Pu.rO_9, ↓Pu.kD_9, ↓Pu.kO_9, ↓Pu.vD_10, ↓Pu.vO_10, ↓Pu.rD_10, ↓Pu.rO_10, ↓Pu.kD_10, ↓Pu.kO_10, ↓Pu.vD_11, ↓Pu.vO_11, ↓Pu.rD_11, ↓Pu.rO_11, ↓Pu.kD_11, ↓Pu.kO_11, ↓Pu.vD_12, ↓Pu.vO_12, ↓Pu.rD_12, ↓Pu.rO_12, ↓Pu.kD_12, ↓Pu.kO_12, ↓Pu.vD_13, ↓Pu.vO_13, ↓Pu.rD_13, ↓Pu.rO_13, ↓Pu.kD_13, ↓Pu.kO_13, ↓Pu.vD_14, ↓Pu.vO_14, ↓Pu.rD_14, ↓Pu.rO_14, ↓Pu.kD_14, ↓Pu.kO_14, ↓Pu.vD_15, ↓Pu.vO_15, ↓Pu.rD_15, ↓Pu.rO_15, ↓Pu.kD_15, ↓Pu.kO_15])
set_option Elab.async false
set_option linter.all false
set_option maxRecDepth 100000
set_option maxHeartbeats 4000000
namespace Pu.Q
open PySem PySem.Spec PyProof.Rows L2 Pu
theorem i_int {i : Int} : fIsi isT [.int i, .ty "int"] = mV (.bl true) := rfl
theorem i_boo {i : Int} : fIsi isT [.int i, .ty "bool"] = mV (.bl false) := rfl
theorem i_str {z : Str} : fIsi isT [.str z, .ty "str"] = mV (.bl true) := rfl
theorem i_rul {fs : List Str} {vs : List Val} : fIsi isT [.obj "Rule" fs vs, .glo "Rule"] = mV (.bl true) := rfl
section
variable {Q : RV → Ev → Prop}
theorem r_is_integer {i : Int} : Ok den_is_integer [.dat (.int i)] Q ↔ Q (.dat (.bl true)) [.un] := by
  simp_arith [↓den_is_integer, ↓b_is_integer, ↓i_int, ↓i_boo]
theorem r_is_between {v lo hi : Int} (h1 : lo ≤ v) (h2 : v ≤ hi) : Ok den_is_between [.dat (.int v), .dat (.int lo), .dat (.int hi)] Q ↔ Q (.dat (.bl true)) [.un, .un, .un] := by
  simp_arith [↓den_is_between, ↓b_is_between, ↓r_is_integer, ↓h1, ↓h2]
theorem r_check_number {v lo hi : Int} (h1 : lo ≤ v) (h2 : v ≤ hi) : Ok den_check_number [.dat (.int v), .dat (.int lo), .dat (.int hi)] Q ↔ Q (.dat .non) [.un, .un, .un] := by
  simp_arith [↓den_check_number, ↓b_check_number, ↓r_is_between h1 h2]
abbrev rV (s l p : Int) (t : Str) : Val := .obj "Rule" ["limit", "parts"] [.int l, .tup [.int s, .str t, .int l, .int p]]
variable {s l p : Int} {t : Str}
theorem r_check_rule : Ok den_check_rule [.dat (rV s l p t)] Q ↔ Q (.dat .non) [.un] := by
  simp_arith [↓den_check_rule, ↓b_check_rule, ↓i_rul]
theorem r_step : Ok den_Rule__step [.dat (rV s l p t)] Q ↔ Q (.dat (.int s)) [.un] := by
  simp_arith [↓den_Rule__step, ↓b_Rule__step]
theorem r_setting : Ok den_Rule__setting [.dat (rV s l p t)] Q ↔ Q (.dat (.str t)) [.un] := by
  simp_arith [↓den_Rule__setting, ↓b_Rule__setting]
def low (t : Str) (s : Int) : Int := if t = "next" then 0 else if t = "last" then 1 - s else -((s - 1) / 2)
def high (t : Str) (s : Int) : Int := if t = "next" then s - 1 else if t = "last" then 0 else s / 2
theorem r_reach : Ok den_reach [.dat (rV s l p t)] Q ↔ Q (.dat (.tup [.int (low t s), .int (high t s)])) [.un] := by
  unfold low high
  by_cases h1 : t = "next"
  · simp_arith [↓den_reach, ↓b_reach, ↓r_setting, ↓r_step, ↓h1]
  · by_cases h2 : t = "last"
    · simp_arith [↓den_reach, ↓b_reach, ↓r_setting, ↓r_step, ↓h1, ↓h2]
    · simp_arith [↓den_reach, ↓b_reach, ↓r_setting, ↓r_step, ↓h1, ↓h2]
theorem r_sip {a b c top : Int} (h1 : 0 < top) (h2 : top < 1606938044258990275541962092341162602522202993782792835301376) :
    Ok den__law_sip [.own (.lst [.int a, .int b, .int c]), .dat (.int top)] fun r e' => ∃ d a' b' c', r = .dat (.int d) ∧ e' = [.own (.lst [.int a', .int b', .int c']), .un] ∧ 0 ≤ d ∧ d < top := by
  simp_arith [↓den__law_sip, ↓b__law_sip, ↓h1, ↓h2]
  refine ⟨fun q => ⟨_, _, _, _, rfl, rfl, Int.emod_nonneg _ (by omega), Int.emod_lt_of_pos _ h1⟩, fun q => ⟨_, _, _, _, rfl, rfl, Int.emod_nonneg _ (by omega), Int.emod_lt_of_pos _ h1⟩⟩
end
section
variable {Q : RV → Ev → Prop} {s l p : Int} {t : Str}
def markV (t : Str) (s a : Int) : Int := a + low t s + (-a - low t s) % s
theorem r_mark_at {a : Int} (hs : 0 < s) : Ok den_mark_at [.dat (rV s l p t), .dat (.int a)] Q ↔ Q (.dat (.int (markV t s a))) [.un, .un] := by
  unfold markV
  simp_arith [↓den_mark_at, ↓b_mark_at, ↓r_reach, ↓r_step, ↓hs]
def mx (i j : Int) : Int := if j > i then j else i
def inMenu (t : Str) : Prop := t = "next" ∨ t = "last" ∨ t = "near"
theorem notin {t : Str} (h : inMenu t) : oInG true (.str t) (.tup [.str "next", .str "last", .str "near"]) = mV (.bl false) := by
  rcases h with rfl | rfl | rfl <;> rfl
theorem r_init {s l p : Int} {t : Str} (h1 : 1 ≤ s) (h2 : s ≤ 1000000000000) (h3 : s ≤ l) (h4 : l ≤ 1000000000000000000) (h5 : 1 ≤ p) (h6 : p ≤ 1000000000000000000) (ht : inMenu t) :
    Ok den_Rule____init__ [.own (.obj "Rule" [] []), .dat (.int s), .dat (.str t), .dat (.int l), .dat (.int p)] Q ↔ Q (.dat .non) [.own (rV s l p t), .un, .un, .un, .un] := by
  simp_arith [↓den_Rule____init__, ↓b_Rule____init__, ↓r_check_number h1 h2, ↓r_check_number h3 h4, ↓r_check_number h5 h6, ↓i_str, ↓notin ht]
theorem r_made {s l p : Int} {t : Str} (h1 : 1 ≤ s) (h2 : s ≤ 1000000000000) (h3 : s ≤ l) (h4 : l ≤ 1000000000000000000) (h5 : 1 ≤ p) (h6 : p ≤ 1000000000000000000) (ht : inMenu t) :
    Ok den__law_made [.dat (.lst [.int s, .str t, .int l, .int p])] Q ↔ Q (.tmp (rV s l p t)) [.un] := by
  simp_arith [↓den__law_made, ↓b__law_made, ↓r_init h1 h2 h3 h4 h5 h6 ht]
theorem r_pick {a b c : Int} {xs : List Val} (h1 : xs ≠ []) (h2 : xs.length ≤ 1000) :
    Ok den__law_pick [.own (.lst [.int a, .int b, .int c]), .dat (.lst xs)] fun r e' => ∃ v a' b' c', v ∈ xs ∧ r = .dat v ∧ e' = [.own (.lst [.int a', .int b', .int c']), .un] := by
  have h3 : 0 < xs.length := List.length_pos_iff.mpr h1
  simp_arith [↓den__law_pick, ↓b__law_pick]
  refine Ok.mono (r_sip (top := (xs.length : Int)) (by omega) (by omega)) ?_
  rintro _ _ ⟨d, a', b', c', rfl, rfl, h4, h5⟩
  obtain ⟨v, hv, e1⟩ := atI_mem h4 h5
  simp_arith [↓ok_ixL]
  exact ⟨v, e1, v, a', b', c', hv, rfl, rfl⟩
end
section
variable {Q : RV → Ev → Prop} {s l p : Int} {t : Str}
theorem r_far {a b c most : Int} (h1 : 1 ≤ most) (h2 : most < 1606938044258990275541962092341162602522202993782792835301376) :
    Ok den__law_far [.own (.lst [.int a, .int b, .int c]), .dat (.int most)] fun r e' => ∃ d a' b' c', r = .dat (.int d) ∧ e' = [.own (.lst [.int a', .int b', .int c']), .un] ∧ 1 ≤ d ∧ d ≤ most := by
  simp_arith [↓den__law_far, ↓b__law_far]
  refine ⟨fun q => ?_, fun q => ?_⟩
  · refine Ok.mono (r_sip (by omega) (by omega)) ?_
    rintro _ _ ⟨d, a', b', c', rfl, rfl, h4, h5⟩
    simp_arith
    exact ⟨_, _, _, _, rfl, rfl, by omega, by omega⟩
  · refine Ok.mono (r_pick (by simp) (by simp)) ?_
    rintro _ _ ⟨v, a', b', c', hv, rfl, rfl⟩
    have hi : ∃ k, v = .int k := by
      simp only [List.mem_cons, List.not_mem_nil, or_false] at hv
      rcases hv with rfl | rfl | rfl | rfl | rfl | rfl | rfl | rfl <;> exact ⟨_, rfl⟩
    obtain ⟨k, rfl⟩ := hi
    simp_arith
    refine Ok.mono (r_sip (by omega) (by omega)) ?_
    rintro _ _ ⟨d, a1, b1, c1, rfl, rfl, h4, h5⟩
    simp_arith
    refine Ok.mono (r_sip (by omega) (by omega)) ?_
    rintro _ _ ⟨d2, a2, b2, c2, rfl, rfl, h6, h7⟩
    simp_arith
    refine ⟨by omega, _, _, _, _, rfl, rfl, ?_, ?_⟩
    · have := Int.emod_nonneg (d * k + d2) (show most ≠ 0 by omega)
      omega
    · have := Int.emod_lt_of_pos (d * k + d2) (show 0 < most by omega)
      omega
theorem r_plan {a b c mm : Int} (h1 : 5 ≤ mm) (h2 : mm < 1606938044258990275541962092341162602522202993782792835301376) :
    Ok den__law_plan [.own (.lst [.int a, .int b, .int c]), .dat (.int mm)] fun r e' => ∃ g t f p a' b' c', r = .tmp (.lst [.int g, .str t, .int f, .int p]) ∧ e' = [.own (.lst [.int a', .int b', .int c']), .un] ∧ (1 ≤ g ∧ g ≤ mm) ∧ inMenu t ∧ (g ≤ f ∧ f ≤ g + 3000007) ∧ 1 ≤ p ∧ p ≤ 8 := by
  simp_arith [↓den__law_plan, ↓b__law_plan]
  refine Ok.mono (r_far (by omega) (by omega)) ?_
  rintro _ _ ⟨d, a1, b1, c1, rfl, rfl, h4, h5⟩
  simp_arith
  refine Ok.mono (r_pick (by simp) (by simp)) ?_
  rintro _ _ ⟨v, a2, b2, c2, hv, rfl, rfl⟩
  have hi : ∃ k : Int, v = .int k ∧ 1 ≤ k ∧ k ≤ mm := by
    simp only [List.mem_cons, List.not_mem_nil, or_false] at hv
    rcases hv with rfl | rfl | rfl | rfl | rfl <;> exact ⟨_, rfl, by omega, by omega⟩
  obtain ⟨g, rfl, g1, g2⟩ := hi
  simp_arith
  have hm : 1 ≤ (if (1000000 : Int) < g then (1000000 : Int) else g) ∧ (if (1000000 : Int) < g then (1000000 : Int) else g) ≤ 1000000 := by split <;> omega
  generalize (if (1000000 : Int) < g then (1000000 : Int) else g) = m at hm ⊢
  refine Ok.mono (r_sip (by omega) (by omega)) ?_
  rintro _ _ ⟨d2, a3, b3, c3, rfl, rfl, h6, h7⟩
  simp_arith
  refine Ok.mono (r_pick (by simp) (by simp)) ?_
  rintro _ _ ⟨v, a4, b4, c4, hv, rfl, rfl⟩
  have hi : ∃ k : Int, v = .int k ∧ 0 ≤ k ∧ k ≤ 3000007 := by
    simp only [List.mem_cons, List.not_mem_nil, or_false] at hv
    rcases hv with rfl | rfl | rfl | rfl | rfl <;> exact ⟨_, rfl, by omega, by omega⟩
  obtain ⟨f, rfl, f1, f2⟩ := hi
  simp_arith
  refine Ok.mono (r_pick (by simp) (by simp)) ?_
  rintro _ _ ⟨v, a5, b5, c5, hv, rfl, rfl⟩
  have hi : ∃ k : Str, v = .str k ∧ inMenu k := by
    simp only [List.mem_cons, List.not_mem_nil, or_false] at hv
    rcases hv with rfl | rfl | rfl
    · exact ⟨_, rfl, .inl rfl⟩
    · exact ⟨_, rfl, .inr (.inl rfl)⟩
    · exact ⟨_, rfl, .inr (.inr rfl)⟩
  obtain ⟨t, rfl, t1⟩ := hi
  simp_arith
  refine Ok.mono (r_pick (by simp) (by simp)) ?_
  rintro _ _ ⟨v, a6, b6, c6, hv, rfl, rfl⟩
  have hi : ∃ k : Int, v = .int k ∧ 1 ≤ k ∧ k ≤ 8 := by
    simp only [List.mem_cons, List.not_mem_nil, or_false] at hv
    rcases hv with rfl | rfl | rfl | rfl | rfl <;> exact ⟨_, rfl, by omega, by omega⟩
  obtain ⟨p, rfl, p1, p2⟩ := hi
  simp_arith
  exact ⟨_, _, _, _, _, _, _, rfl, rfl, ⟨g1, g2⟩, t1, ⟨by omega, by omega⟩, p1, p2⟩
def pV (g f p : Int) (t : Str) : Val := .lst [.int g, .str t, .int f, .int p]
def lmark (t : Str) (g a : Int) : Int := if a % g = 0 ∨ t = "last" then a - a % g else if t = "next" ∨ 2 * (a % g) ≥ g then a - a % g + g else a - a % g
theorem r_mark {g f p a : Int} (hg : 0 < g) : Ok den__law_mark [.dat (.lst [.int g, .str t, .int f, .int p]), .dat (.int a)] Q ↔ Q (.dat (.int (lmark t g a))) [.un, .un] := by
  have e1 : ∀ x : Int, (a - x = a) ↔ x = 0 := fun x => by omega
  have e2 : a - (a - a % g) = a % g := by omega
  unfold lmark
  by_cases h0 : a % g = 0
  · simp_arith [↓den__law_mark, ↓b__law_mark, ↓hg, ↓e1, ↓h0]
  · by_cases h1 : t = "last"
    · simp_arith [↓den__law_mark, ↓b__law_mark, ↓hg, ↓e1, ↓h0, ↓h1]
    · by_cases h2 : t = "next"
      · simp_arith [↓den__law_mark, ↓b__law_mark, ↓hg, ↓e1, ↓h0, ↓h1, ↓h2]
      · by_cases h3 : g ≤ 2 * (a % g)
        · simp_arith [↓den__law_mark, ↓b__law_mark, ↓hg, ↓e1, ↓e2, ↓h0, ↓h1, ↓h2, ↓h3]
        · simp_arith [↓den__law_mark, ↓b__law_mark, ↓hg, ↓e1, ↓e2, ↓h0, ↓h1, ↓h2, ↓h3]
end
theorem ceil_iff {y k g : Int} (hg : 0 < g) (hk : k % g = 0) : y + (-y) % g = k ↔ k - g < y ∧ y ≤ k := by
  have h0 := Int.emod_nonneg (-y) (show g ≠ 0 by omega)
  have h1 := Int.emod_lt_of_pos (-y) hg
  have h2 : (y + (-y) % g) % g = 0 := by
    rw [Int.add_emod, Int.emod_emod_of_dvd _ (Int.dvd_refl g), ← Int.add_emod, Int.add_right_neg, Int.zero_emod]
  constructor
  · intro h; omega
  · rintro ⟨h3, h4⟩
    obtain ⟨c, hc⟩ := Int.dvd_of_emod_eq_zero h2
    obtain ⟨d, hd⟩ := Int.dvd_of_emod_eq_zero hk
    have e1 : y + (-y) % g - k = g * (c - d) := by rw [Int.mul_sub, ← hc, ← hd]
    have b1 : y + (-y) % g - k < g := by omega
    have b2 : -g < y + (-y) % g - k := by omega
    have e2 : c - d = 0 := by
      rcases Int.lt_trichotomy (c - d) 0 with q | q | q
      · have : g * (c - d) ≤ g * (-1) := Int.mul_le_mul_of_nonneg_left (by omega) (by omega)
        omega
      · exact q
      · have : g * 1 ≤ g * (c - d) := Int.mul_le_mul_of_nonneg_left (by omega) (by omega)
        omega
    rw [e2] at e1
    omega
theorem high_low {t : Str} {g : Int} (ht : inMenu t) : high t g = low t g + g - 1 := by
  unfold high low
  rcases ht with rfl | rfl | rfl
  · simp_arith
    omega
  · simp_arith
    omega
  · simp_arith
    omega
theorem low_le {t : Str} {g : Int} (hg : 0 < g) (ht : inMenu t) : 1 - g ≤ low t g ∧ low t g ≤ 0 := by
  unfold low
  rcases ht with rfl | rfl | rfl
  · simp_arith
    omega
  · simp_arith
    omega
  · simp_arith
    omega
theorem mark_iff {t : Str} {g x k : Int} (hg : 0 < g) (ht : inMenu t) (hk : k % g = 0) : markV t g x = k ↔ k - high t g ≤ x ∧ x ≤ k - low t g := by
  have h := ceil_iff (y := x + low t g) hg hk
  have e : markV t g x = x + low t g + (-(x + low t g)) % g := by
    unfold markV
    rw [show -x - low t g = -(x + low t g) by omega]
  rw [e, h, high_low ht]
  constructor
  · rintro ⟨a, b⟩; exact ⟨by omega, by omega⟩
  · rintro ⟨a, b⟩; exact ⟨by omega, by omega⟩
theorem down {g a : Int} (hg : 0 < g) : (a - a % g) % g = 0 := by
  rw [Int.sub_emod, Int.emod_emod_of_dvd _ (Int.dvd_refl g), Int.sub_self, Int.zero_emod]
theorem up_ {g a : Int} (hg : 0 < g) : (a - a % g + g) % g = 0 := by
  rw [Int.add_emod, down hg]
  simp
theorem lmark_mul {t : Str} {g a : Int} (hg : 0 < g) : lmark t g a % g = 0 := by
  unfold lmark
  split
  · exact down hg
  · split
    · exact up_ hg
    · exact down hg
theorem lmark_eq {t : Str} {g a : Int} (hg : 0 < g) (ht : inMenu t) : markV t g a = lmark t g a := by
  rw [mark_iff hg ht (lmark_mul hg)]
  have h0 := Int.emod_nonneg a (show g ≠ 0 by omega)
  have h1 := Int.emod_lt_of_pos a hg
  unfold high low lmark
  rcases ht with rfl | rfl | rfl
  · simp_arith
    split <;> omega
  · simp_arith
    omega
  · simp_arith
    split
    · omega
    · split <;> omega
theorem Ok.seq {a b : S} {e : Ev} {Q : Out → Ev → Prop} (P : Ev → Prop) (h : Ok a e fun o e1 => o = .nx ∧ P e1) (k : ∀ e1, P e1 → Ok b e1 Q) : Ok (mSeq a b) e Q := by
  rw [ok_seq]
  exact Ok.mono h fun o e1 ⟨h1, h2⟩ => by subst h1; exact k e1 h2
theorem Ok.loopI {mt : Val → M Unit} {mb : S} (P : Ev → Prop) {vs : List Val} {e : Ev} (h : P e) (st : ∀ (v : Val) (e : Ev), v ∈ vs → P e → Ok (mt v) e fun _ e1 => Ok mb e1 fun o e2 => (o = .nx ∨ o = .ct) ∧ P e2) : Ok (loopS mt mb vs) e fun o e' => o = .nx ∧ P e' :=
  Ok.loop (fun _ => P) (i := 0) h fun j v e hj hp => st v e (List.mem_of_getElem? hj) hp
theorem r_flask {ns : List Int} {k : Int} (hk : 0 ≤ k) : Ok den__law_flask [.dat (.lst (ns.map .int)), .dat (.int k)] fun r e' => ∃ a b c, r = .tmp (.lst [.int a, .int b, .int c]) ∧ e' = [.un, .un] := by
  unfold den__law_flask
  rw [ok_d2]
  unfold b__law_flask
  refine Ok.seq (fun e => ∃ i, e = [.dat (.lst (ns.map .int)), .dat (.int k), .dat (.int i), .un, .un]) ?_ ?_
  · simp_arith
    refine ⟨fun q => ?_, fun _ => ⟨_, rfl⟩⟩
    obtain ⟨v, hv, e1⟩ := atI_mem hk q
    obtain ⟨i, _, rfl⟩ := List.mem_map.mp hv
    simp_arith [↓ok_ixL]
    exact ⟨_, e1, by simp_arith; exact ⟨_, rfl⟩⟩
  rintro _ ⟨i, rfl⟩
  refine Ok.seq (fun e => ∃ st, e = [.dat (.lst (ns.map .int)), .dat (.int k), .dat (.int i), .dat (.int st), .un]) ?_ ?_
  · simp_arith
    exact ⟨_, rfl⟩
  rintro _ ⟨st, rfl⟩
  refine Ok.seq (fun e => ∃ st s4, e = [.dat (.lst (ns.map .int)), .dat (.int k), .dat (.int i), .dat (.int st), s4]) ?_ ?_
  · simp_arith
    refine Ok.loopI _ ⟨_, _, rfl⟩ ?_
    rintro v _ hv ⟨st, s4, rfl⟩
    have hi : ∃ j, v = .int j := by
      have h1 := List.mem_of_mem_take hv
      have h2 := List.mem_of_mem_drop h1
      obtain ⟨j, _, rfl⟩ := List.mem_map.mp h2
      exact ⟨j, rfl⟩
    obtain ⟨j, rfl⟩ := hi
    simp_arith
    exact ⟨_, _, rfl⟩
  rintro _ ⟨st, s4, rfl⟩
  simp_arith
  exact ⟨fun q => ⟨_, _, _, rfl⟩, fun q => ⟨_, _, _, rfl⟩⟩
section
variable {Q : RV → Ev → Prop} {s l p : Int} {t : Str}
theorem rOk_2 {i j : Int} (h1 : -1606938044258990275541962092341162602522202993782792835301376 < i) (h2 : i < 1606938044258990275541962092341162602522202993782792835301376) (h3 : -1606938044258990275541962092341162602522202993782792835301376 < j) (h4 : j < 1606938044258990275541962092341162602522202993782792835301376) :
    rOk (.lst [.int i, .int j]) = true ↔ True := by
  simp [rOk, isD, isDs, dep, deps, iOk, iOks, rsz, rszs, h1, h2, h3, h4]
theorem rOk_22 {i j m n : Int} (h1 : -1606938044258990275541962092341162602522202993782792835301376 < i) (h2 : i < 1606938044258990275541962092341162602522202993782792835301376) (h3 : -1606938044258990275541962092341162602522202993782792835301376 < j) (h4 : j < 1606938044258990275541962092341162602522202993782792835301376)
    (h5 : -1606938044258990275541962092341162602522202993782792835301376 < m) (h6 : m < 1606938044258990275541962092341162602522202993782792835301376) (h7 : -1606938044258990275541962092341162602522202993782792835301376 < n) (h8 : n < 1606938044258990275541962092341162602522202993782792835301376) :
    rOk (.lst [.tup [.int i, .int j], .tup [.int m, .int n]]) = true ↔ True := by
  simp [rOk, isD, isDs, dep, deps, iOk, iOks, rsz, rszs, h1, h2, h3, h4, h5, h6, h7, h8]
theorem r_mark' {g f p a : Int} (hg : 0 < g) (ht : inMenu t) : Ok den__law_mark [.dat (.lst [.int g, .str t, .int f, .int p]), .dat (.int a)] Q ↔ Q (.dat (.int (markV t g a))) [.un, .un] := by
  rw [r_mark hg, lmark_eq hg ht]
end
theorem dOk_is {is : List Int} : dOk (.lst (is.map .int)) = true ↔ True := by
  have h1 : isDs (is.map .int) = true := by induction is with
    | nil => rfl
    | cons i is ih => simp [isDs, isD, ih]
  have h2 : deps (is.map .int) = 0 := by induction is with
    | nil => rfl
    | cons i is ih => simp only [List.map_cons, deps, dep, ih (by simpa [isDs, isD] using h1)]; rfl
  simp [dOk, isD, dep, h1, h2]
theorem ints_is : ∀ {is : List Int}, ints? (is.map .int) = some is
  | [] => rfl
  | i :: is => by simp only [List.map_cons, ints?, ints_is (is := is)]
theorem ok_minI {e : Ev} {Q : RV → Ev → Prop} {is : List Int} {m : Int} (h : m ∈ is) (h2 : ∀ y, y ∈ is → m ≤ y) : Ok (fMinL [.lst (is.map .int)]) e Q ↔ Q (.dat (.int m)) e := by
  cases is with
  | nil => simp at h
  | cons i is =>
    show Ok (match ints? ((i :: is).map Val.int) with
      | some (i :: is) => mV (.int (minL (i :: is)))
      | _ => M.bad) e Q ↔ _
    rw [ints_is, ← minL_eq i is m h h2]
    exact Iff.rfl
theorem ok_maxI {e : Ev} {Q : RV → Ev → Prop} {is : List Int} {m : Int} (h : m ∈ is) (h2 : ∀ y, y ∈ is → y ≤ m) : Ok (fMaxL [.lst (is.map .int)]) e Q ↔ Q (.dat (.int m)) e := by
  cases is with
  | nil => simp at h
  | cons i is =>
    show Ok (match ints? ((i :: is).map Val.int) with
      | some (i :: is) => mV (.int (maxL (i :: is)))
      | _ => M.bad) e Q ↔ _
    rw [ints_is, ← maxL_eq i is m h h2]
    exact Iff.rfl
section
variable {Q : RV → Ev → Prop} {s l p : Int} {t : Str}
theorem mark_mul {t : Str} {g a : Int} (hg : 0 < g) (ht : inMenu t) : markV t g a % g = 0 := by
  rw [lmark_eq hg ht]; exact lmark_mul hg
theorem mark_rng {t : Str} {g x : Int} (hg : 0 < g) (ht : inMenu t) : low t g ≤ markV t g x - x ∧ markV t g x - x ≤ high t g := by
  have h := (mark_iff (x := x) hg ht (mark_mul (a := x) hg ht)).mp rfl
  omega
theorem n1 : inMenu "next" := .inl rfl
theorem n2 : inMenu "last" := .inr (.inl rfl)
theorem mx_n (i j : Int) : mx i j = if j > i then j else i := rfl
theorem back_t {v : Val} {p e : Ev} : backE [true] [.tmp v] p e = e := by cases p <;> rfl
end
end Pu.Q
set_option Elab.async false
set_option linter.all false
set_option maxRecDepth 100000
set_option maxHeartbeats 4000000
namespace Pu.Q
open PySem PySem.Spec PyProof.Rows L2 Pu
theorem ok_det {α : Type} {m : M α} {e e' : Ev} {a : α} {Q : α → Ev → Prop} (h : Ok m e fun r x => r = a ∧ x = e') : Ok m e Q ↔ Q a e' := by
  obtain ⟨r, x, h1, rfl, rfl⟩ := ok_ex.mp h
  constructor
  · intro q
    obtain ⟨r', x', h2, q⟩ := ok_ex.mp q
    rw [h1] at h2; cases h2
    exact q
  · intro q
    exact ok_ex.mpr ⟨_, _, h1, q⟩
theorem ixL_of {xs : List Val} {i : Int} {v : Val} {e : Ev} {Q : RV → Ev → Prop} (h : atI xs i = some v) : Ok (oIx (.lst xs) (.int i)) e Q ↔ Q (.dat v) e := by
  rw [ok_ixL, h]; simp
def optV : Option Int → Val
  | none => .non
  | some i => .int i
abbrev Note := Int × Int × Option Int
def mkAt (ns : List Note) (i : Nat) : Option Int := (ns[i]?).bind (·.2.2)
def joinsB (ns : List Note) (i : Nat) (ap : List Int) : Bool := decide (0 < i) && !decide ((i : Int) ∈ ap) && (mkAt ns i).isSome && decide (mkAt ns i = mkAt ns (i - 1))
theorem mkAt_of {ns : List Note} {i : Nat} (h : i < ns.length) : mkAt ns i = ns[i].2.2 := by simp [mkAt, h]
def leastArr (p now : Int) (last : Option Int) (ab : Bool) : Int :=
  let l := match last with
    | none => 0
    | some x => x + p
  if ab then mx l (now + 1) else l
structure WS where
  now : Int
  last : Option Int
  beg : Option Int
def absB (ns : List Note) (i : Nat) : Bool := decide (0 < i) && (mkAt ns (i - 1)).isNone
def wStep (s p : Int) (t : Str) (ns : List Note) (ap : List Int) (i : Nat) (n : Note) (w : WS) : Option WS :=
  match n.2.2 with
  | none =>
    let x := mx (mx n.1 w.now) (match w.last with
      | none => 0
      | some x => x + 1)
    if n.2.1 < x then none else some ⟨x, w.last, w.beg⟩
  | some m => if joinsB ns i ap then (if n.2.1 < mx n.1 w.now then none else some ⟨mx n.1 w.now, some (mx n.1 w.now), w.beg⟩)
    else
      let b := mx (mx 0 (m - high t s)) (leastArr p w.now w.last (absB ns i))
      if m - low t s < b then none else if n.2.1 < mx (mx n.1 w.now) b then none else some ⟨mx (mx n.1 w.now) b, some (mx (mx n.1 w.now) b), some b⟩
def wGo (s p : Int) (t : Str) (ns : List Note) (ap : List Int) : List Note → Nat → WS → Option (List (Int × Option Int))
  | [], _, _ => some []
  | n :: r, i, w => match wStep s p t ns ap i n w with
    | none => none
    | some w' => match wGo s p t ns ap r (i + 1) w' with
      | none => none
      | some out => some ((w'.now, n.2.2.bind fun _ => w'.beg) :: out)
theorem wGo_none {s p : Int} {t : Str} {ns : List Note} {ap : List Int} {n : Note} {r : List Note} {i : Nat} {w : WS} (h : wStep s p t ns ap i n w = none) : wGo s p t ns ap (n :: r) i w = none := by
  simp only [wGo, h]
theorem wGo_some {s p : Int} {t : Str} {ns : List Note} {ap : List Int} {n : Note} {r : List Note} {i : Nat} {w w' : WS} (h : wStep s p t ns ap i n w = some w') : wGo s p t ns ap (n :: r) i w = match wGo s p t ns ap r (i + 1) w' with
    | none => none
    | some out => some ((w'.now, n.2.2.bind fun _ => w'.beg) :: out) := by
  simp only [wGo, h]
abbrev w0 : WS := ⟨0, none, none⟩
def ways (s p : Int) (t : Str) (ns : List Note) (ap : List Int) : Option (List (Int × Option Int)) := wGo s p t ns ap ns 0 w0
end Pu.Q
set_option Elab.async false
set_option linter.all false
set_option maxRecDepth 100000
set_option maxHeartbeats 4000000
namespace Pu.Q
open PySem PySem.Spec PyProof.Rows L2 Pu
mutual
def nb : Val → Bool
  | .non => true
  | .int _ => true
  | .str _ => true
  | .tup xs => nbs xs
  | .lst xs => nbs xs
  | _ => false
def nbs : List Val → Bool
  | [] => true
  | x :: xs => nb x && nbs xs
end
mutual
theorem veq_nb : ∀ x y : Val, nb x = true → nb y = true → (veq x y = true ↔ x = y)
  | .non, y, _, h => by cases y <;> simp_all [veq, toP, PyData.eqv, nb]
  | .int _, y, _, h => by cases y <;> simp_all [veq, toP, PyData.eqv, nb]
  | .str _, y, _, h => by cases y <;> simp_all [veq, toP, PyData.eqv, nb]
  | .tup xs, y, g, h => by
    cases y with
    | tup ys =>
      have := veqs_nb xs ys (by simpa [nb] using g) (by simpa [nb] using h)
      simpa [veq, toP, PyData.eqv] using this
    | _ => simp_all [veq, toP, PyData.eqv, nb]
  | .lst xs, y, g, h => by
    cases y with
    | lst ys =>
      have := veqs_nb xs ys (by simpa [nb] using g) (by simpa [nb] using h)
      simpa [veq, toP, PyData.eqv] using this
    | _ => simp_all [veq, toP, PyData.eqv, nb]
  | .bl _, _, g, _ => by simp [nb] at g
  | .ty _, _, g, _ => by simp [nb] at g
  | .glo _, _, g, _ => by simp [nb] at g
  | .obj _ _ _, _, g, _ => by simp [nb] at g
theorem veqs_nb : ∀ xs ys : List Val, nbs xs = true → nbs ys = true → (PyData.eqvAll (toPs xs) (toPs ys) = true ↔ xs = ys)
  | [], [], _, _ => by simp [toPs, PyData.eqvAll]
  | [], y :: ys, _, _ => by simp [toPs, PyData.eqvAll]
  | x :: xs, [], _, _ => by simp [toPs, PyData.eqvAll]
  | x :: xs, y :: ys, g, h => by
    rw [nbs, Bool.and_eq_true] at g h
    have h1 := veq_nb x y g.1 h.1
    have h2 := veqs_nb xs ys g.2 h.2
    unfold veq at h1
    simp [toPs, PyData.eqvAll, h1, h2]
end
theorem veq_no {x y : Val} (hx : nb x = true) (hy : nb y = true) (h : x ≠ y) : veq x y = false := by
  cases q : veq x y
  · rfl
  · exact absurd ((veq_nb x y hx hy).mp q) h
theorem veq_yes {x : Val} (hx : nb x = true) : veq x x = true := (veq_nb x x hx hx).mpr rfl
section
variable {Q : RV → Ev → Prop} {s l p : Int} {t : Str}
abbrev Mx : Int := 1000000000000000000000000000000
def markB (s m : Int) : Bool := decide ((0 ≤ m ∧ m ≤ Mx) ∧ m % s = 0)
def noteB (s : Int) (n : Note) : Bool := decide (0 ≤ n.1 ∧ n.1 ≤ Mx) && decide (0 ≤ n.2.1 ∧ n.2.1 ≤ Mx) && decide (n.1 ≤ n.2.1) && (match n.2.2 with
  | none => true
  | some m => markB s m)
end
end Pu.Q
set_option Elab.async false
set_option linter.all false
set_option maxRecDepth 100000
set_option maxHeartbeats 4000000
namespace Pu.Q
open PySem PySem.Spec PyProof.Rows L2 Pu
section
variable {Q : RV → Ev → Prop} {s l p day t0 : Int} {t : Str} {ts : List Int}
theorem nb_is {is : List Int} : nbs (is.map .int) = true := by induction is with
  | nil => rfl
  | cons i is ih => simp [nbs, nb, ih]
theorem veq_nilL : veq (.lst []) (.lst []) = true := veq_yes rfl
end
end Pu.Q
set_option Elab.async false
set_option linter.all false
set_option maxRecDepth 100000
set_option maxHeartbeats 4000000
namespace Pu.Q
open PySem PySem.Spec PyProof.Rows L2 Pu
theorem Ok.iffQ {α : Type} {m : M α} {e : Ev} {P R : α → Ev → Prop} (h : ∀ a e, P a e ↔ R a e) : Ok m e P ↔ Ok m e R := ⟨fun q => Ok.mono q fun a e' => (h a e').mp, fun q => Ok.mono q fun a e' => (h a e').mpr⟩
theorem ok_sort {m : M RV} {e : Ev} {Q : RV → Ev → Prop} : Ok (mSort m) e Q ↔ Ok m e fun r e1 => Ok (M.rd r) e1 fun v e2 => match v with
    | .lst xs => (match ints? xs with
      | some ns => Q (.tmp (.lst ((sortI ns).map .int))) e2
      | none => False)
    | _ => False := by
  unfold mSort
  rw [ok_bind]
  refine Ok.iffQ fun r e1 => ?_
  rw [ok_bind]
  refine Ok.iffQ fun v e2 => ?_
  cases v with
  | lst xs =>
    dsimp only
    cases ints? xs with
    | none => exact ok_bad
    | some ns => exact ok_ret
  | _ => exact ok_bad
end Pu.Q
set_option Elab.async false
set_option linter.all false
set_option maxRecDepth 100000
set_option maxHeartbeats 8000000
namespace Pu.Q
open PySem PySem.Spec PyProof.Rows L2 Pu
theorem mark_near {t : Str} {g a : Int} (hg : 0 < g) (ht : inMenu t) : a - g < markV t g a ∧ markV t g a < a + g := by
  obtain ⟨h1, h2⟩ := mark_rng (x := a) hg ht
  obtain ⟨l1, l2⟩ := low_le hg ht
  have := high_low (g := g) ht
  constructor <;> omega
theorem clamp {len m : Int} (hm : 2 ≤ m) : 2 ≤ (if 2 < (if m < len then m else len) then (if m < len then m else len) else 2) ∧ (if 2 < (if m < len then m else len) then (if m < len then m else len) else 2) ≤ m := by
  split
  · split <;> omega
  · omega
theorem all_right {ws : List Nat} {n : Int} {mt : Val → M Unit} {me : M RV} {e : Ev} {Q : RV → Ev → Prop} (h1 : 0 ≤ n) (h2 : n ≤ 100)
    (st : ∀ i : Int, 0 ≤ i → i < n → Ok (mt (.int i)) e fun _ e1 => Ok me e1 fun x e3 => Ok (M.dt x) e3 fun w e4 => w = .bl true ∧ wipeE e4 ws = e) (k : Q (.dat (.bl true)) e) :
    Ok (compS ws mt mYes me (rangeV 0 n) []) e fun r e1 => Ok (fAll [.lst r]) e1 Q := by
  refine Ok.mono (Ok.compS (fun e' => e' = e) (fun _ w => w = .bl true) rfl ?_ ?_) ?_
  · have : (rangeV 0 n).length = n.toNat := by simp [rangeV]
    rw [this, sizeLine_eq, List.length_nil]
    omega
  · rintro v e' hv rfl
    obtain ⟨i, hi, rfl⟩ := List.mem_map.mp hv
    have := List.mem_range.mp hi
    exact st _ (by omega) (by omega)
  · rintro r e' ⟨rfl, rs, hrs, hl, hp⟩
    rw [List.nil_append] at hrs
    subst hrs
    refine (ok_allT fun x hr => ?_).mpr k
    obtain ⟨j, hj, e1⟩ := List.mem_iff_getElem.mp hr
    have h1 : r[j]? = some x := by rw [List.getElem?_eq_getElem hj, e1]
    exact hp j _ _ (List.getElem?_eq_getElem (by omega)) h1
end Pu.Q
set_option Elab.async false
set_option linter.all false
set_option maxRecDepth 100000
set_option maxHeartbeats 8000000
namespace Pu.Q
open PySem PySem.Spec PyProof.Rows L2 Pu
abbrev Ds := List (Option Int)
def dAt (d : Ds) (i : Nat) : Option Int := d.getD i none
def done (d e : Ds) : Nat → Nat
  | 0 => 0
  | n + 1 => done d e n + if dAt d n = dAt e n then 1 else 0
def Tells (C : Int → Prop) : Option (Option Int × Option Int) → Prop
  | none => ∀ c, ¬ C c
  | some (l, h) => (∃ c, C c) ∧ ∀ c, C c ↔ (∀ a, l = some a → a ≤ c) ∧ (∀ b, h = some b → c ≤ b)
end Pu.Q
set_option Elab.async false
set_option linter.all false
set_option maxRecDepth 100000
set_option maxHeartbeats 8000000
set_option Elab.async false
set_option linter.all false
set_option maxRecDepth 100000
set_option maxHeartbeats 8000000
namespace Pu.Q
open PySem PySem.Spec PyProof.Rows L2 Pu
structure BSt where
  seen : Option Nat
  gone : Option Nat
  mark : Option Int
def oN (o : Option Nat) : Val := optV (o.map fun (n : Nat) => (n : Int))
end Pu.Q
set_option Elab.async false
set_option linter.all false
set_option maxRecDepth 100000
set_option maxHeartbeats 8000000
namespace Pu.Q
open PySem PySem.Spec PyProof.Rows L2 Pu
variable {s l p : Int} {t : Str} {Q : RV → Ev → Prop}
abbrev b0 : BSt := ⟨none, none, none⟩
def LateOk (n : Int) : Int → List Int → Prop
  | _, [] => True
  | lo, x :: r => lo ≤ x ∧ x ≤ n - 1 ∧ LateOk n (x + 1) r
end Pu.Q
set_option Elab.async false
set_option linter.all false
set_option maxRecDepth 100000
set_option maxHeartbeats 8000000
namespace Pu.Q
open PySem PySem.Spec PyProof.Rows L2 Pu
variable {s l p : Int} {t : Str} {Q : RV → Ev → Prop}
theorem mx_eq (i j : Int) : mx i j = max i j := by rw [mx_n]; split <;> omega
structure PSt where
  prev : Option Int
  spot : Option Int
  gone : Option Int
  last : Option Int
abbrev p0 : PSt := ⟨none, none, none, none⟩
end Pu.Q
set_option Elab.async false
set_option linter.all false
set_option maxRecDepth 100000
set_option maxHeartbeats 8000000
set_option Elab.async false
set_option linter.all false
set_option maxRecDepth 100000
set_option maxHeartbeats 8000000
namespace Pu.Q
open PySem PySem.Spec PyProof.Rows L2 Pu
section
variable {s l p : Int} {t : Str} {Q : RV → Ev → Prop}
theorem neL_v {is : List Int} : (!veq (.lst (is.map .int)) (.lst [])) = decide (is ≠ []) := by
  cases is with
  | nil => rw [show veq (.lst (([] : List Int).map .int)) (.lst []) = true from veq_nilL]; rfl
  | cons x r =>
    rw [veq_no (by rw [nb]; exact nb_is) rfl (by simp)]
    simp
theorem LateOk.mono {n : Int} : ∀ {is : List Int} {lo lo' : Int}, lo' ≤ lo → LateOk n lo is → LateOk n lo' is
  | [], _, _, _, _ => trivial
  | _ :: _, _, _, h, ⟨h1, h2, h3⟩ => ⟨by omega, h2, h3⟩
structure LotOk (s N W : Int) (ns : List Note) : Prop where
  ne : ns ≠ []
  few : ns.length ≤ 8
  all : ∀ n ∈ ns, N ≤ n.1 ∧ n.1 ≤ n.2.1 ∧ n.2.1 ≤ W ∧ ∀ m, n.2.2 = some m → 0 ≤ m ∧ m ≤ W ∧ m % s = 0
theorem LotOk.mark {s N W : Int} {ns : List Note} (h : LotOk s N W ns) : ∀ n ∈ ns, ∀ m, n.2.2 = some m → 0 ≤ m := fun n hn m hm => ((h.all n hn).2.2.2 m hm).1
end
end Pu.Q
set_option Elab.async false
set_option linter.all false
set_option maxRecDepth 100000
set_option maxHeartbeats 8000000
namespace Pu.Q
open PySem PySem.Spec PyProof.Rows L2 Pu
section
variable {s l p : Int} {t : Str} {Q : RV → Ev → Prop}
def NOk (s N W : Int) (n : Note) : Prop := N ≤ n.1 ∧ n.1 ≤ n.2.1 ∧ n.2.1 ≤ W ∧ ∀ m, n.2.2 = some m → 0 ≤ m ∧ m ≤ W ∧ m % s = 0
end
end Pu.Q
set_option Elab.async false
set_option linter.all false
set_option maxRecDepth 100000
set_option maxHeartbeats 8000000
set_option Elab.async false
set_option linter.all false
set_option maxRecDepth 100000
set_option maxHeartbeats 8000000
namespace Pu.Q
open PySem PySem.Spec PyProof.Rows L2 Pu
section
variable {s l p : Int} {t : Str} {Q : RV → Ev → Prop}
theorem Tells.fit {C : Int → Prop} {a b : Option Int} (T : Tells C (some (a, b))) {c : Int} (h1 : ∀ x, a = some x → x ≤ c) (h2 : ∀ x, b = some x → c ≤ x) : C c := (T.2 c).mpr ⟨h1, h2⟩
end
end Pu.Q
set_option Elab.async false
set_option linter.all false
set_option maxRecDepth 100000
set_option maxHeartbeats 8000000
namespace Pu.Q
open PySem PySem.Spec PyProof.Rows L2 Pu
section
variable {s l p : Int} {t : Str} {Q : RV → Ev → Prop}
def rI (lo hi : Int) : List Int := (List.range (hi - lo).toNat).map fun (i : Nat) => lo + (i : Int)
theorem rI_V {lo hi : Int} : rangeV lo hi = (rI lo hi).map .int := by
  rw [rI, List.map_map]; rfl
theorem rI_mem {lo hi x : Int} : x ∈ rI lo hi ↔ lo ≤ x ∧ x < hi := by
  unfold rI
  simp only [List.mem_map, List.mem_range]
  constructor
  · rintro ⟨i, h1, h2⟩; omega
  · rintro ⟨h1, h2⟩; exact ⟨(x - lo).toNat, by omega, by omega⟩
theorem rI_app {a b c : Int} (h1 : a ≤ b) (h2 : b ≤ c) : rI a c = rI a b ++ rI b c := by
  obtain ⟨m, rfl⟩ : ∃ m : Nat, b = a + m := ⟨(b - a).toNat, by omega⟩
  obtain ⟨n, rfl⟩ : ∃ n : Nat, c = a + m + n := ⟨(c - (a + m)).toNat, by omega⟩
  unfold rI
  rw [show (a + m + n - a).toNat = m + n by omega, show (a + m - a).toNat = m by omega, show (a + m + n - (a + m)).toNat = n by omega, List.range_add, List.map_append, List.map_map]
  congr 1
  apply List.map_congr_left
  intro i _
  simp [Int.add_assoc]
theorem rI_one {a : Int} : rI a (a + 1) = [a] := by
  unfold rI
  rw [show (a + 1 - a).toNat = 1 by omega]
  simp
end
end Pu.Q
set_option Elab.async false
set_option linter.all false
set_option maxRecDepth 100000
set_option maxHeartbeats 8000000
set_option Elab.async false
set_option linter.all false
set_option maxRecDepth 100000
set_option maxHeartbeats 8000000
set_option Elab.async false
set_option linter.all false
set_option maxRecDepth 100000
set_option maxHeartbeats 8000000
set_option Elab.async false
set_option linter.all false
set_option maxRecDepth 100000
set_option maxHeartbeats 8000000
namespace Pu.Q
open PySem PySem.Spec PyProof.Rows L2 Pu
section
variable {s l p : Int} {t : Str} {Q : RV → Ev → Prop}
theorem LateOk.filter {n : Int} : ∀ {is : List Int} {lo : Int}, LateOk n lo is → ∀ k, LateOk k lo (is.filter fun x => decide (x < k))
  | [], _, _, _ => trivial
  | x :: r, lo, ⟨h1, h2, h3⟩, k => by
    rw [List.filter_cons]
    by_cases hx : x < k
    · rw [if_pos (decide_eq_true hx)]
      exact ⟨h1, by omega, LateOk.filter h3 k⟩
    · rw [if_neg (by simpa using hx)]
      exact LateOk.mono (by omega) (LateOk.filter h3 k)
end
end Pu.Q
set_option Elab.async false
set_option linter.all false
set_option maxRecDepth 100000
set_option maxHeartbeats 8000000
set_option Elab.async false
set_option linter.all false
set_option maxRecDepth 100000
set_option maxHeartbeats 8000000
set_option Elab.async false
set_option linter.all false
set_option maxRecDepth 100000
set_option maxHeartbeats 8000000
set_option Elab.async false
set_option linter.all false
set_option maxRecDepth 100000
set_option maxHeartbeats 8000000
namespace Pu.Q
open PySem PySem.Spec PyProof.Rows L2 Pu
section
variable {s l p : Int} {t : Str} {Q : RV → Ev → Prop}
def cutStep (j : Bool) (line : List Int) : List (List Int) := if j = true then [line ++ [1], line ++ [0]] else [line ++ [1]]
def cutGo (ns : List Note) : Nat → Nat → List (List Int) → List (List Int)
  | 0, _, f => f
  | r + 1, i, f => cutGo ns r (i + 1) (f.flatMap (cutStep (joinsB ns i [])))
def cutsL (ns : List Note) : List (List Int) := cutGo ns ns.length 0 [[]]
abbrev Stay := Int × Int × Int × Int
structure FS where
  found : List Stay
  gone : Int
  lx : Option Int
def setLast (f : List Stay) (k : Int) : List Stay := match f.getLast? with
  | none => f
  | some a => f.dropLast ++ [(a.1, k, a.2.2)]
def mn (i j : Int) : Int := if j < i then j else i
def stLeast (s p : Int) (t : Str) (m : Int) (w : FS) : Int := mx (mx (mx 0 (m - high t s)) (match w.lx with
  | none => 0
  | some y => y + p)) (w.gone + 1)
def stStep (s p : Int) (t : Str) (k : Int) (n : Note) (x c : Int) (w : FS) : Option FS := match n.2.2 with
  | none => (match w.lx with
    | none => some { w with gone := x }
    | some y => if y ≥ x then none else some { w with gone := x })
  | some m => if c = 0 then some ⟨setLast w.found k, w.gone, some x⟩
    else if stLeast s p t m w > mn (m - low t s) x then none else some ⟨w.found ++ [(k, k, stLeast s p t m w, mn (m - low t s) x)], w.gone, some x⟩
def stGo (s p : Int) (t : Str) : List Note → List Int → List Int → Nat → FS → Option FS
  | [], _, _, _, w => some w
  | n :: r, x :: xs, c :: cs, k, w => (stStep s p t k n x c w).bind fun w' => stGo s p t r xs cs (k + 1) w'
  | _ :: _, _, _, _, _ => none
abbrev fs0 : FS := ⟨[], -1, none⟩
def staysL (s p : Int) (t : Str) (ns : List Note) (xs cs : List Int) : Option (List Stay) := (stGo s p t ns xs cs 0 fs0).map (·.found)
structure FSOk (ns : List Note) (xs : List Int) (k : Nat) (w : FS) : Prop where
  prev : 0 < k → mkAt ns (k - 1) ≠ none → w.found ≠ []
  nil : w.lx = none ↔ w.found = []
  last : ∀ a, w.found.getLast? = some a → 0 ≤ a.2.1 ∧ a.2.1 < k ∧ ∃ y, w.lx = some y ∧ xs[a.2.1.toNat]? = some y
theorem setLast_some {f : List Stay} {a : Stay} {k : Int} (h : f.getLast? = some a) : setLast f k = f.dropLast ++ [(a.1, k, a.2.2)] := by
  unfold setLast; rw [h]
theorem FSOk.step {ns : List Note} {xs : List Int} {k : Nat} {w w' : FS} {n : Note} {x c : Int} (h : FSOk ns xs k w) (hn : ns[k]? = some n) (hx : xs[k]? = some x) (hc : c = 0 → n.2.2 ≠ none → w.found ≠ []) (e : stStep s p t k n x c w = some w') : FSOk ns xs (k + 1) w' := by
  have mk1 : mkAt ns (k + 1 - 1) = n.2.2 := by simp [mkAt, hn]
  unfold stStep at e
  obtain ⟨lo, hi, m⟩ := n
  cases m with
  | none =>
    have : w' = { w with gone := x } := by
      simp only at e
      cases hl : w.lx with
      | none => rw [hl] at e; simp only at e; exact (Option.some.inj e).symm
      | some y =>
        rw [hl] at e; simp only at e
        split at e
        · cases e
        · exact (Option.some.inj e).symm
    subst this
    exact ⟨fun _ z => absurd mk1 z, h.nil, fun a ha => ⟨(h.last a ha).1, by have := (h.last a ha).2.1; omega, (h.last a ha).2.2⟩⟩
  | some m =>
    simp only at e
    by_cases c0 : c = 0
    · rw [if_pos c0] at e
      cases e
      have ne := hc c0 (by simp)
      obtain ⟨a, ha⟩ : ∃ a, w.found.getLast? = some a := ⟨w.found.getLast ne, List.getLast?_eq_some_getLast ne⟩
      refine ⟨fun _ _ z => ?_, ⟨fun z => (by cases z), fun z => ?_⟩, fun b hb => ?_⟩
      · simp only at z
        rw [setLast_some ha] at z
        simp at z
      · simp only at z
        rw [setLast_some ha] at z
        simp at z
      · simp only at hb
        rw [setLast_some ha, List.getLast?_append] at hb
        simp at hb
        subst hb
        exact ⟨by simp, by simp only; omega, x, rfl, by simpa using hx⟩
    · rw [if_neg c0] at e
      split at e
      · cases e
      · cases e
        refine ⟨fun _ _ z => (by simp at z), ⟨fun z => (by cases z), fun z => (by simp at z)⟩, fun b hb => ?_⟩
        rw [List.getLast?_append] at hb
        simp at hb
        subst hb
        exact ⟨by simp, by simp only; omega, x, rfl, by simpa using hx⟩
end
end Pu.Q
set_option Elab.async false
set_option linter.all false
set_option maxRecDepth 100000
set_option maxHeartbeats 8000000
namespace Pu.Q
open PySem PySem.Spec PyProof.Rows L2 Pu
section
variable {s l p : Int} {t : Str} {Q : RV → Ev → Prop}
theorem mem_cutGo {ns : List Note} {cs : List Int} : ∀ {r i : Nat} {f : List (List Int)}, cs ∈ cutGo ns r i f ↔ ∃ line ∈ f, ∃ tl : List Int, cs = line ++ tl ∧ tl.length = r ∧ ∀ j v, tl[j]? = some v → v = 1 ∨ (v = 0 ∧ joinsB ns (i + j) [] = true)
  | 0, i, f => by
    unfold cutGo
    constructor
    · intro h
      exact ⟨cs, h, [], by simp, rfl, fun j v q => by simp at q⟩
    · rintro ⟨line, h, tl, rfl, h2, _⟩
      rw [List.length_eq_zero_iff.mp h2, List.append_nil]
      exact h
  | r + 1, i, f => by
    unfold cutGo
    rw [mem_cutGo]
    constructor
    · rintro ⟨line, h, tl, rfl, h2, h3⟩
      obtain ⟨l0, h4, h5⟩ := List.mem_flatMap.mp h
      have key : ∃ v, line = l0 ++ [v] ∧ (v = 1 ∨ (v = 0 ∧ joinsB ns i [] = true)) := by
        unfold cutStep at h5
        split at h5
        · rename_i j
          simp only [List.mem_cons, List.not_mem_nil, or_false] at h5
          rcases h5 with rfl | rfl
          · exact ⟨1, rfl, .inl rfl⟩
          · exact ⟨0, rfl, .inr ⟨rfl, j⟩⟩
        · simp only [List.mem_cons, List.not_mem_nil, or_false] at h5
          exact ⟨1, h5, .inl rfl⟩
      obtain ⟨v, rfl, hv⟩ := key
      refine ⟨l0, h4, v :: tl, by simp, by simp [h2], fun j u q => ?_⟩
      cases j with
      | zero => simp at q; subst q; exact hv
      | succ j =>
        have := h3 j u (by simpa using q)
        rwa [show i + 1 + j = i + (j + 1) by omega] at this
    · rintro ⟨line, h, tl, rfl, h2, h3⟩
      cases tl with
      | nil => cases h2
      | cons v tl =>
        refine ⟨line ++ [v], List.mem_flatMap.mpr ⟨line, h, ?_⟩, tl, by simp, by simpa using h2, fun j u q => ?_⟩
        · unfold cutStep
          rcases h3 0 v rfl with rfl | ⟨rfl, j⟩
          · split <;> simp
          · rw [if_pos (by simpa using j)]; simp
        · have := h3 (j + 1) u (by simpa using q)
          rwa [show i + 1 + j = i + (j + 1) by omega]
theorem mem_cuts {ns : List Note} {cs : List Int} : cs ∈ cutsL ns ↔ cs.length = ns.length ∧ ∀ (j : Nat) (v : Int), cs[j]? = some v → v = 1 ∨ (v = 0 ∧ joinsB ns j [] = true) := by
  unfold cutsL
  rw [mem_cutGo]
  constructor
  · rintro ⟨line, h, tl, rfl, h2, h3⟩
    rw [List.mem_singleton] at h
    subst h
    exact ⟨by simpa using h2, fun j v q => by have := h3 j v (by simpa using q); simpa using this⟩
  · rintro ⟨h1, h2⟩
    exact ⟨[], List.mem_singleton.mpr rfl, cs, rfl, h1, fun j v q => by have := h2 j v q; simpa using this⟩
def Mins : List Note → Option Int → List Int → Prop
  | [], _, xs => xs = []
  | n :: r, q, xs => ∃ x xs', xs = x :: xs' ∧ n.1 ≤ x ∧ x ≤ n.2.1 ∧ (∀ y, q = some y → y ≤ x) ∧ Mins r (some x) xs'
theorem Mins.len : ∀ {ns : List Note} {q : Option Int} {xs : List Int}, Mins ns q xs → xs.length = ns.length
  | [], _, _, h => by rw [show _ = _ from h]; rfl
  | n :: r, q, xs, ⟨x, xs', e, _, _, _, h⟩ => by rw [e, List.length_cons, List.length_cons, h.len]
end
end Pu.Q
set_option Elab.async false
set_option linter.all false
set_option maxRecDepth 100000
set_option maxHeartbeats 8000000
namespace Pu.Q
open PySem PySem.Spec PyProof.Rows L2 Pu
section
variable {s l p : Int} {t : Str}
theorem mkAt_get {ns : List Note} {i : Nat} {n : Note} (h : ns[i]? = some n) : mkAt ns i = n.2.2 := by simp [mkAt, h]
theorem joins_same {ns : List Note} {i : Nat} {ap : List Int} (h : joinsB ns i ap = true) : 0 < i ∧ (mkAt ns i).isSome = true ∧ mkAt ns (i - 1) = mkAt ns i := by
  unfold joinsB at h
  simp only [Bool.and_eq_true, decide_eq_true_eq] at h
  exact ⟨h.1.1.1, h.1.2, h.2.symm⟩
theorem joins_here {ns : List Note} {i : Nat} {ap : List Int} (h : joinsB ns i ap = true) : absB ns i = false := by
  obtain ⟨_, h2, h3⟩ := joins_same h
  unfold absB
  rw [h3]
  cases q : mkAt ns i
  · rw [q] at h2; cases h2
  · simp
theorem absB_next {ns : List Note} {i : Nat} {n : Note} (h : ns[i]? = some n) : absB ns (i + 1) = n.2.2.isNone := by
  unfold absB
  rw [Nat.add_sub_cancel, mkAt_get h]
  simp
def goneX (lo now : Int) (last : Option Int) : Int := mx (mx lo now) (match last with
  | none => 0
  | some x => x + 1)
theorem wStep_none {ns : List Note} {ap : List Int} {i : Nat} {lo hi : Int} {w : WS} : wStep s p t ns ap i (lo, hi, none) w = if hi < goneX lo w.now w.last then none else some ⟨goneX lo w.now w.last, w.last, w.beg⟩ := rfl
def begX (s p : Int) (t : Str) (ns : List Note) (i : Nat) (m : Int) (w : WS) : Int := mx (mx 0 (m - high t s)) (leastArr p w.now w.last (absB ns i))
theorem wStep_new {ns : List Note} {ap : List Int} {i : Nat} {lo hi m : Int} {w : WS} (h : joinsB ns i ap = false) : wStep s p t ns ap i (lo, hi, some m) w = if m - low t s < begX s p t ns i m w then none else if hi < mx (mx lo w.now) (begX s p t ns i m w) then none else some ⟨mx (mx lo w.now) (begX s p t ns i m w), some (mx (mx lo w.now) (begX s p t ns i m w)), some (begX s p t ns i m w)⟩ := by
  unfold wStep begX
  simp only [h]
  rfl
theorem wStep_join {ns : List Note} {ap : List Int} {i : Nat} {lo hi m : Int} {w : WS} (h : joinsB ns i ap = true) : wStep s p t ns ap i (lo, hi, some m) w = if hi < mx lo w.now then none else some ⟨mx lo w.now, some (mx lo w.now), w.beg⟩ := by
  unfold wStep
  simp only [h, if_true]
structure Lo (ns : List Note) (i : Nat) (w : WS) (v : FS) (y : Int) : Prop where
  now : w.now ≤ y
  nil : v.lx = none ↔ w.last = none
  last : ∀ a b, w.last = some a → v.lx = some b → a ≤ b
  away : absB ns i = true → w.now ≤ v.gone
theorem lo_step {ns : List Note} {ap : List Int} {i : Nat} {n : Note} {w : WS} {v v' : FS} {x y c : Int} (hi : ns[i]? = some n) (h0 : 0 ≤ n.1) (R : Lo ns i w v y) (h1 : n.1 ≤ x) (h2 : x ≤ n.2.1) (h3 : y ≤ x)
    (hc : c = 0 → n.2.2 ≠ none → joinsB ns i ap = true) (e : stStep s p t i n x c v = some v') : ∃ w', wStep s p t ns ap i n w = some w' ∧ w'.now ≤ x ∧ Lo ns (i + 1) w' v' x := by
  obtain ⟨R1, R2, R3, R4⟩ := R
  have ab := absB_next hi
  obtain ⟨lo, hi_, m⟩ := n
  simp only at h0 h1 h2 ab
  cases m with
  | none =>
    simp only [stStep] at e
    have ev : v' = { v with gone := x } ∧ ∀ b, v.lx = some b → b < x := by
      cases hl : v.lx with
      | none => rw [hl] at e; simp only at e; exact ⟨(Option.some.inj e).symm, fun b z => by cases z⟩
      | some b =>
        rw [hl] at e; simp only at e
        split at e
        · cases e
        · exact ⟨(Option.some.inj e).symm, fun b' z => by cases z; omega⟩
    obtain ⟨ev, lt⟩ := ev
    subst ev
    have le : goneX lo w.now w.last ≤ x := by
      unfold goneX
      rw [mx_eq, mx_eq]
      cases hl : w.last with
      | none => simp only; omega
      | some a =>
        cases hv : v.lx with
        | none => rw [R2.mp hv] at hl; cases hl
        | some b =>
          have := R3 a b hl hv
          have := lt b hv
          simp only; omega
    exact ⟨⟨goneX lo w.now w.last, w.last, w.beg⟩, by rw [wStep_none, if_neg (by omega)], le, ⟨le, R2, R3, fun _ => le⟩⟩
  | some m =>
    simp only [stStep] at e
    have l1 : mx lo w.now ≤ x := by rw [mx_eq]; omega
    have fin : ∀ (z : Int) (b : Option Int) (g : FS), z ≤ x → g.lx = some x → Lo ns (i + 1) ⟨z, some z, b⟩ g x := fun z b g h hg =>
      ⟨h, ⟨fun q => (by rw [hg] at q; cases q), fun q => (by cases q)⟩, fun a b ha hb => (by rw [hg] at hb; cases ha; cases hb; exact h), fun q => (by rw [ab] at q; cases q)⟩
    have vx : v'.lx = some x := by
      split at e
      · cases e; rfl
      · split at e
        · cases e
        · cases e; rfl
    cases hj : joinsB ns i ap with
    | true =>
      exact ⟨⟨mx lo w.now, some (mx lo w.now), w.beg⟩, by rw [wStep_join hj, if_neg (by omega)], l1, fin _ _ _ l1 vx⟩
    | false =>
      have c0 : ¬ c = 0 := fun z => by rw [hc z (by simp)] at hj; cases hj
      rw [if_neg c0] at e
      have ok : stLeast s p t m v ≤ m - low t s ∧ stLeast s p t m v ≤ x := by
        split at e
        · cases e
        · rename_i q
          have : mn (m - low t s) x ≤ m - low t s ∧ mn (m - low t s) x ≤ x := by unfold mn; split <;> omega
          omega
      have bl : begX s p t ns i m w ≤ stLeast s p t m v := by
        unfold begX stLeast leastArr
        rw [mx_eq, mx_eq, mx_eq, mx_eq]
        cases hl : w.last with
        | none =>
          have hv := R2.mpr hl
          rw [hv]
          cases ha : absB ns i with
          | true =>
            have := R4 ha
            simp only [if_true]
            rw [mx_eq]; omega
          | false => simp; omega
        | some a =>
          cases hv : v.lx with
          | none => rw [R2.mp hv] at hl; cases hl
          | some b =>
            have := R3 a b hl hv
            cases ha : absB ns i with
            | true =>
              have := R4 ha
              simp only [if_true]
              rw [mx_eq]; omega
            | false => simp; omega
      have l2 : mx (mx lo w.now) (begX s p t ns i m w) ≤ x := by
        rw [mx_eq (mx lo w.now)]; omega
      exact ⟨⟨mx (mx lo w.now) (begX s p t ns i m w), some (mx (mx lo w.now) (begX s p t ns i m w)), some (begX s p t ns i m w)⟩, by rw [wStep_new hj, if_neg (by omega), if_neg (by omega)], l2, fin _ _ _ l2 vx⟩
theorem lo_go {ns : List Note} {ap : List Int} (h0 : ∀ n ∈ ns, 0 ≤ n.1) : ∀ (rest : List Note) (i : Nat) (w : WS) (v v' : FS) (y : Int) (xs cs : List Int), ns.drop i = rest → Lo ns i w v y → Mins rest (some y) xs → stGo s p t rest xs cs i v = some v' →
    (∀ (j : Nat), cs[j]? = some 0 → joinsB ns (i + j) ap = true) →
    ∃ out, wGo s p t ns ap rest i w = some out ∧ out.length = rest.length ∧ ∀ (j : Nat) (q : Int × Option Int) (x : Int), out[j]? = some q → xs[j]? = some x → q.1 ≤ x := by
  intro rest
  induction rest with
  | nil => intro i w v v' y xs cs _ _ _ _ _; exact ⟨[], rfl, rfl, fun j q x h => by simp at h⟩
  | cons n r ih =>
    intro i w v v' y xs cs hd R M e hc
    obtain ⟨x, xs', rfl, m1, m2, m3, M'⟩ := M
    have hi : ns[i]? = some n := by
      have : (ns.drop i)[0]? = some n := by rw [hd]; rfl
      simpa using this
    cases cs with
    | nil => simp [stGo] at e
    | cons c cs =>
      simp only [stGo] at e
      cases e1 : stStep s p t i n x c v with
      | none => rw [e1] at e; cases e
      | some v1 =>
        rw [e1] at e
        obtain ⟨w1, a1, a2, a3⟩ := lo_step (ap := ap) hi (h0 n (List.mem_of_getElem? hi)) R m1 m2 (m3 y rfl) (fun z _ => by simpa using hc 0 (by rw [z]; rfl)) e1
        obtain ⟨out, b1, b2, b3⟩ := ih (i + 1) w1 v1 v' x xs' cs (by rw [← List.drop_drop, hd]; rfl) a3 M' e (fun j z => by have := hc (j + 1) (by simpa using z); rwa [show i + 1 + j = i + (j + 1) by omega])
        rw [wGo_some a1, b1]
        refine ⟨_, rfl, by rw [List.length_cons, List.length_cons, b2], fun j q x' hq hx => ?_⟩
        cases j with
        | zero =>
          simp only [List.getElem?_cons_zero] at hq hx
          cases hq; cases hx
          exact a2
        | succ j => exact b3 j q x' (by simpa using hq) (by simpa using hx)
theorem Mins.from0 {xs : List Int} : ∀ {ns : List Note}, (∀ n ∈ ns, 0 ≤ n.1) → Mins ns none xs → Mins ns (some 0) xs
  | [], _, h => h
  | n :: r, h0, ⟨x, xs', e, a, b, _, h⟩ => ⟨x, xs', e, a, b, fun y hy => by cases hy; have := h0 n List.mem_cons_self; omega, h⟩
theorem ways_least {ns : List Note} {ap xs cs : List Int} {f : List Stay} (h0 : ∀ n ∈ ns, 0 ≤ n.1) (M : Mins ns none xs) (e : staysL s p t ns xs cs = some f) (hc : ∀ (j : Nat), cs[j]? = some 0 → joinsB ns j ap = true) :
    ∃ out, ways s p t ns ap = some out ∧ out.length = ns.length ∧ ∀ (j : Nat) (q : Int × Option Int) (x : Int), out[j]? = some q → xs[j]? = some x → q.1 ≤ x := by
  unfold staysL at e
  cases e1 : stGo s p t ns xs cs 0 fs0 with
  | none => rw [e1] at e; cases e
  | some v' => exact lo_go h0 ns 0 w0 fs0 v' 0 xs cs rfl ⟨Int.le_refl _, Iff.rfl.trans (by simp), fun a b z => (by cases z), fun z => by simp [absB] at z⟩ (M.from0 h0) e1 fun j z => by rw [Nat.zero_add]; exact hc j z
structure Eqs (ns : List Note) (p : Int) (i : Nat) (w : WS) (v : FS) : Prop where
  last : v.lx = w.last
  away : absB ns i = true → v.gone = w.now
  mid : absB ns i = false → v.gone + 1 ≤ (match w.last with
    | none => 0
    | some a => a + p)
  there : 0 < i → mkAt ns (i - 1) ≠ none → w.last = some w.now
def cutOf (ns : List Note) (ap : List Int) (i : Nat) : Int := if joinsB ns i ap = true then 0 else 1
theorem eq_step {ns : List Note} {ap : List Int} {i : Nat} {n : Note} {w w' : WS} {v : FS} (hp : 1 ≤ p) (hi : ns[i]? = some n) (R : Eqs ns p i w v) (e : wStep s p t ns ap i n w = some w') :
    ∃ v', stStep s p t i n w'.now (cutOf ns ap i) v = some v' ∧ Eqs ns p (i + 1) w' v' ∧ n.1 ≤ w'.now ∧ w'.now ≤ n.2.1 ∧ w.now ≤ w'.now := by
  obtain ⟨R1, R2, R3, R4⟩ := R
  have ab := absB_next hi
  have mk := mkAt_get hi
  obtain ⟨lo, hi_, m⟩ := n
  simp only at ab mk
  cases m with
  | none =>
    rw [wStep_none] at e
    by_cases q : hi_ < goneX lo w.now w.last
    · rw [if_pos q] at e; cases e
    · rw [if_neg q] at e
      cases e
      have g : ∀ a, w.last = some a → a < goneX lo w.now w.last := fun a ha => by unfold goneX; rw [ha, mx_eq]; simp only; omega
      have g2 : lo ≤ goneX lo w.now w.last ∧ w.now ≤ goneX lo w.now w.last := by unfold goneX; rw [mx_eq, mx_eq]; omega
      refine ⟨{ v with gone := goneX lo w.now w.last }, ?_, ⟨R1, fun _ => rfl, fun z => (by rw [ab] at z; cases z), fun _ z => (by rw [Nat.add_sub_cancel, mk] at z; exact absurd rfl z)⟩, g2.1, (by simp only; omega), g2.2⟩
      simp only [stStep, R1]
      cases hl : w.last with
      | none => rfl
      | some a =>
        have := g a hl
        rw [hl] at this
        simp only
        rw [if_neg (by omega)]
  | some m =>
    unfold cutOf
    cases hj : joinsB ns i ap with
    | true =>
      rw [wStep_join hj] at e
      by_cases q : hi_ < mx lo w.now
      · rw [if_pos q] at e; cases e
      · rw [if_neg q] at e
        cases e
        obtain ⟨j1, j2, j3⟩ := joins_same hj
        have ja := joins_here hj
        have m3 := R3 ja
        have lw : w.last = some w.now := R4 j1 (by rw [j3, mk]; simp)
        rw [lw] at m3
        have : w.now ≤ mx lo w.now ∧ lo ≤ mx lo w.now := by rw [mx_eq]; omega
        refine ⟨_, by simp only [stStep, if_true]; rfl, ⟨rfl, fun z => (by rw [ab] at z; cases z), fun _ => ?_, fun _ _ => rfl⟩, this.2, by simp only; omega, this.1⟩
        simp only at m3 ⊢
        omega
    | false =>
      rw [wStep_new hj] at e
      by_cases q1 : m - low t s < begX s p t ns i m w
      · rw [if_pos q1] at e; cases e
      · rw [if_neg q1] at e
        by_cases q2 : hi_ < mx (mx lo w.now) (begX s p t ns i m w)
        · rw [if_pos q2] at e; cases e
        · rw [if_neg q2] at e
          cases e
          have bl : stLeast s p t m v = begX s p t ns i m w := by
            unfold stLeast begX leastArr
            rw [R1]
            cases ha : absB ns i with
            | true =>
              have r2 := R2 ha
              cases hl : w.last with
              | none =>
                simp only [if_true, mx_eq]
                omega
              | some a =>
                simp only [if_true, mx_eq]
                omega
            | false =>
              have r3 := R3 ha
              cases hl : w.last with
              | none =>
                rw [hl] at r3
                simp only [Bool.false_eq_true, if_false, mx_eq] at r3 ⊢
                omega
              | some a =>
                rw [hl] at r3
                simp only [Bool.false_eq_true, if_false, mx_eq] at r3 ⊢
                omega
          have g1 : begX s p t ns i m w ≤ mx (mx lo w.now) (begX s p t ns i m w) := by rw [mx_eq (mx lo w.now)]; omega
          have g2 : lo ≤ mx (mx lo w.now) (begX s p t ns i m w) ∧ w.now ≤ mx (mx lo w.now) (begX s p t ns i m w) := by rw [mx_eq (mx lo w.now), mx_eq lo]; omega
          have g3 : v.gone + 1 ≤ stLeast s p t m v := by unfold stLeast; rw [mx_eq]; omega
          refine ⟨⟨v.found ++ [((i : Int), (i : Int), begX s p t ns i m w, mn (m - low t s) (mx (mx lo w.now) (begX s p t ns i m w)))], v.gone, some (mx (mx lo w.now) (begX s p t ns i m w))⟩, ?_, ⟨rfl, fun z => (by rw [ab] at z; cases z), fun _ => ?_, fun _ _ => rfl⟩, g2.1, (by simp only; omega), g2.2⟩
          rotate_left
          · simp only
            omega
          · simp only [stStep]
            rw [if_neg (show ¬ (if false = true then (0 : Int) else 1) = 0 by decide), bl, if_neg (by unfold mn; split <;> omega)]
theorem eq_go {ns : List Note} {ap : List Int} (hp : 1 ≤ p) : ∀ (rest : List Note) (i : Nat) (w : WS) (v : FS) (out : List (Int × Option Int)), ns.drop i = rest → Eqs ns p i w v → wGo s p t ns ap rest i w = some out →
    (∃ v', stGo s p t rest (out.map (·.1)) ((List.range' i rest.length).map (cutOf ns ap)) i v = some v') ∧ Mins rest (some w.now) (out.map (·.1)) := by
  intro rest
  induction rest with
  | nil => intro i w v out _ _ e; simp [wGo] at e; subst e; exact ⟨⟨v, rfl⟩, rfl⟩
  | cons n r ih =>
    intro i w v out hd R e
    have hi : ns[i]? = some n := by
      have : (ns.drop i)[0]? = some n := by rw [hd]; rfl
      simpa using this
    cases e1 : wStep s p t ns ap i n w with
    | none => rw [wGo_none e1] at e; cases e
    | some w1 =>
      rw [wGo_some e1] at e
      obtain ⟨v1, a1, a2, a3, a4, a5⟩ := eq_step hp hi R e1
      cases e2 : wGo s p t ns ap r (i + 1) w1 with
      | none => rw [e2] at e; cases e
      | some o2 =>
        rw [e2] at e
        cases e
        obtain ⟨⟨v', b1⟩, b2⟩ := ih (i + 1) w1 v1 o2 (by rw [← List.drop_drop, hd]; rfl) a2 e2
        refine ⟨⟨v', ?_⟩, w1.now, o2.map (·.1), rfl, a3, a4, fun y hy => by cases hy; exact a5, b2⟩
        rw [List.length_cons, List.range'_succ, List.map_cons, List.map_cons]
        simp only [stGo]
        rw [a1]
        exact b1
theorem Mins.weak {xs : List Int} {q : Option Int} : ∀ {ns : List Note}, Mins ns q xs → Mins ns none xs
  | [], h => h
  | n :: r, ⟨x, xs', e, a, b, _, h⟩ => ⟨x, xs', e, a, b, fun y hy => (by cases hy), h⟩
def cutsOf (ns : List Note) (ap : List Int) : List Int := (List.range ns.length).map (cutOf ns ap)
theorem cutsOf_mem {ns : List Note} {ap : List Int} : cutsOf ns ap ∈ cutsL ns := by
  refine mem_cuts.mpr ⟨by simp [cutsOf], fun j v h => ?_⟩
  unfold cutsOf at h
  rw [List.getElem?_map] at h
  by_cases hj : j < ns.length
  · rw [List.getElem?_range hj] at h
    have h : cutOf ns ap j = v := by simpa using h
    unfold cutOf at h
    split at h
    · rename_i q
      right
      refine ⟨h.symm, ?_⟩
      unfold joinsB at q ⊢
      simp only [Bool.and_eq_true, decide_eq_true_eq] at q
      simp only [Bool.and_eq_true, decide_eq_true_eq]
      exact ⟨⟨⟨q.1.1.1, by simp⟩, q.1.2⟩, q.2⟩
    · exact .inl h.symm
  · rw [List.getElem?_eq_none (by simpa using hj)] at h
    cases h
theorem ways_fit {ns : List Note} {ap : List Int} {out : List (Int × Option Int)} (hp : 1 ≤ p) (e : ways s p t ns ap = some out) :
    ∃ f, staysL s p t ns (out.map (·.1)) (cutsOf ns ap) = some f ∧ Mins ns none (out.map (·.1)) := by
  obtain ⟨⟨v', b1⟩, b2⟩ := eq_go (s := s) (t := t) hp ns 0 w0 fs0 out rfl ⟨rfl, fun z => by simp [absB] at z, fun _ => by show (-1 : Int) + 1 ≤ 0; decide, fun z => by omega⟩ e
  refine ⟨v'.found, ?_, b2.weak⟩
  unfold staysL cutsOf
  rw [List.range_eq_range', b1]
  rfl
end
end Pu.Q
set_option Elab.async false
set_option linter.all false
set_option maxRecDepth 100000
set_option maxHeartbeats 8000000
namespace Pu.Q
open PySem PySem.Spec PyProof.Rows L2 Pu
section
variable {s l p : Int} {t : Str} {Q : RV → Ev → Prop}
structure RowN (g w : Int) (n : Note) : Prop where
  lo : 0 ≤ n.1 ∧ n.1 ≤ 10000
  hi : n.1 ≤ n.2.1 ∧ n.2.1 < n.1 + w
  mar : ∀ m, n.2.2 = some m → 0 ≤ m ∧ m ≤ 20000 ∧ m % g = 0
end
end Pu.Q
set_option Elab.async false
set_option linter.all false
set_option maxRecDepth 100000
set_option maxHeartbeats 8000000
namespace Pu.Q
open PySem PySem.Spec PyProof.Rows L2 Pu
section
variable {s l p : Int} {t : Str} {Q : RV → Ev → Prop}
abbrev Fine := Int × Int
def Asc : Int → Int → List Fine → Prop
  | _, _, [] => True
  | lo, low, q :: r => lo ≤ q.1 ∧ low ≤ q.2 ∧ Asc (q.1 + 1) q.2 r
theorem Asc.weak : ∀ {fs : List Fine} {lo lo' low low' : Int}, Asc lo low fs → lo' ≤ lo → low' ≤ low → Asc lo' low' fs
  | [], _, _, _, _, _, _, _ => trivial
  | q :: r, _, _, _, _, ⟨a, b, c⟩, h1, h2 => ⟨by omega, by omega, c⟩
def setB (acc : List (Int × Int)) (k : Int) : List (Int × Int) := match acc.getLast? with
  | none => acc
  | some a => acc.dropLast ++ [(a.1, k)]
theorem setB_some {acc : List (Int × Int)} {a : Int × Int} {k : Int} : setB (acc ++ [a]) k = acc ++ [(a.1, k)] := by
  unfold setB
  simp
end
end Pu.Q
set_option Elab.async false
set_option linter.all false
set_option maxRecDepth 100000
set_option maxHeartbeats 8000000
namespace Pu.Q
open PySem PySem.Spec PyProof.Rows L2 Pu
section
variable {s l p : Int} {t : Str} {Q : RV → Ev → Prop}
def lastGo : List Note → List Int → Nat → List Int → List Int
  | [], _, _, acc => acc
  | n :: r, c :: cs, k, acc => lastGo r cs (k + 1) (match n.2.2 with
    | none => acc
    | some _ => if c = 0 then acc.dropLast ++ [(k : Int)] else acc ++ [(k : Int)])
  | _ :: _, [], _, acc => acc
theorem last_none {n : Note} {r : List Note} {c : Int} {cs : List Int} {k : Nat} {acc : List Int} (h : n.2.2 = none) : lastGo (n :: r) (c :: cs) k acc = lastGo r cs (k + 1) acc := by simp only [lastGo, h]
theorem last_zero {n : Note} {r : List Note} {cs : List Int} {k : Nat} {acc : List Int} {m : Int} (h : n.2.2 = some m) : lastGo (n :: r) (0 :: cs) k acc = lastGo r cs (k + 1) (acc.dropLast ++ [(k : Int)]) := by simp only [lastGo, h, if_true]
theorem last_one {n : Note} {r : List Note} {c : Int} {cs : List Int} {k : Nat} {acc : List Int} {m : Int} (h : n.2.2 = some m) (hc : c ≠ 0) : lastGo (n :: r) (c :: cs) k acc = lastGo r cs (k + 1) (acc ++ [(k : Int)]) := by simp only [lastGo, h, if_neg hc]
theorem setLast_map {f : List Stay} {k : Int} (h : f ≠ []) : (setLast f k).map (·.2.1) = (f.map (·.2.1)).dropLast ++ [k] := by
  obtain ⟨a, ha⟩ : ∃ a, f.getLast? = some a := ⟨f.getLast h, List.getLast?_eq_some_getLast h⟩
  rw [setLast_some ha, List.map_append, List.map_dropLast]
  rfl
theorem drop_head {ns r : List Note} {n : Note} {i : Nat} (hd : ns.drop i = n :: r) : ns[i]? = some n ∧ ns.drop (i + 1) = r := by
  constructor
  · have : (ns.drop i)[0]? = some n := by rw [hd]; rfl
    simpa using this
  · rw [← List.drop_drop, hd]; rfl
theorem st_lasts {ns : List Note} : ∀ (rest : List Note) (i : Nat) (xs cs : List Int) (w w' : FS), ns.drop i = rest → (0 < i → mkAt ns (i - 1) ≠ none → w.found ≠ []) → (∀ j, cs[j]? = some 0 → joinsB ns (i + j) [] = true) →
    stGo s p t rest xs cs i w = some w' → w'.found.map (·.2.1) = lastGo rest cs i (w.found.map (·.2.1))
  | [], i, xs, cs, w, w', _, _, _, e => by simp only [stGo] at e; cases e; rfl
  | n :: r, i, [], cs, w, w', _, _, _, e => by simp [stGo] at e
  | n :: r, i, x :: xs, [], w, w', _, _, _, e => by simp [stGo] at e
  | n :: r, i, x :: xs, c :: cs, w, w', hd, hp, hz, e => by
    obtain ⟨hi, hr⟩ := drop_head hd
    have mk := mkAt_get hi
    simp only [stGo] at e
    cases e1 : stStep s p t i n x c w with
    | none => rw [e1] at e; cases e
    | some w1 =>
      rw [e1] at e
      have ih := st_lasts r (i + 1) xs cs w1 w' hr
      have hz' : ∀ j, cs[j]? = some 0 → joinsB ns (i + 1 + j) [] = true := fun j z => by have := hz (j + 1) (by simpa using z); rwa [show i + 1 + j = i + (j + 1) by omega]
      obtain ⟨lo, hi_, m⟩ := n
      cases m with
      | none =>
        rw [last_none rfl]
        have ef : w1.found = w.found := by
          simp only [stStep] at e1
          split at e1
          · cases e1; rfl
          · split at e1
            · cases e1
            · cases e1; rfl
        rw [← ef]
        exact ih (fun _ z => absurd (by rw [Nat.add_sub_cancel]; exact mk) z) hz' e
      | some m =>
        simp only [stStep] at e1
        by_cases c0 : c = 0
        · rw [if_pos c0] at e1
          cases e1
          subst c0
          obtain ⟨j1, j2, j3⟩ := joins_same (hz 0 rfl)
          have ne := hp j1 (by rw [show i + 0 = i from rfl] at j3; rw [j3, mk]; simp)
          rw [last_zero rfl, ← setLast_map ne]
          refine ih (fun _ _ z => ?_) hz' e
          have := congrArg (List.map (·.2.1)) z
          simp only at this
          rw [setLast_map ne] at this
          simp at this
        · rw [if_neg c0] at e1
          split at e1
          · cases e1
          · cases e1
            rw [last_one rfl c0]
            have := ih (fun _ _ z => by simp at z) hz' e
            rw [this, List.map_append]
            rfl
theorem last_ok {ns : List Note} : ∀ (rest : List Note) (i : Nat) (cs L : List Int), ns.drop i = rest → (∀ a ∈ L, 0 ≤ a ∧ ∃ m, mkAt ns a.toNat = some m) → ∀ a ∈ lastGo rest cs i L, 0 ≤ a ∧ ∃ m, mkAt ns a.toNat = some m
  | [], i, cs, L, _, h => by simpa only [lastGo] using h
  | n :: r, i, [], L, _, h => by simpa only [lastGo] using h
  | n :: r, i, c :: cs, L, hd, h => by
    obtain ⟨hi, hr⟩ := drop_head hd
    have mk := mkAt_get hi
    have ih := fun L => last_ok r (i + 1) cs L hr
    cases hm : n.2.2 with
    | none => rw [last_none hm]; exact ih L h
    | some m =>
      have hk : 0 ≤ (i : Int) ∧ ∃ m, mkAt ns (i : Int).toNat = some m := ⟨by omega, m, by rw [Int.toNat_natCast, mk, hm]⟩
      by_cases c0 : c = 0
      · rw [c0, last_zero hm]
        refine ih _ fun a ha => ?_
        rcases List.mem_append.mp ha with q | q
        · exact h a ((List.dropLast_sublist L).subset q)
        · rw [List.mem_singleton.mp q]; exact hk
      · rw [last_one hm c0]
        refine ih _ fun a ha => ?_
        rcases List.mem_append.mp ha with q | q
        · exact h a q
        · rw [List.mem_singleton.mp q]; exact hk
theorem fit_lasts {ns : List Note} {xs cs : List Int} {f : List Stay} (hc : cs ∈ cutsL ns) (e : staysL s p t ns xs cs = some f) : f.map (·.2.1) = lastGo ns cs 0 [] := by
  unfold staysL at e
  cases e1 : stGo s p t ns xs cs 0 fs0 with
  | none => rw [e1] at e; cases e
  | some w' =>
    rw [e1] at e
    cases e
    exact st_lasts ns 0 xs cs fs0 w' rfl (fun z => by omega) (fun j z => by
      rcases (mem_cuts.mp hc).2 j 0 z with q | q
      · cases q
      · simpa using q.2) e1
end
end Pu.Q
set_option Elab.async false
set_option linter.all false
set_option maxRecDepth 100000
set_option maxHeartbeats 8000000
namespace Pu.Q
open PySem PySem.Spec PyProof.Rows L2 Pu
section
variable {s l p : Int} {t : Str} {Q : RV → Ev → Prop}
theorem ok_aug {i : Nat} {f : Val → Val → M RV} {m : M RV} {e : Ev} {Q : Out → Ev → Prop} : Ok (mAug i f m) e Q ↔ Ok (mVar i) e fun r e1 => match r with
    | .dat v => Ok m e1 fun s e2 => Ok (M.rd s) e2 fun w e3 => Ok (f v w) e3 fun z e4 => match z with
      | .dat v' => Q .nx (e4.set i (.dat v'))
      | _ => False
    | _ => False := by
  unfold mAug
  rw [ok_bind]
  refine Ok.iffQ fun r e1 => ?_
  cases r with
  | dat v =>
    simp only
    rw [ok_bind]
    refine Ok.iffQ fun s e2 => ?_
    rw [ok_bind]
    refine Ok.iffQ fun w e3 => ?_
    rw [ok_bind]
    refine Ok.iffQ fun z e4 => ?_
    cases z with
    | dat v' => exact Iff.rfl
    | tmp v' => simp only [ok_bad]
    | bor j => simp only [ok_bad]
  | tmp v => simp only [ok_bad]
  | bor j => simp only [ok_bad]
theorem noteB_of' {n : Note} (h1 : 0 ≤ n.1) (h2 : n.1 ≤ n.2.1) (h3 : n.2.1 ≤ Mx) (hm : ∀ m, n.2.2 = some m → (0 ≤ m ∧ m ≤ Mx) ∧ m % s = 0) : noteB s n = true := by
  unfold noteB
  obtain ⟨lo, hi, m⟩ := n
  simp only at h1 h2 h3 hm ⊢
  have e1 : decide (0 ≤ lo ∧ lo ≤ Mx) = true := decide_eq_true ⟨h1, Int.le_trans h2 h3⟩
  have e2 : decide (0 ≤ hi ∧ hi ≤ Mx) = true := decide_eq_true ⟨Int.le_trans h1 h2, h3⟩
  rw [e1, e2, decide_eq_true h2]
  cases m with
  | none => rfl
  | some m =>
    have := hm m rfl
    simp only [markB, Bool.true_and]
    simp [this.1.1, this.1.2, this.2]
theorem RowN.noteB {g : Int} {n : Note} {w : Int} (h : RowN g w n) (hg : 0 < g) (hw : w ≤ 1000) : noteB g n = true := by
  have h1 := h.lo
  have h2 := h.hi
  refine noteB_of' (by omega) (by omega) ?_ fun m hm => ?_
  · have : n.2.1 ≤ 20000 := by omega
    exact Int.le_trans this (by decide)
  · have := h.mar m hm
    exact ⟨⟨by omega, Int.le_trans this.2.1 (by decide)⟩, this.2.2⟩
end
end Pu.Q
set_option Elab.async false
set_option linter.all false
set_option maxRecDepth 100000
set_option maxHeartbeats 8000000
set_option Elab.async false
set_option linter.all false
set_option maxRecDepth 100000
set_option maxHeartbeats 8000000
namespace Pu.Q
open PySem PySem.Spec PyProof.Rows L2 Pu
def Rs {α : Type} (m : M α) (e : Ev) (P : Val → Ev → Prop) : Prop := match m e with
  | .rs x e' => P x e'
  | _ => False
section
variable {α β : Type} {m : M α} {e : Ev} {P : Val → Ev → Prop} {a b : S}
theorem rs_ex_iff : Rs m e P ↔ ∃ x e', m e = .rs x e' ∧ P x e' := by
  unfold Rs
  cases h : m e with
  | rs x e' => exact ⟨fun z => ⟨x, e', rfl, z⟩, fun ⟨b, f, z, y⟩ => by cases z; exact y⟩
  | _ => exact ⟨fun z => z.elim, fun ⟨b, f, z, y⟩ => nomatch z⟩
theorem Rs.mono {P' : Val → Ev → Prop} (h : Rs m e P) (k : ∀ x e', P x e' → P' x e') : Rs m e P' := by
  obtain ⟨x, e', h1, h2⟩ := rs_ex_iff.mp h
  exact rs_ex_iff.mpr ⟨x, e', h1, k _ _ h2⟩
end
end Pu.Q
set_option Elab.async false
set_option linter.all false
set_option maxRecDepth 100000
set_option maxHeartbeats 1000000
set_option Elab.async false
set_option linter.all false
set_option maxRecDepth 100000
set_option maxHeartbeats 8000000
set_option Elab.async false
set_option linter.all false
set_option maxRecDepth 100000
set_option maxHeartbeats 8000000
set_option Elab.async false
set_option linter.all false
set_option maxRecDepth 100000
set_option maxHeartbeats 8000000
namespace Pu.Q
open PySem PySem.Spec PyProof.Rows L2 Pu
section
variable {s l p : Int} {t : Str} {Q : RV → Ev → Prop}
theorem isDs_of : ∀ {vs : List Val}, (∀ v ∈ vs, isD v = true) → isDs vs = true
  | [], _ => rfl
  | v :: vs, h => by rw [isDs, h v List.mem_cons_self, isDs_of fun u hu => h u (List.mem_cons_of_mem _ hu)]; rfl
theorem deps_of {k : Nat} : ∀ {vs : List Val}, (∀ v ∈ vs, dep v ≤ k) → deps vs ≤ k
  | [], _ => Nat.zero_le _
  | v :: vs, h => by
    rw [deps]
    have h1 := h v List.mem_cons_self
    have h2 := deps_of fun u hu => h u (List.mem_cons_of_mem _ hu)
    omega
theorem nbs_of : ∀ {vs : List Val}, (∀ v ∈ vs, nb v = true) → nbs vs = true
  | [], _ => rfl
  | v :: vs, h => by rw [nbs, h v List.mem_cons_self, nbs_of fun u hu => h u (List.mem_cons_of_mem _ hu)]; rfl
structure Pl (k : Nat) (v : Val) : Prop where
  d : isD v = true
  h : dep v ≤ k
  b : nb v = true
theorem Pl.int {i : Int} : Pl 0 (.int i) := ⟨rfl, Nat.le_refl _, rfl⟩
theorem Pl.lst {k : Nat} {vs : List Val} (h : ∀ v ∈ vs, Pl k v) : Pl (k + 1) (.lst vs) := by
  have := deps_of fun v hv => (h v hv).h
  exact ⟨by rw [isD]; exact isDs_of fun v hv => (h v hv).d, by rw [dep]; omega, by rw [nb]; exact nbs_of fun v hv => (h v hv).b⟩
theorem Pl.tup {k : Nat} {vs : List Val} (h : ∀ v ∈ vs, Pl k v) : Pl (k + 1) (.tup vs) := by
  have := deps_of fun v hv => (h v hv).h
  exact ⟨by rw [isD]; exact isDs_of fun v hv => (h v hv).d, by rw [dep]; omega, by rw [nb]; exact nbs_of fun v hv => (h v hv).b⟩
end
end Pu.Q
set_option Elab.async false
set_option linter.all false
set_option maxRecDepth 100000
set_option maxHeartbeats 8000000
set_option Elab.async false
set_option linter.all false
set_option maxRecDepth 100000
set_option maxHeartbeats 8000000
namespace Pu.Q
open PySem PySem.Spec PyProof.Rows L2 Pu
section
variable {s l p : Int} {t : Str} {Q : RV → Ev → Prop}
def pr (a : Stay) : Int × Int := (a.1, a.2.1)
def bkGo : List Note → List Int → Nat → List (Int × Int) → List (Int × Int)
  | n :: r, c :: cs, k, acc => match n.2.2 with
    | none => bkGo r cs (k + 1) acc
    | some _ => if c = 0 then bkGo r cs (k + 1) (setB acc (k : Int)) else bkGo r cs (k + 1) (acc ++ [((k : Int), (k : Int))])
  | _, _, _, acc => acc
theorem setLast_pr {f : List Stay} {k : Int} : (setLast f k).map pr = setB (f.map pr) k := by
  rcases List.eq_nil_or_concat f with z | ⟨g, a, z⟩
  · subst z; rfl
  · rw [List.concat_eq_append] at z
    subst z
    rw [setLast_some (a := a) (by simp), List.dropLast_concat, List.map_append, List.map_append]
    exact (setB_some (acc := g.map pr) (a := pr a) (k := k)).symm
theorem st_pairs : ∀ (rest : List Note) (i : Nat) (xs cs : List Int) (w w' : FS), stGo s p t rest xs cs i w = some w' → w'.found.map pr = bkGo rest cs i (w.found.map pr)
  | [], i, xs, cs, w, w', e => by simp only [stGo] at e; cases e; rfl
  | n :: r, i, [], cs, w, w', e => by simp [stGo] at e
  | n :: r, i, x :: xs, [], w, w', e => by simp [stGo] at e
  | n :: r, i, x :: xs, c :: cs, w, w', e => by
    simp only [stGo] at e
    cases e1 : stStep s p t i n x c w with
    | none => rw [e1] at e; cases e
    | some w1 =>
      rw [e1] at e
      have ih := st_pairs r (i + 1) xs cs w1 w' e
      obtain ⟨lo, hi_, m⟩ := n
      cases m with
      | none =>
        have ef : w1.found = w.found := by
          simp only [stStep] at e1
          split at e1
          · cases e1; rfl
          · split at e1
            · cases e1
            · cases e1; rfl
        rw [ef] at ih
        exact ih
      | some m =>
        simp only [stStep] at e1
        simp only [bkGo]
        by_cases c0 : c = 0
        · rw [if_pos c0] at e1 ⊢
          cases e1
          rw [ih]
          simp only
          rw [setLast_pr]
        · rw [if_neg c0] at e1 ⊢
          split at e1
          · cases e1
          · cases e1
            rw [ih, List.map_append]
            rfl
def cutAt (ns : List Note) (cs : List Int) (i : Nat) : Bool := (mkAt ns i).isSome && decide (cs.getD i 1 ≠ 0)
def cntTo (ns : List Note) (cs : List Int) : Nat → Nat
  | 0 => 0
  | n + 1 => cntTo ns cs n + (if cutAt ns cs n = true then 1 else 0)
theorem cutN_mono {ns : List Note} {cs : List Int} {i : Nat} : ∀ {j : Nat}, i ≤ j → cntTo ns cs i ≤ cntTo ns cs j := fun {j} => by
  induction j with
  | zero => intro h; rw [Nat.le_zero.mp h]; exact Nat.le_refl _
  | succ j ih =>
    intro h
    by_cases e : i = j + 1
    · rw [e]; exact Nat.le_refl _
    · have := ih (by omega)
      simp only [cntTo]
      omega
theorem cutN_eq {ns : List Note} {cs : List Int} {i : Nat} : ∀ {j : Nat}, i ≤ j → (cntTo ns cs i = cntTo ns cs j ↔ ∀ a, i ≤ a → a < j → cutAt ns cs a = false) := fun {j} => by
  induction j with
  | zero => intro h; rw [Nat.le_zero.mp h]; exact ⟨fun _ a _ h2 => by omega, fun _ => rfl⟩
  | succ j ih =>
    intro h
    by_cases e : i = j + 1
    · rw [e]; exact ⟨fun _ a h1 h2 => by omega, fun _ => rfl⟩
    · have ih := ih (by omega)
      have m := cutN_mono (ns := ns) (cs := cs) (show i ≤ j by omega)
      simp only [cntTo]
      constructor
      · intro z a h1 h2
        by_cases ea : a = j
        · subst ea
          cases c : cutAt ns cs a with
          | false => rfl
          | true => rw [c] at z; simp at z; omega
        · exact ih.mp (by omega) a h1 (by omega)
      · intro z
        rw [z j (by omega) (by omega), ih.mpr fun a h1 h2 => z a h1 (by omega)]
        simp
structure BK (ns : List Note) (cs : List Int) (n : Nat) (ps : List (Int × Int)) : Prop where
  len : ps.length = cntTo ns cs n
  at_ : ∀ (i : Nat) (a b : Int), ps[i]? = some (a, b) → 0 ≤ a ∧ a ≤ b ∧ b < n ∧ ∀ k : Nat, k < n → (mkAt ns k).isSome = true → ((a ≤ k ∧ (k : Int) ≤ b) ↔ i + 1 = cntTo ns cs (k + 1))
  last : 0 < n → (mkAt ns (n - 1)).isSome = true → ∃ g a, ps = g ++ [(a, (n : Int) - 1)]
theorem bk_none {ns : List Note} {cs : List Int} {n : Nat} {ps : List (Int × Int)} (B : BK ns cs n ps) (h : mkAt ns n = none) : BK ns cs (n + 1) ps := by
  have c : cutAt ns cs n = false := by unfold cutAt; rw [h]; rfl
  refine ⟨by rw [B.len]; simp [cntTo, c], fun i a b e => ?_, fun _ z => ?_⟩
  · obtain ⟨h1, h2, h3, h4⟩ := B.at_ i a b e
    refine ⟨h1, h2, by omega, fun k hk mk => h4 k ?_ mk⟩
    refine Nat.lt_of_le_of_ne (by omega) fun z => ?_
    rw [z, h] at mk; cases mk
  · rw [Nat.add_sub_cancel, h] at z; cases z
theorem bk_cut {ns : List Note} {cs : List Int} {n : Nat} {ps : List (Int × Int)} (B : BK ns cs n ps) (h : (mkAt ns n).isSome = true) (hc : cs.getD n 1 ≠ 0) : BK ns cs (n + 1) (ps ++ [((n : Int), (n : Int))]) := by
  have c : cutAt ns cs n = true := by unfold cutAt; rw [h, decide_eq_true hc]; rfl
  have cn : cntTo ns cs (n + 1) = cntTo ns cs n + 1 := by simp [cntTo, c]
  refine ⟨by rw [List.length_append, B.len, cn]; rfl, fun i a b e => ?_, fun _ _ => ⟨ps, n, by simp⟩⟩
  by_cases hi : i < ps.length
  · rw [List.getElem?_append_left hi] at e
    obtain ⟨h1, h2, h3, h4⟩ := B.at_ i a b e
    refine ⟨h1, h2, by omega, fun k hk mk => ?_⟩
    by_cases kn : k = n
    · subst kn
      rw [cn, ← B.len]
      exact ⟨fun z => by omega, fun z => by omega⟩
    · exact h4 k (by omega) mk
  · have hi2 : i = ps.length := by
      have := (List.getElem?_eq_some_iff.mp e).1
      rw [List.length_append, List.length_singleton] at this
      omega
    subst hi2
    rw [List.getElem?_append_right (Nat.le_refl _), Nat.sub_self] at e
    cases e
    refine ⟨by omega, by omega, by omega, fun k hk mk => ?_⟩
    by_cases kn : k = n
    · subst kn
      rw [cn, ← B.len]
      exact ⟨fun _ => rfl, fun _ => ⟨by omega, by omega⟩⟩
    · have := cutN_mono (ns := ns) (cs := cs) (show k + 1 ≤ n by omega)
      rw [B.len]
      exact ⟨fun z => by omega, fun z => by omega⟩
theorem bk_join {ns : List Note} {cs : List Int} {n : Nat} {ps : List (Int × Int)} (B : BK ns cs n ps) (h : (mkAt ns n).isSome = true) (hc : cs.getD n 1 = 0) (h0 : 0 < n) (hp : (mkAt ns (n - 1)).isSome = true) : BK ns cs (n + 1) (setB ps (n : Int)) := by
  have c : cutAt ns cs n = false := by unfold cutAt; rw [decide_eq_false (fun z => z hc), Bool.and_false]
  have cn : cntTo ns cs (n + 1) = cntTo ns cs n := by simp [cntTo, c]
  obtain ⟨g, a0, rfl⟩ := B.last h0 hp
  rw [setB_some]
  simp only
  have L := B.len
  rw [List.length_append, List.length_singleton] at L
  refine ⟨by rw [List.length_append, List.length_singleton, cn, L], fun i a b e => ?_, fun _ _ => ⟨g, a0, by simp⟩⟩
  by_cases hi : i < g.length
  · rw [List.getElem?_append_left hi] at e
    obtain ⟨h1, h2, h3, h4⟩ := B.at_ i a b (by rw [List.getElem?_append_left hi]; exact e)
    refine ⟨h1, h2, by omega, fun k hk mk => ?_⟩
    by_cases kn : k = n
    · subst kn
      rw [cn, ← L]
      exact ⟨fun z => by omega, fun z => by omega⟩
    · exact h4 k (by omega) mk
  · have hi2 : i = g.length := by
      have := (List.getElem?_eq_some_iff.mp e).1
      rw [List.length_append, List.length_singleton] at this
      omega
    subst hi2
    rw [List.getElem?_append_right (Nat.le_refl _), Nat.sub_self] at e
    cases e
    obtain ⟨h1, h2, h3, h4⟩ := B.at_ g.length a0 ((n : Int) - 1) (by rw [List.getElem?_append_right (Nat.le_refl _), Nat.sub_self]; rfl)
    refine ⟨h1, by omega, by omega, fun k hk mk => ?_⟩
    by_cases kn : k = n
    · subst kn
      rw [cn, ← L]
      exact ⟨fun _ => rfl, fun _ => ⟨by omega, by omega⟩⟩
    · rw [← h4 k (by omega) mk]
      exact ⟨fun z => ⟨z.1, by omega⟩, fun z => ⟨z.1, by omega⟩⟩
theorem bk_go {ns : List Note} {cs : List Int} (hl : cs.length = ns.length) (hz : ∀ j, cs[j]? = some 0 → joinsB ns j [] = true) : ∀ (rest : List Note) (k : Nat) (ps : List (Int × Int)), ns.drop k = rest → k ≤ ns.length → BK ns cs k ps → BK ns cs ns.length (bkGo rest (cs.drop k) k ps)
  | [], k, ps, hd, hk, B => by
    have : ns.length ≤ k := List.drop_eq_nil_iff.mp hd
    have e : k = ns.length := by omega
    subst e
    cases h : cs.drop ns.length <;> exact B
  | n :: r, k, ps, hd, hk, B => by
    obtain ⟨hi, hr⟩ := drop_head hd
    have mk := mkAt_get hi
    have lt : k < ns.length := (List.getElem?_eq_some_iff.mp hi).1
    have kc : k < cs.length := by omega
    rw [List.drop_eq_getElem_cons kc]
    have gd : cs.getD k 1 = cs[k] := by rw [List.getD_eq_getElem?_getD, List.getElem?_eq_getElem kc]; rfl
    have ih := fun ps => bk_go hl hz r (k + 1) ps hr (by omega)
    simp only [bkGo]
    cases hm : n.2.2 with
    | none => exact ih _ (bk_none B (by rw [mk, hm]))
    | some m =>
      simp only
      by_cases c0 : cs[k] = 0
      · rw [if_pos c0]
        obtain ⟨j1, j2, j3⟩ := joins_same (hz k (by rw [List.getElem?_eq_getElem kc, c0]))
        exact ih _ (bk_join B (by rw [mk, hm]; rfl) (by rw [gd, c0]) j1 (by rw [j3, mk, hm]; rfl))
      · rw [if_neg c0]
        exact ih _ (bk_cut B (by rw [mk, hm]; rfl) (by rw [gd]; exact c0))
theorem fit_bk {ns : List Note} {xs cs : List Int} {f : List Stay} (hc : cs ∈ cutsL ns) (e : staysL s p t ns xs cs = some f) : BK ns cs ns.length (f.map pr) := by
  obtain ⟨h1, h2⟩ := mem_cuts.mp hc
  unfold staysL at e
  cases hw : stGo s p t ns xs cs 0 fs0 with
  | none => rw [hw] at e; cases e
  | some w =>
    rw [hw] at e
    cases e
    rw [st_pairs ns 0 xs cs fs0 w hw]
    have := bk_go (ns := ns) (cs := cs) h1 (fun j z => by
      rcases h2 j 0 z with q | q
      · exact absurd q (by decide)
      · exact q.2) ns 0 [] rfl (Nat.zero_le _) ⟨rfl, fun i a b z => by simp at z, fun z => by omega⟩
    rwa [List.drop_zero] at this
theorem cutN_le {ns : List Note} {cs : List Int} {k : Nat} {ps : List (Int × Int)} (B : BK ns cs ns.length ps) (hk : k < ns.length) : cntTo ns cs (k + 1) ≤ ps.length := by
  rw [B.len]
  exact cutN_mono (by omega)
theorem range_one {c : Nat} : ∀ {n : Nat}, c < n → (List.range n).filter (fun j => decide (j = c)) = [c]
  | 0, h => by omega
  | n + 1, h => by
    rw [List.range_succ, List.filter_append]
    by_cases e : c = n
    · subst e
      have : (List.range c).filter (fun j => decide (j = c)) = [] := by
        rw [List.filter_eq_nil_iff]
        intro a ha
        have := List.mem_range.mp ha
        simp; omega
      rw [this]
      simp
    · rw [range_one (n := n) (by omega)]
      have : ¬ n = c := fun z => e z.symm
      simp [this]
end
end Pu.Q
set_option Elab.async false
set_option linter.all false
set_option maxRecDepth 100000
set_option maxHeartbeats 8000000
namespace Pu.Q
open PySem PySem.Spec PyProof.Rows L2 Pu
section
variable {s l p : Int} {t : Str} {Q : RV → Ev → Prop}
theorem cut_here {ns : List Note} {cs : List Int} {a : Nat} (hc : cs ∈ cutsL ns) (ha : a < ns.length) (mk : (mkAt ns a).isSome = true) (h : cutAt ns cs a = false) : cs[a]? = some 0 ∧ joinsB ns a [] = true := by
  obtain ⟨h1, h2⟩ := mem_cuts.mp hc
  have lt : a < cs.length := by omega
  unfold cutAt at h
  rw [mk, Bool.true_and, List.getD_eq_getElem?_getD, List.getElem?_eq_getElem lt, Option.getD_some] at h
  have e : cs[a] = 0 := by simpa using h
  have e2 : cs[a]? = some 0 := by rw [List.getElem?_eq_getElem lt, e]
  refine ⟨e2, ?_⟩
  rcases h2 a 0 e2 with q | q
  · exact absurd q (by decide)
  · exact q.2
theorem cutN_one {ns : List Note} {cs : List Int} (hc : cs ∈ cutsL ns) : ∀ {k : Nat}, k < ns.length → (mkAt ns k).isSome = true → 1 ≤ cntTo ns cs (k + 1)
  | k, hk, mk => by
    cases c : cutAt ns cs k with
    | true => simp only [cntTo, c, if_true]; omega
    | false =>
      obtain ⟨_, j⟩ := cut_here hc hk mk c
      obtain ⟨j1, j2, j3⟩ := joins_same j
      have ih := cutN_one hc (k := k - 1) (by omega) (by rw [j3]; exact mk)
      have := cutN_mono (ns := ns) (cs := cs) (show k - 1 + 1 ≤ k + 1 by omega)
      omega
  termination_by k => k
  decreasing_by omega
def jAll (ns : List Note) (k j : Nat) : Bool := (List.range' (k + 1) (j - k)).all fun i => joinsB ns i []
def wAll (s p : Int) (t : Str) (ns : List Note) (k j : Nat) : Bool := (List.range' (k + 1) (j - k)).all fun i => (ways s p t ns [(i : Int)]).isNone
theorem mem_btw {k j a : Nat} (h : k < j) : a ∈ List.range' (k + 1) (j - k) ↔ k < a ∧ a ≤ j := by
  rw [List.mem_range'_1]; omega
theorem same_iff {ns : List Note} {cs : List Int} {k j : Nat} (h : k < j) : cntTo ns cs (k + 1) = cntTo ns cs (j + 1) ↔ ∀ a, k < a → a ≤ j → cutAt ns cs a = false := by
  rw [cutN_eq (show k + 1 ≤ j + 1 by omega)]
  exact ⟨fun z a h1 h2 => z a (by omega) (by omega), fun z a h1 h2 => z a (by omega) (by omega)⟩
theorem same_joins {ns : List Note} {cs : List Int} {k j : Nat} (hc : cs ∈ cutsL ns) (h : k < j) (hj : j < ns.length) (mj : (mkAt ns j).isSome = true) (e : cntTo ns cs (k + 1) = cntTo ns cs (j + 1)) : jAll ns k j = true := by
  have ct := (same_iff h).mp e
  have go : ∀ d, k < j - d → (mkAt ns (j - d)).isSome = true ∧ joinsB ns (j - d) [] = true := by
    intro d
    induction d with
    | zero => intro _; exact ⟨mj, (cut_here hc hj mj (ct j h (Nat.le_refl _))).2⟩
    | succ d ih =>
      intro hd
      obtain ⟨m1, m2⟩ := ih (by omega)
      obtain ⟨j1, j2, j3⟩ := joins_same m2
      have m3 : (mkAt ns (j - (d + 1))).isSome = true := by rw [show j - (d + 1) = j - d - 1 by omega, j3]; exact m1
      exact ⟨m3, (cut_here hc (by omega) m3 (ct _ hd (by omega))).2⟩
  unfold jAll
  rw [List.all_eq_true]
  intro a ha
  obtain ⟨h1, h2⟩ := (mem_btw h).mp ha
  have := (go (j - a) (by omega)).2
  rwa [show j - (j - a) = a by omega] at this
theorem joins_other {ns : List Note} {a b : Nat} (h : a ≠ b) : joinsB ns a [(b : Int)] = joinsB ns a [] := by
  unfold joinsB
  have : ¬ ((a : Int) = (b : Int)) := by omega
  simp [this]
theorem parts {ns : List Note} {xs cs : List Int} {f : List Stay} {k j : Nat} (h0 : ∀ n ∈ ns, 0 ≤ n.1) (M : Mins ns none xs) (hc : cs ∈ cutsL ns) (e : staysL s p t ns xs cs = some f) (h : k < j) (hj : j < ns.length) (ne : cntTo ns cs (k + 1) ≠ cntTo ns cs (j + 1)) : wAll s p t ns k j = false := by
  have ⟨a, h1, h2, h3⟩ : ∃ a, k < a ∧ a ≤ j ∧ cutAt ns cs a = true := by
    refine Classical.byContradiction fun z => ne ((same_iff h).mpr fun a h1 h2 => ?_)
    cases c : cutAt ns cs a with
    | false => rfl
    | true => exact absurd ⟨a, h1, h2, c⟩ z
  obtain ⟨l1, l2⟩ := mem_cuts.mp hc
  obtain ⟨out, e1, _⟩ := ways_least (ap := [(a : Int)]) h0 M e fun b hb => by
    rcases l2 b 0 hb with q | q
    · exact absurd q (by decide)
    · have : b ≠ a := fun z => by
        subst z
        unfold cutAt at h3
        rw [List.getD_eq_getElem?_getD, hb] at h3
        simp at h3
      rw [joins_other this]
      exact q.2
  cases w : wAll s p t ns k j with
  | false => rfl
  | true =>
    unfold wAll at w
    rw [List.all_eq_true] at w
    have := w a ((mem_btw h).mpr ⟨h1, h2⟩)
    rw [e1] at this
    cases this
def inSt (f : List Stay) (k : Int) (i : Nat) : Bool := match f[i]? with
  | some a => decide (a.1 ≤ k) && decide (k ≤ a.2.1)
  | none => false
def lawOf (f : List Stay) (k : Int) : Nat := ((List.range f.length).filter (inSt f k)).headD 0
theorem lawOf_l {ns : List Note} {cs : List Int} {f : List Stay} {k : Nat} (B : BK ns cs ns.length (f.map pr)) (hc : cs ∈ cutsL ns) (hk : k < ns.length) (mk : (mkAt ns k).isSome = true) : (List.range f.length).filter (inSt f k) = [cntTo ns cs (k + 1) - 1] := by
  have c1 := cutN_one hc hk mk
  have c2 := cutN_le B hk
  rw [List.length_map] at c2
  rw [← range_one (show cntTo ns cs (k + 1) - 1 < f.length by omega)]
  refine List.filter_congr fun i hi => ?_
  have lt := List.mem_range.mp hi
  unfold inSt
  rw [List.getElem?_eq_getElem lt]
  obtain ⟨h1, h2, h3, h4⟩ := B.at_ i f[i].1 f[i].2.1 (by rw [List.getElem?_map, List.getElem?_eq_getElem lt]; rfl)
  have := h4 k hk mk
  simp only
  by_cases z : f[i].1 ≤ (k : Int) ∧ (k : Int) ≤ f[i].2.1
  · rw [decide_eq_true z.1, decide_eq_true z.2, decide_eq_true (show i = cntTo ns cs (k + 1) - 1 by have := this.mp z; omega)]; rfl
  · rw [decide_eq_false (show ¬ i = cntTo ns cs (k + 1) - 1 from fun q => z (this.mpr (by omega)))]
    cases h5 : decide (f[i].1 ≤ (k : Int)) with
    | false => rfl
    | true => rw [decide_eq_false (fun q => z ⟨of_decide_eq_true h5, q⟩)]; rfl
theorem lawOf_is {ns : List Note} {cs : List Int} {f : List Stay} {k : Nat} (B : BK ns cs ns.length (f.map pr)) (hc : cs ∈ cutsL ns) (hk : k < ns.length) (mk : (mkAt ns k).isSome = true) : lawOf f k = cntTo ns cs (k + 1) - 1 := by
  unfold lawOf
  rw [lawOf_l B hc hk mk]
  rfl
end
end Pu.Q
set_option Elab.async false
set_option linter.all false
set_option maxRecDepth 100000
set_option maxHeartbeats 8000000
set_option Elab.async false
set_option linter.all false
set_option maxRecDepth 100000
set_option maxHeartbeats 8000000
set_option Elab.async false
set_option linter.all false
set_option maxRecDepth 100000
set_option maxHeartbeats 8000000
namespace Pu.Q
open PySem PySem.Spec PyProof.Rows L2 Pu
section
variable {s l p : Int} {t : Str} {Q : RV → Ev → Prop}
structure BS where
  any : Option Int
  gone : Option Int
  there : Option Int
abbrev bs0 : BS := ⟨none, none, none⟩
def mnO (i : Int) (o : Option Int) : Int := match o with
  | none => i
  | some j => mn i j
def lss (a b : Option Int) : Option Int := match a, b with
  | none, b => b
  | some x, b => some (mnO x b)
def bSpot (w : BS) (n : Note) : Int := mnO (mnO n.2.1 w.any) (match n.2.2 with
  | none => w.gone
  | some _ => w.there)
def bTurn (s p : Int) (t : Str) (w : BS) (x : Int) (m : Option Int) (g : Bool) : BS := match m with
  | none => ⟨some x, none, lss w.there (some (x - 1))⟩
  | some m => if g = true then ⟨some x, none, none⟩ else ⟨some x, some (mn (m - low t s) x - 1), some (mn (m - low t s) x - p)⟩
def bkS (s p : Int) (t : Str) (ns : List Note) (ap : List Int) : List Note → Nat → BS
  | [], _ => bs0
  | n :: r, k => bTurn s p t (bkS s p t ns ap r (k + 1)) (bSpot (bkS s p t ns ap r (k + 1)) n) n.2.2 (joinsB ns k ap)
def bMin (s p : Int) (t : Str) (ns : List Note) (ap : List Int) : List Note → Nat → List Int
  | [], _ => []
  | n :: r, k => bSpot (bkS s p t ns ap r (k + 1)) n :: bMin s p t ns ap r (k + 1)
theorem mn_le' {i j : Int} : mn i j ≤ i ∧ mn i j ≤ j := by unfold mn; split <;> omega
theorem le_mn' {i j k : Int} (h1 : k ≤ i) (h2 : k ≤ j) : k ≤ mn i j := by unfold mn; split <;> omega
theorem mn_mono {i j k : Int} (h : j ≤ k) : mn i j ≤ mn i k := by unfold mn; split <;> split <;> omega
theorem mnO_le {i : Int} {o : Option Int} : mnO i o ≤ i ∧ ∀ j, o = some j → mnO i o ≤ j := by
  cases o with
  | none => exact ⟨Int.le_refl _, fun j h => (by cases h)⟩
  | some j => exact ⟨mn_le'.1, fun j' h => (by cases h; exact mn_le'.2)⟩
theorem le_mnO {i k : Int} {o : Option Int} (h1 : k ≤ i) (h2 : ∀ j, o = some j → k ≤ j) : k ≤ mnO i o := by
  cases o with
  | none => exact h1
  | some j => exact le_mn' h1 (h2 j rfl)
theorem lss_le {a b : Option Int} {c : Int} (h : lss a b = some c) : (∀ x, a = some x → c ≤ x) ∧ (∀ y, b = some y → c ≤ y) := by
  cases a with
  | none =>
    have h : b = some c := h
    exact ⟨fun x z => (by cases z), fun y z => (by rw [h] at z; cases z; exact Int.le_refl _)⟩
  | some x =>
    have h : mnO x b = c := Option.some.inj h
    have := mnO_le (i := x) (o := b)
    rw [h] at this
    exact ⟨fun x' z => (by cases z; exact this.1), this.2⟩
theorem le_lss {a b : Option Int} {c z : Int} (h : lss a b = some c) (h1 : ∀ x, a = some x → z ≤ x) (h2 : ∀ y, b = some y → z ≤ y) : z ≤ c := by
  cases a with
  | none =>
    have h : b = some c := h
    exact h2 c h
  | some x =>
    have h : mnO x b = c := Option.some.inj h
    rw [← h]
    exact le_mnO (h1 x rfl) h2
structure Up (w : BS) (v : FS) (y : Int) : Prop where
  any : ∀ a, w.any = some a → y ≤ a
  gone : ∀ b, w.gone = some b → v.gone ≤ b
  there : ∀ b z, w.there = some b → v.lx = some z → z ≤ b
theorem up_go {ns : List Note} {ap : List Int} : ∀ (rest : List Note) (k : Nat) (ys cs : List Int) (v v' : FS) (y : Int), (∀ j, cs[j]? = some 0 → joinsB ns (k + j) ap = true) → Mins rest (some y) ys → stGo s p t rest ys cs k v = some v' →
    Up (bkS s p t ns ap rest k) v y ∧ ∀ (j : Nat) (a b : Int), ys[j]? = some a → (bMin s p t ns ap rest k)[j]? = some b → a ≤ b
  | [], k, ys, cs, v, v', y, _, M, _ => by
    have : ys = [] := M
    subst this
    exact ⟨⟨fun a h => (by cases h), fun b h => (by cases h), fun b z h => (by cases h)⟩, fun j a b h => by simp at h⟩
  | n :: r, k, ys, cs, v, v', y, hz, M, e => by
    obtain ⟨x, xs', rfl, m1, m2, m3, M'⟩ := M
    cases cs with
    | nil => simp [stGo] at e
    | cons c cs =>
      simp only [stGo] at e
      cases e1 : stStep s p t k n x c v with
      | none => rw [e1] at e; cases e
      | some v1 =>
        rw [e1] at e
        obtain ⟨U, V⟩ := up_go (ns := ns) (ap := ap) r (k + 1) xs' cs v1 v' x (fun j z => by have := hz (j + 1) (by simpa using z); rwa [show k + 1 + j = k + (j + 1) by omega]) M' e
        have yx := m3 y rfl
        obtain ⟨lo, hi_, m⟩ := n
        simp only at m1 m2
        have sp : x ≤ bSpot (bkS s p t ns ap r (k + 1)) (lo, hi_, m) := by
          unfold bSpot
          refine le_mnO (le_mnO m2 U.any) fun j hj => ?_
          cases m with
          | none =>
            have g : v1.gone = x := by
              simp only [stStep] at e1
              split at e1
              · cases e1; rfl
              · split at e1
                · cases e1
                · cases e1; rfl
            have := U.gone j hj
            omega
          | some m =>
            have g : v1.lx = some x := by
              simp only [stStep] at e1
              split at e1
              · cases e1; rfl
              · split at e1
                · cases e1
                · cases e1; rfl
            exact U.there j x hj g
        refine ⟨?_, fun j a b ha hb => ?_⟩
        · simp only [bkS]
          generalize bSpot (bkS s p t ns ap r (k + 1)) (lo, hi_, m) = X at sp ⊢
          generalize bkS s p t ns ap r (k + 1) = w at U ⊢
          cases m with
          | none =>
            have lx : v1.lx = v.lx ∧ ∀ z, v.lx = some z → z < x := by
              simp only [stStep] at e1
              split at e1
              · rename_i h; cases e1; exact ⟨rfl, fun z hz => (by rw [h] at hz; cases hz)⟩
              · rename_i q h
                split at e1
                · cases e1
                · cases e1; exact ⟨rfl, fun z hz => (by rw [h] at hz; cases hz; omega)⟩
            refine ⟨fun a h => (by cases h; omega), fun b h => (by cases h), fun b z h hz => ?_⟩
            refine le_lss h (fun x' hx' => U.there x' z hx' (by rw [lx.1]; exact hz)) fun y' hy' => ?_
            cases hy'
            have := lx.2 z hz
            omega
          | some m =>
            unfold bTurn
            simp only
            by_cases g : joinsB ns k ap = true
            · rw [if_pos g]
              exact ⟨fun a h => (by cases h; omega), fun b h => (by cases h), fun b z h => (by cases h)⟩
            · rw [if_neg g]
              have c0 : ¬ c = 0 := fun z => g (by have := hz 0 (by rw [z]; rfl); simpa using this)
              simp only [stStep] at e1
              rw [if_neg c0] at e1
              have le : stLeast s p t m v ≤ mn (m - low t s) x := by
                split at e1
                · cases e1
                · omega
              have le2 := mn_mono (i := m - low t s) sp
              have g1 : v.gone + 1 ≤ stLeast s p t m v := by unfold stLeast; rw [mx_eq]; omega
              refine ⟨fun a h => (by cases h; omega), fun b h => (by cases h; omega), fun b z h hz => ?_⟩
              cases h
              have : z + p ≤ stLeast s p t m v := by
                unfold stLeast
                rw [hz, mx_eq, mx_eq]
                simp only
                omega
              omega
        · simp only [bMin] at hb
          cases j with
          | zero =>
            simp only [List.getElem?_cons_zero] at ha hb
            cases ha; cases hb
            exact sp
          | succ j => exact V j a b (by simpa using ha) (by simpa using hb)
structure Dn (ns : List Note) (k : Nat) (w : BS) (v : FS) (y : Int) : Prop where
  any : ∀ a, w.any = some a → y ≤ a
  gy : v.gone ≤ y
  ly : ∀ z, v.lx = some z → z ≤ y
  there : ∀ b z, w.there = some b → v.lx = some z → z ≤ b
  gone : ∀ b, w.gone = some b → absB ns k = true → v.gone ≤ b
  prev : 0 < k → mkAt ns (k - 1) ≠ none → v.lx = some y
  zero : k = 0 → v.gone = -1
theorem bSpot_le {w : BS} {n : Note} : bSpot w n ≤ n.2.1 ∧ (∀ a, w.any = some a → bSpot w n ≤ a) ∧ (n.2.2 = none → ∀ a, w.gone = some a → bSpot w n ≤ a) ∧ (n.2.2 ≠ none → ∀ a, w.there = some a → bSpot w n ≤ a) := by
  unfold bSpot
  have h1 := mnO_le (i := n.2.1) (o := w.any)
  have h2 := mnO_le (i := mnO n.2.1 w.any) (o := match n.2.2 with
    | none => w.gone
    | some _ => w.there)
  refine ⟨Int.le_trans h2.1 h1.1, fun a h => Int.le_trans h2.1 (h1.2 a h), fun e a h => ?_, fun e a h => ?_⟩
  · refine h2.2 a ?_
    rw [e]; exact h
  · refine h2.2 a ?_
    cases q : n.2.2 with
    | none => exact absurd q e
    | some m => exact h
theorem dn_go {ns : List Note} (hp : 1 ≤ p) : ∀ (rest : List Note) (k : Nat) (ys cs : List Int) (v0 v0' : FS) (y0 : Int) (v : FS) (y : Int), ns.drop k = rest → (∀ j, cs[j]? = some 0 → joinsB ns (k + j) [] = true) → Mins rest (some y0) ys → stGo s p t rest ys cs k v0 = some v0' →
    Dn ns k (bkS s p t ns [] rest k) v y → (∃ v', stGo s p t rest (bMin s p t ns [] rest k) ((List.range' k rest.length).map (cutOf ns [])) k v = some v') ∧ Mins rest (some y) (bMin s p t ns [] rest k)
  | [], k, ys, cs, v0, v0', y0, v, y, _, _, _, _, _ => ⟨⟨v, rfl⟩, rfl⟩
  | n :: r, k, ys, cs, v0, v0', y0, v, y, hd, hz, M, e, D => by
    have U := up_go (ns := ns) (ap := []) (n :: r) k ys cs v0 v0' y0 hz M e
    obtain ⟨x, xs', rfl, m1, m2, m3, M'⟩ := M
    have hk : ns[k]? = some n := by
      have : (ns.drop k)[0]? = some n := by rw [hd]; rfl
      simpa using this
    have hr : ns.drop (k + 1) = r := by rw [← List.drop_drop, hd]; rfl
    have mk := mkAt_get hk
    have ab := absB_next hk
    cases cs with
    | nil => simp [stGo] at e
    | cons c cs =>
      have c0 : joinsB ns k [] = false → ¬ c = 0 := fun h z => by have := hz 0 (by rw [z]; rfl); rw [Nat.add_zero, h] at this; cases this
      have hz' : ∀ j, cs[j]? = some 0 → joinsB ns (k + 1 + j) [] = true := fun j z => by have := hz (j + 1) (by simpa using z); rwa [show k + 1 + j = k + (j + 1) by omega]
      simp only [stGo] at e
      cases e1 : stStep s p t k n x c v0 with
      | none => rw [e1] at e; cases e
      | some v1 =>
        rw [e1] at e
        have xX : x ≤ bSpot (bkS s p t ns [] r (k + 1)) n := U.2 0 x _ rfl rfl
        obtain ⟨s1, s2, s3, s4⟩ := bSpot_le (w := bkS s p t ns [] r (k + 1)) (n := n)
        have ih := fun v y D => dn_go hp r (k + 1) xs' cs v1 v0' x v y hr hz' M' e D
        have done : ∀ v2, stStep s p t k n (bSpot (bkS s p t ns [] r (k + 1)) n) (cutOf ns [] k) v = some v2 → Dn ns (k + 1) (bkS s p t ns [] r (k + 1)) v2 (bSpot (bkS s p t ns [] r (k + 1)) n) → y ≤ bSpot (bkS s p t ns [] r (k + 1)) n →
            (∃ v', stGo s p t (n :: r) (bMin s p t ns [] (n :: r) k) ((List.range' k (n :: r).length).map (cutOf ns [])) k v = some v') ∧ Mins (n :: r) (some y) (bMin s p t ns [] (n :: r) k) := fun v2 e2 D2 yX => by
          obtain ⟨⟨v', h1⟩, h2⟩ := ih v2 _ D2
          refine ⟨⟨v', ?_⟩, _, _, rfl, (by omega), s1, fun y' hy' => (by cases hy'; exact yX), h2⟩
          rw [List.length_cons, List.range'_succ, List.map_cons]
          simp only [bMin, stGo]
          rw [e2]
          exact h1
        simp only [bkS] at D
        generalize bSpot (bkS s p t ns [] r (k + 1)) n = X at xX s1 s2 s3 s4 done D
        generalize bkS s p t ns [] r (k + 1) = w at s2 s3 s4 done D
        obtain ⟨lo, hi_, m⟩ := n
        simp only at m1 m2 s1 s3 s4 D mk ab
        obtain ⟨d1, d2, d3, d4, d5, d6, d7⟩ := D
        cases m with
        | none =>
          have yX : y ≤ X := d1 X rfl
          obtain ⟨q, hq⟩ : ∃ q, lss w.there (some (X - 1)) = some q := by cases w.there <;> exact ⟨_, rfl⟩
          have lq := lss_le hq
          have lt : ∀ z, v.lx = some z → z ≤ q := fun z hz => d4 q z hq hz
          have q1 := lq.2 (X - 1) rfl
          refine done { v with gone := X } ?_ ⟨s2, Int.le_refl _, fun z hz => (by have := d3 z hz; omega), fun b z hb hz => Int.le_trans (lt z hz) (lq.1 b hb), fun b hb _ => s3 rfl b hb, fun _ z => (by rw [Nat.add_sub_cancel, mk] at z; exact absurd rfl z), fun z => (by omega)⟩ yX
          simp only [stStep]
          cases hl : v.lx with
          | none => rfl
          | some z =>
            have := lt z hl
            simp only
            rw [if_neg (by omega)]
        | some m =>
          have s4 := s4 (by simp)
          by_cases g : joinsB ns k [] = true
          · unfold bTurn at d1 d4 d5
            simp only at d1 d4 d5
            rw [if_pos g] at d1 d4 d5
            have yX : y ≤ X := d1 X rfl
            refine done ⟨setLast v.found k, v.gone, some X⟩ ?_ ⟨s2, (by simp only; omega), fun z hz => (by cases hz; exact Int.le_refl _), fun b z hb hz => (by cases hz; exact s4 b hb), fun b _ hb => (by rw [ab] at hb; cases hb), fun _ _ => rfl, fun z => (by omega)⟩ yX
            simp only [stStep]
            unfold cutOf
            rw [if_pos g, if_pos rfl]
          · unfold bTurn at d1 d4 d5
            simp only at d1 d4 d5
            rw [if_neg g] at d1 d4 d5
            have yX : y ≤ X := d1 X rfl
            have gf : joinsB ns k [] = false := by simpa using g
            simp only [stStep] at e1
            rw [if_neg (c0 gf)] at e1
            have le : stLeast s p t m v0 ≤ mn (m - low t s) x := by
              split at e1
              · cases e1
              · omega
            have sp0 : mx 0 (m - high t s) ≤ mn (m - low t s) x := by
              have : mx 0 (m - high t s) ≤ stLeast s p t m v0 := by
                unfold stLeast
                rw [mx_eq _ (v0.gone + 1), mx_eq (mx 0 (m - high t s))]
                omega
              omega
            have le2 := mn_mono (i := m - low t s) xX
            have z0 : 0 ≤ mx 0 (m - high t s) := by rw [mx_eq]; omega
            have gb : v.gone + 1 ≤ mn (m - low t s) X := by
              by_cases ak : absB ns k = true
              · have := d5 _ rfl ak
                omega
              · by_cases k0 : k = 0
                · have := d7 k0
                  omega
                · have pm : mkAt ns (k - 1) ≠ none := fun z => ak (by unfold absB; rw [z]; simp; omega)
                  have := d4 _ y rfl (d6 (by omega) pm)
                  omega
            have lb : stLeast s p t m v ≤ mn (m - low t s) X := by
              unfold stLeast
              rw [mx_eq _ (v.gone + 1), mx_eq (mx 0 (m - high t s))]
              cases hl : v.lx with
              | none => simp only; omega
              | some z =>
                have := d4 _ z rfl hl
                simp only; omega
            refine done ⟨v.found ++ [((k : Int), (k : Int), stLeast s p t m v, mn (m - low t s) X)], v.gone, some X⟩ ?_ ⟨s2, (by simp only; omega), fun z hz => (by cases hz; exact Int.le_refl _), fun b z hb hz => (by cases hz; exact s4 b hb), fun b _ hb => (by rw [ab] at hb; cases hb), fun _ _ => rfl, fun z => (by omega)⟩ yX
            simp only [stStep]
            unfold cutOf
            rw [if_neg g, if_neg (by decide), if_neg (by omega)]
theorem lates_fit {ns : List Note} {ys cs : List Int} {f : List Stay} (hp : 1 ≤ p) (h0 : ∀ n ∈ ns, 0 ≤ n.1) (M : Mins ns none ys) (hc : cs ∈ cutsL ns) (e : staysL s p t ns ys cs = some f) :
    (∃ g, staysL s p t ns (bMin s p t ns [] ns 0) (cutsOf ns []) = some g) ∧ Mins ns none (bMin s p t ns [] ns 0) ∧ ∀ (j : Nat) (a b : Int), ys[j]? = some a → (bMin s p t ns [] ns 0)[j]? = some b → a ≤ b := by
  obtain ⟨l1, l2⟩ := mem_cuts.mp hc
  have hz : ∀ j, cs[j]? = some 0 → joinsB ns (0 + j) [] = true := fun j z => by
    rw [Nat.zero_add]
    rcases l2 j 0 z with q | q
    · exact absurd q (by decide)
    · exact q.2
  unfold staysL at e
  cases hw : stGo s p t ns ys cs 0 fs0 with
  | none => rw [hw] at e; cases e
  | some w =>
    have M0 := M.from0 h0
    obtain ⟨U, V⟩ := up_go (ns := ns) (ap := []) ns 0 ys cs fs0 w 0 hz M0 hw
    obtain ⟨⟨v', h1⟩, h2⟩ := dn_go (ns := ns) hp ns 0 ys cs fs0 w 0 fs0 0 rfl hz M0 hw ⟨U.any, (by decide), fun z h => (by cases h), fun b z _ h => (by cases h), fun b _ h => (by simp [absB] at h), fun h => (by omega), fun _ => rfl⟩
    refine ⟨⟨v'.found, ?_⟩, h2.weak, V⟩
    unfold staysL cutsOf
    rw [List.range_eq_range', h1]
    rfl
end
end Pu.Q
set_option Elab.async false
set_option linter.all false
set_option maxRecDepth 100000
set_option maxHeartbeats 8000000
set_option Elab.async false
set_option linter.all false
set_option maxRecDepth 100000
set_option maxHeartbeats 8000000
set_option Elab.async false
set_option linter.all false
set_option maxRecDepth 100000
set_option maxHeartbeats 8000000
set_option Elab.async false
set_option linter.all false
set_option maxRecDepth 100000
set_option maxHeartbeats 8000000
set_option Elab.async false
set_option linter.all false
set_option maxRecDepth 100000
set_option maxHeartbeats 8000000
namespace Pu.Q
open PySem PySem.Spec PyProof.Rows L2 Pu
section
variable {s l p : Int} {t : Str} {Q : RV → Ev → Prop}
theorem Mins.bnd : ∀ {ns : List Note} {q : Option Int} {xs : List Int}, Mins ns q xs → ∀ {j : Nat} {n : Note} {x : Int}, ns[j]? = some n → xs[j]? = some x → n.1 ≤ x ∧ x ≤ n.2.1
  | [], _, _, _, j, n, x, h, _ => by simp at h
  | n0 :: r, q, xs, M, j, n, x, h, hx => by
    obtain ⟨y, ys, rfl, a, b, _, M'⟩ := M
    cases j with
    | zero =>
      simp only [List.getElem?_cons_zero] at h hx
      cases h; cases hx
      exact ⟨a, b⟩
    | succ j => exact M'.bnd (by simpa using h) (by simpa using hx)
theorem Mins.low : ∀ {ns : List Note} {y : Int} {xs : List Int}, Mins ns (some y) xs → ∀ {j : Nat} {b : Int}, xs[j]? = some b → y ≤ b
  | [], _, _, M, j, b, h => by rw [show _ = [] from M] at h; simp at h
  | n :: r, y, _, M, j, b, h => by
    obtain ⟨x, xs', rfl, _, _, c, M'⟩ := M
    have := c y rfl
    cases j with
    | zero => simp only [List.getElem?_cons_zero] at h; cases h; exact this
    | succ j => have := M'.low (j := j) (by simpa using h); omega
theorem Mins.mono : ∀ {ns : List Note} {q : Option Int} {xs : List Int}, Mins ns q xs → ∀ {i j : Nat} {a b : Int}, i ≤ j → xs[i]? = some a → xs[j]? = some b → a ≤ b
  | [], _, _, M, i, j, a, b, _, h, _ => by rw [show _ = [] from M] at h; simp at h
  | n :: r, q, xs, M, i, j, a, b, hij, ha, hb => by
    obtain ⟨x, xs', rfl, _, _, _, M'⟩ := M
    cases i with
    | zero =>
      simp only [List.getElem?_cons_zero] at ha
      cases ha
      cases j with
      | zero => simp only [List.getElem?_cons_zero] at hb; cases hb; exact Int.le_refl _
      | succ j => exact M'.low (by simpa using hb)
    | succ i =>
      cases j with
      | zero => omega
      | succ j => exact M'.mono (i := i) (j := j) (by omega) (by simpa using ha) (by simpa using hb)
theorem getD_of {xs : List Int} {j : Nat} {x : Int} (h : xs[j]? = some x) : xs.getD j 0 = x := by rw [List.getD_eq_getElem?_getD, h]; rfl
theorem get_lt {α : Type} {xs : List α} {j : Nat} (h : j < xs.length) : ∃ x, xs[j]? = some x := ⟨_, List.getElem?_eq_getElem h⟩
def SameM (ns ns' : List Note) : Prop := ns'.map (·.2.2) = ns.map (·.2.2)
theorem SameM.len {ns ns' : List Note} (h : SameM ns ns') : ns'.length = ns.length := by
  have := congrArg List.length h
  simpa using this
theorem SameM.mk {ns ns' : List Note} (h : SameM ns ns') (i : Nat) : mkAt ns' i = mkAt ns i := by
  have := congrArg (fun z => z[i]?) h
  simp only [List.getElem?_map] at this
  unfold mkAt
  cases h1 : ns'[i]? with
  | none =>
    rw [h1] at this
    cases h2 : ns[i]? with
    | none => rfl
    | some b => rw [h2] at this; cases this
  | some a =>
    rw [h1] at this
    cases h2 : ns[i]? with
    | none => rw [h2] at this; cases this
    | some b => rw [h2] at this; exact Option.some.inj this
theorem SameM.joins {ns ns' : List Note} (h : SameM ns ns') (i : Nat) (ap : List Int) : joinsB ns' i ap = joinsB ns i ap := by
  unfold joinsB
  rw [h.mk, h.mk]
theorem SameM.cutsOf {ns ns' : List Note} (h : SameM ns ns') (ap : List Int) : cutsOf ns' ap = cutsOf ns ap := by
  unfold Pu.Q.cutsOf
  rw [h.len]
  refine List.map_congr_left fun i _ => ?_
  unfold cutOf
  rw [h.joins]
theorem setB_fst {f : List (Int × Int)} {k : Int} {P : Int × Int → Prop} (h : ∀ q ∈ f, P q) (hP : ∀ q, P q → P (q.1, k)) : ∀ q ∈ setB f k, P q := by
  rcases List.eq_nil_or_concat f with z | ⟨g, b, z⟩
  · subst z
    intro q hq
    cases hq
  · rw [List.concat_eq_append] at z
    subst z
    rw [setB_some]
    intro q hq
    rcases List.mem_append.mp hq with q1 | q1
    · exact h q (List.mem_append_left _ q1)
    · rw [List.mem_singleton] at q1
      rw [q1]
      exact hP b (h b (List.mem_append_right _ (List.mem_singleton.mpr rfl)))
theorem first_ok {ns : List Note} : ∀ (rest : List Note) (i : Nat) (cs : List Int) (L : List (Int × Int)), ns.drop i = rest → (∀ q ∈ L, ∃ m, mkAt ns q.1.toNat = some m) → ∀ q ∈ bkGo rest cs i L, ∃ m, mkAt ns q.1.toNat = some m
  | [], i, cs, L, _, h => by simpa only [bkGo] using h
  | n :: r, i, [], L, _, h => by simpa only [bkGo] using h
  | n :: r, i, c :: cs, L, hd, h => by
    obtain ⟨hi, hr⟩ := drop_head hd
    have mk := mkAt_get hi
    have ih := fun L => first_ok r (i + 1) cs L hr
    simp only [bkGo]
    cases hm : n.2.2 with
    | none => exact ih L h
    | some m =>
      simp only
      by_cases c0 : c = 0
      · rw [if_pos c0]
        exact ih _ (setB_fst h fun q hq => hq)
      · rw [if_neg c0]
        refine ih _ fun a ha => ?_
        rcases List.mem_append.mp ha with q | q
        · exact h a q
        · rw [List.mem_singleton.mp q]; exact ⟨m, by rw [Int.toNat_natCast, mk, hm]⟩
theorem fit_firsts {ns : List Note} {xs cs : List Int} {f : List Stay} (e : staysL s p t ns xs cs = some f) : ∀ a ∈ f, ∃ m, mkAt ns a.1.toNat = some m := by
  intro a ha
  unfold staysL at e
  cases hw : stGo s p t ns xs cs 0 fs0 with
  | none => rw [hw] at e; cases e
  | some w =>
    rw [hw] at e
    cases e
    have := st_pairs ns 0 xs cs fs0 w hw
    have g := first_ok ns 0 cs [] rfl (fun q hq => by cases hq) (pr a) (by
      have : pr a ∈ w.found.map pr := List.mem_map.mpr ⟨a, ha, rfl⟩
      rw [st_pairs ns 0 xs cs fs0 w hw] at this
      exact this)
    exact g
structure StayOf (ns : List Note) (cs : List Int) (f : List Stay) (k : Nat) (a : Stay) : Prop where
  at_ : f[lawOf f k]? = some a
  lo : 0 ≤ a.1
  hi : 0 ≤ a.2.1
  l1 : a.1.toNat ≤ k
  l2 : k ≤ a.2.1.toNat
  l3 : a.2.1.toNat < ns.length
  zer : ∀ j, a.1.toNat < j → j ≤ a.2.1.toNat → cs[j]? = some 0
  out : cs[a.2.1.toNat + 1]? ≠ some 0
  beg : cs[a.1.toNat]? ≠ some 0
  mb : ∃ m, mkAt ns a.2.1.toNat = some m
  ma : ∃ m, mkAt ns a.1.toNat = some m
theorem stay_end {ns : List Note} {xs cs : List Int} {f : List Stay} {k : Nat} (hc : cs ∈ cutsL ns) (e : staysL s p t ns xs cs = some f) (hk : k < ns.length) (mk : (mkAt ns k).isSome = true) : ∃ a, StayOf ns cs f k a := by
  have B := fit_bk hc e
  obtain ⟨l1, l2⟩ := mem_cuts.mp hc
  have c1 := cutN_one hc hk mk
  have c2 := cutN_le B hk
  rw [List.length_map] at c2
  have li := lawOf_is B hc hk mk
  obtain ⟨a, ha⟩ := get_lt (xs := f) (show cntTo ns cs (k + 1) - 1 < f.length by omega)
  obtain ⟨h1, h2, h3, h4⟩ := B.at_ (cntTo ns cs (k + 1) - 1) a.1 a.2.1 (by rw [List.getElem?_map, ha]; rfl)
  have hkk := (h4 k hk mk).mpr (by omega)
  have am : a ∈ f := List.mem_of_getElem? ha
  have mb : ∃ m, mkAt ns a.2.1.toNat = some m := by
    refine (last_ok ns 0 cs [] rfl (fun a ha => by cases ha) a.2.1 ?_).2
    rw [← fit_lasts hc e]
    exact List.mem_map.mpr ⟨a, am, rfl⟩
  have ma := fit_firsts e a am
  have mbs : (mkAt ns a.2.1.toNat).isSome = true := by obtain ⟨m, hm⟩ := mb; rw [hm]; rfl
  have mas : (mkAt ns a.1.toNat).isSome = true := by obtain ⟨m, hm⟩ := ma; rw [hm]; rfl
  have eb : ((a.2.1.toNat : Nat) : Int) = a.2.1 := by omega
  have ea : ((a.1.toNat : Nat) : Int) = a.1 := by omega
  have cb := (h4 a.2.1.toNat (by omega) mbs).mp ⟨by omega, by omega⟩
  have ca := (h4 a.1.toNat (by omega) mas).mp ⟨by omega, by omega⟩
  have zero : ∀ j, cs[j]? = some 0 → joinsB ns j [] = true := fun j z => by
    rcases l2 j 0 z with q | q
    · exact absurd q (by decide)
    · exact q.2
  have nocut : ∀ j, cs[j]? = some 0 → cutAt ns cs j = false := fun j z => by
    unfold cutAt
    rw [List.getD_eq_getElem?_getD, z]
    simp
  refine ⟨a, ⟨by rw [li]; exact ha, h1, by omega, by omega, by omega, by omega, fun j j1 j2 => ?_, fun z => ?_, fun z => ?_, mb, ma⟩⟩
  · have lt : a.1.toNat < a.2.1.toNat := by omega
    have cc : cntTo ns cs (a.1.toNat + 1) = cntTo ns cs (a.2.1.toNat + 1) := by omega
    have J := same_joins hc lt (by omega) mbs cc
    have ct := (same_iff lt).mp cc j j1 j2
    unfold jAll at J
    rw [List.all_eq_true] at J
    exact (cut_here hc (by omega) (joins_same (J j ((mem_btw lt).mpr ⟨j1, j2⟩))).2.1 ct).1
  · have j := zero _ z
    obtain ⟨j1, j2, j3⟩ := joins_same j
    have lt : a.2.1.toNat + 1 < ns.length := by
      refine Classical.byContradiction fun q => ?_
      rw [List.getElem?_eq_none (by omega)] at z
      cases z
    have cn := nocut _ z
    have : cntTo ns cs (a.2.1.toNat + 1 + 1) = cntTo ns cs (a.2.1.toNat + 1) := by simp [cntTo, cn]
    have := (h4 _ lt j2).mpr (by omega)
    omega
  · have j := zero _ z
    obtain ⟨j1, j2, j3⟩ := joins_same j
    have cn := nocut _ z
    have : cntTo ns cs (a.1.toNat + 1) = cntTo ns cs a.1.toNat := by simp [cntTo, cn]
    have := (h4 (a.1.toNat - 1) (by omega) (by rw [j3]; exact j2)).mpr (by rw [show a.1.toNat - 1 + 1 = a.1.toNat by omega]; omega)
    omega
theorem mk_same {ns : List Note} {k : Nat} : ∀ {j : Nat}, k ≤ j → (∀ i, k < i → i ≤ j → joinsB ns i [] = true) → mkAt ns j = mkAt ns k := fun {j} => by
  induction j with
  | zero => intro h _; rw [Nat.le_zero.mp h]
  | succ j ih =>
    intro h z
    by_cases e : k = j + 1
    · rw [e]
    · have := (joins_same (z (j + 1) (by omega) (Nat.le_refl _))).2.2
      rw [Nat.add_sub_cancel] at this
      rw [← this]
      exact ih (by omega) fun i h1 h2 => z i h1 (by omega)
theorem StayOf.joins {ns : List Note} {cs : List Int} {f : List Stay} {k : Nat} {a : Stay} (hc : cs ∈ cutsL ns) (S : StayOf ns cs f k a) : ∀ j, a.1.toNat < j → j ≤ a.2.1.toNat → joinsB ns j [] = true := fun j h1 h2 => by
  rcases (mem_cuts.mp hc).2 j 0 (S.zer j h1 h2) with q | q
  · exact absurd q (by decide)
  · exact q.2
theorem StayOf.parts {ns : List Note} {cs : List Int} {f : List Stay} {k : Nat} {a : Stay} (hc : cs ∈ cutsL ns) (S : StayOf ns cs f k a) : ∀ j, cs[j]? = some 0 → joinsB ns j [((a.2.1.toNat + 1 : Nat) : Int)] = true := fun j z => by
  have ne : j ≠ a.2.1.toNat + 1 := fun q => S.out (by rw [← q]; exact z)
  rw [joins_other ne]
  rcases (mem_cuts.mp hc).2 j 0 z with q | q
  · exact absurd q (by decide)
  · exact q.2
def stayK (f : List Stay) (k : Nat) : Stay := (f[lawOf f k]?).getD (0, 0, 0, 0)
theorem StayOf.is {ns : List Note} {cs : List Int} {f : List Stay} {k : Nat} {a : Stay} (S : StayOf ns cs f k a) : stayK f k = a := by unfold stayK; rw [S.at_]; rfl
end
end Pu.Q
set_option Elab.async false
set_option linter.all false
set_option maxRecDepth 100000
set_option maxHeartbeats 8000000
namespace Pu.Q
open PySem PySem.Spec PyProof.Rows L2 Pu
section
variable {s l p : Int} {t : Str} {Q : RV → Ev → Prop}
theorem ok_while {c : M Bool} {b : S} {n : Nat} {e : Ev} {P : Out → Ev → Prop} : Ok (whileS c b (n + 1)) e P ↔ Ok c e fun k e1 => (k = true → Ok b e1 fun o e2 => match o with
    | .nx => Ok (whileS c b n) e2 P
    | .ct => Ok (whileS c b n) e2 P
    | .bk => P .nx e2
    | .rt r => P (.rt r) e2) ∧ (¬ k = true → P .nx e1) := by
  show O.Ok _ _ _ ↔ O.Ok _ _ _
  conv => lhs; unfold O.Ok whileS
  conv => rhs; unfold O.Ok
  cases c e with
  | ok k e1 =>
    cases k with
    | false => simp
    | true =>
      simp only [true_implies, not_true_eq_false, false_implies, and_true]
      show _ ↔ O.Ok _ _ _
      unfold O.Ok
      cases b e1 with
      | ok o e2 => cases o <;> exact Iff.rfl
      | _ => exact Iff.rfl
  | _ => exact Iff.rfl
theorem mt_is : mostTurns = 100000 := by unfold mostTurns; rfl
end
end Pu.Q
set_option Elab.async false
set_option linter.all false
set_option maxRecDepth 100000
set_option maxHeartbeats 8000000
set_option Elab.async false
set_option linter.all false
set_option maxRecDepth 100000
set_option maxHeartbeats 8000000
set_option Elab.async false
set_option linter.all false
set_option maxRecDepth 100000
set_option maxHeartbeats 8000000
set_option Elab.async false
set_option linter.all false
set_option maxRecDepth 100000
set_option maxHeartbeats 8000000
namespace Pu.Q
open PySem PySem.Spec PyProof.Rows L2 Pu
section
variable {s l p : Int} {t : Str} {Q : RV → Ev → Prop}
def lxA (ns : List Note) (xs : List Int) : Nat → Option Int
  | 0 => none
  | k + 1 => if (mkAt ns k).isSome = true then some (xs.getD k 0) else lxA ns xs k
def gnA (ns : List Note) (xs : List Int) : Nat → Int
  | 0 => -1
  | k + 1 => if (mkAt ns k).isSome = true then gnA ns xs k else xs.getD k 0
def lstA (s p : Int) (t : Str) (ns : List Note) (xs : List Int) (k : Nat) (m : Int) : Int := mx (mx (mx 0 (m - high t s)) (match lxA ns xs k with
  | none => 0
  | some y => y + p)) (gnA ns xs k + 1)
def OkA (s p : Int) (t : Str) (ns : List Note) (xs cs : List Int) (j : Nat) : Prop := (mkAt ns j = none → ∀ z, lxA ns xs j = some z → z < xs.getD j 0) ∧ ∀ m, mkAt ns j = some m → cs[j]? ≠ some 0 → lstA s p t ns xs j m ≤ mn (m - low t s) (xs.getD j 0)
def Arr (s p : Int) (t : Str) (ns : List Note) (xs : List Int) (a : Stay) : Prop := ∃ m, mkAt ns a.1.toNat = some m ∧ a.2.2.1 = lstA s p t ns xs a.1.toNat m ∧ a.2.2.2 = mn (m - low t s) (xs.getD a.1.toNat 0)
theorem arr_last {ns : List Note} {xs : List Int} {f : List Stay} {k : Int} (h : ∀ a ∈ f, Arr s p t ns xs a) : ∀ a ∈ setLast f k, Arr s p t ns xs a := by
  rcases List.eq_nil_or_concat f with z | ⟨g, b, z⟩
  · subst z
    intro q hq
    cases hq
  · rw [List.concat_eq_append] at z
    subst z
    rw [setLast_some (a := b) (by simp), List.dropLast_concat]
    intro q hq
    rcases List.mem_append.mp hq with q1 | q1
    · exact h q (List.mem_append_left _ q1)
    · rw [List.mem_singleton] at q1
      rw [q1]
      exact h b (List.mem_append_right _ (List.mem_singleton.mpr rfl))
theorem fit_go {ns : List Note} {xs cs : List Int} (hx : xs.length = ns.length) (hc : cs.length = ns.length) : ∀ (rest : List Note) (k : Nat) (w : FS), ns.drop k = rest → w.lx = lxA ns xs k → w.gone = gnA ns xs k → (∀ a ∈ w.found, Arr s p t ns xs a) →
    ((∃ w', stGo s p t rest (xs.drop k) (cs.drop k) k w = some w') ↔ ∀ j, k ≤ j → j < ns.length → OkA s p t ns xs cs j) ∧ ∀ w', stGo s p t rest (xs.drop k) (cs.drop k) k w = some w' → ∀ a ∈ w'.found, Arr s p t ns xs a
  | [], k, w, hd, h1, h2, h3 => by
    have : ns.length ≤ k := List.drop_eq_nil_iff.mp hd
    have e : stGo s p t [] (xs.drop k) (cs.drop k) k w = some w := by simp [stGo]
    rw [e]
    exact ⟨⟨fun _ j a b => by omega, fun _ => ⟨w, rfl⟩⟩, fun w' hw => by cases hw; exact h3⟩
  | n :: r, k, w, hd, h1, h2, h3 => by
    obtain ⟨hi, hr⟩ := drop_head hd
    have mk := mkAt_get hi
    have lt : k < ns.length := (List.getElem?_eq_some_iff.mp hi).1
    have kx : k < xs.length := by omega
    have kc : k < cs.length := by omega
    have gx : xs.getD k 0 = xs[k] := by rw [List.getD_eq_getElem?_getD, List.getElem?_eq_getElem kx]; rfl
    have gc : cs[k]? = some cs[k] := List.getElem?_eq_getElem kc
    rw [List.drop_eq_getElem_cons kx, List.drop_eq_getElem_cons kc]
    have split : (∀ j, k ≤ j → j < ns.length → OkA s p t ns xs cs j) ↔ OkA s p t ns xs cs k ∧ ∀ j, k + 1 ≤ j → j < ns.length → OkA s p t ns xs cs j := ⟨fun z => ⟨z k (Nat.le_refl _) lt, fun j a b => z j (by omega) b⟩, fun z j a b => by
      by_cases e : j = k
      · rw [e]; exact z.1
      · exact z.2 j (by omega) b⟩
    rw [split]
    simp only [stGo]
    have ih := fun w g1 g2 g3 => fit_go hx hc r (k + 1) w hr g1 g2 g3
    have sl : stLeast s p t = fun m (w : FS) => mx (mx (mx 0 (m - high t s)) (match w.lx with
      | none => 0
      | some y => y + p)) (w.gone + 1) := rfl
    have no : ∀ {w1 : FS}, stStep s p t k n xs[k] cs[k] w = some w1 → w1.lx = lxA ns xs (k + 1) → w1.gone = gnA ns xs (k + 1) → (∀ a ∈ w1.found, Arr s p t ns xs a) → OkA s p t ns xs cs k →
        (((∃ w', ((stStep s p t k n xs[k] cs[k] w).bind fun w' => stGo s p t r (xs.drop (k + 1)) (cs.drop (k + 1)) (k + 1) w') = some w') ↔ OkA s p t ns xs cs k ∧ ∀ j, k + 1 ≤ j → j < ns.length → OkA s p t ns xs cs j) ∧ ∀ w', ((stStep s p t k n xs[k] cs[k] w).bind fun w' => stGo s p t r (xs.drop (k + 1)) (cs.drop (k + 1)) (k + 1) w') = some w' → ∀ a ∈ w'.found, Arr s p t ns xs a) := fun {w1} e g1 g2 g3 g4 => by
      obtain ⟨i1, i2⟩ := ih w1 g1 g2 g3
      rw [e]
      exact ⟨⟨fun z => ⟨g4, i1.mp z⟩, fun z => i1.mpr z.2⟩, i2⟩
    have bad : stStep s p t k n xs[k] cs[k] w = none → ¬ OkA s p t ns xs cs k →
        (((∃ w', ((stStep s p t k n xs[k] cs[k] w).bind fun w' => stGo s p t r (xs.drop (k + 1)) (cs.drop (k + 1)) (k + 1) w') = some w') ↔ OkA s p t ns xs cs k ∧ ∀ j, k + 1 ≤ j → j < ns.length → OkA s p t ns xs cs j) ∧ ∀ w', ((stStep s p t k n xs[k] cs[k] w).bind fun w' => stGo s p t r (xs.drop (k + 1)) (cs.drop (k + 1)) (k + 1) w') = some w' → ∀ a ∈ w'.found, Arr s p t ns xs a) := fun e g => by
      rw [e]
      exact ⟨⟨fun z => (by obtain ⟨w', z⟩ := z; cases z), fun z => absurd z.1 g⟩, fun w' z => by cases z⟩
    obtain ⟨lo, hi_, m⟩ := n
    simp only at mk
    cases m with
    | none =>
      have l1 : lxA ns xs (k + 1) = lxA ns xs k := by simp [lxA, mk]
      have l2 : gnA ns xs (k + 1) = xs[k] := by simp only [gnA, mk]; rw [← gx]; rfl
      by_cases q : ∀ z, lxA ns xs k = some z → z < xs[k]
      · refine no (w1 := { w with gone := xs[k] }) ?_ (by rw [l1]; exact h1) (by rw [l2]) h3 ⟨fun _ => by rw [gx]; exact q, fun m hm => by rw [mk] at hm; cases hm⟩
        simp only [stStep, h1]
        cases hl : lxA ns xs k with
        | none => rfl
        | some z =>
          have := q z hl
          simp only
          rw [if_neg (by omega)]
      · refine bad ?_ (fun z => q (by have := z.1 mk; rwa [gx] at this))
        simp only [stStep, h1]
        cases hl : lxA ns xs k with
        | none => exact absurd (fun z hz => by rw [hl] at hz; cases hz) q
        | some z =>
          simp only
          rw [if_pos]
          refine Classical.byContradiction fun y => q fun z' hz' => ?_
          rw [hl] at hz'
          cases hz'
          omega
    | some m =>
      have l1 : lxA ns xs (k + 1) = some xs[k] := by simp only [lxA, mk]; rw [← gx]; rfl
      have l2 : gnA ns xs (k + 1) = gnA ns xs k := by simp [gnA, mk]
      by_cases c0 : cs[k] = 0
      · refine no (w1 := ⟨setLast w.found k, w.gone, some xs[k]⟩) (by simp only [stStep]; rw [if_pos c0]) (by rw [l1]) (by rw [l2]; exact h2) (arr_last h3) ⟨fun z => (by rw [mk] at z; cases z), fun m' hm z => absurd (by rw [gc, c0]) z⟩
      · have e1 : stLeast s p t m w = lstA s p t ns xs k m := by unfold stLeast lstA; rw [h1, h2] <;> rfl
        by_cases q : lstA s p t ns xs k m ≤ mn (m - low t s) xs[k]
        · refine no (w1 := ⟨w.found ++ [((k : Int), (k : Int), stLeast s p t m w, mn (m - low t s) xs[k])], w.gone, some xs[k]⟩) ?_ (by rw [l1]) (by rw [l2]; exact h2) (fun a ha => ?_) ⟨fun z => (by rw [mk] at z; cases z), fun m' hm _ => ?_⟩
          · simp only [stStep]
            rw [if_neg c0, if_neg (by omega)]
          · rcases List.mem_append.mp ha with q1 | q1
            · exact h3 a q1
            · rw [List.mem_singleton] at q1
              rw [q1]
              refine ⟨m, ?_, ?_, ?_⟩
              · simp only [Int.toNat_natCast]; exact mk
              · simp only [Int.toNat_natCast]; exact e1
              · simp only [Int.toNat_natCast]; rw [gx]
          · rw [mk] at hm
            cases hm
            rw [gx]
            exact q
        · refine bad ?_ (fun z => q (by have := z.2 m mk (fun y => c0 (by rw [gc] at y; exact Option.some.inj y)); rwa [gx] at this))
          simp only [stStep]
          rw [if_neg c0, if_pos (by omega)]
theorem fit_iff {ns : List Note} {xs cs : List Int} (hx : xs.length = ns.length) (hc : cs.length = ns.length) : (∃ f, staysL s p t ns xs cs = some f) ↔ ∀ j, j < ns.length → OkA s p t ns xs cs j := by
  have h := (fit_go (s := s) (p := p) (t := t) hx hc ns 0 fs0 rfl rfl rfl (fun a ha => by cases ha)).1
  rw [List.drop_zero, List.drop_zero] at h
  unfold staysL
  constructor
  · rintro ⟨f, e⟩ j hj
    cases hw : stGo s p t ns xs cs 0 fs0 with
    | none => rw [hw] at e; cases e
    | some w => exact h.mp ⟨w, hw⟩ j (Nat.zero_le _) hj
  · intro z
    obtain ⟨w, hw⟩ := h.mpr fun j _ hj => z j hj
    exact ⟨w.found, by rw [hw]; rfl⟩
theorem fit_arr {ns : List Note} {xs cs : List Int} {f : List Stay} (hx : xs.length = ns.length) (hc : cs.length = ns.length) (e : staysL s p t ns xs cs = some f) : ∀ a ∈ f, Arr s p t ns xs a := by
  have h := (fit_go (s := s) (p := p) (t := t) hx hc ns 0 fs0 rfl rfl rfl (fun a ha => by cases ha)).2
  rw [List.drop_zero, List.drop_zero] at h
  unfold staysL at e
  cases hw : stGo s p t ns xs cs 0 fs0 with
  | none => rw [hw] at e; cases e
  | some w =>
    rw [hw] at e
    cases e
    exact h w hw
def bmA (s p : Int) (t : Str) (ns : List Note) (ap : List Int) (k : Nat) : Int := (bMin s p t ns ap ns 0).getD k 0
end
end Pu.Q
set_option Elab.async false
set_option linter.all false
set_option maxRecDepth 100000
set_option maxHeartbeats 8000000
namespace Pu.Q
open PySem PySem.Spec PyProof.Rows L2 Pu
section
variable {s l p : Int} {t : Str} {Q : RV → Ev → Prop}
theorem Mins.mono' {ns : List Note} {q : Option Int} {xs : List Int} (M : Mins ns q xs) {i j : Nat} (h : i ≤ j) (hj : j < ns.length) : xs.getD i 0 ≤ xs.getD j 0 := by
  obtain ⟨a, ha⟩ := get_lt (xs := xs) (j := i) (by rw [M.len]; omega)
  obtain ⟨b, hb⟩ := get_lt (xs := xs) (j := j) (by rw [M.len]; omega)
  rw [getD_of ha, getD_of hb]
  exact M.mono h ha hb
theorem Mins.ge0 {ns : List Note} {q : Option Int} {xs : List Int} (h0 : ∀ n ∈ ns, 0 ≤ n.1) (M : Mins ns q xs) (j : Nat) : 0 ≤ xs.getD j 0 := by
  by_cases h : j < ns.length
  · obtain ⟨a, ha⟩ := get_lt (xs := xs) (j := j) (by rw [M.len]; omega)
    have := (M.bnd (List.getElem?_eq_getElem h) ha).1
    have := h0 ns[j] (List.getElem_mem h)
    rw [getD_of ha]
    omega
  · rw [List.getD_eq_getElem?_getD, List.getElem?_eq_none (by rw [M.len]; omega)]
    exact Int.le_refl _
theorem mk_lt {ns : List Note} {j : Nat} (h : (mkAt ns j).isSome = true) : j < ns.length := by
  refine Classical.byContradiction fun z => ?_
  unfold mkAt at h
  rw [List.getElem?_eq_none (by omega)] at h
  cases h
end
end Pu.Q
set_option Elab.async false
set_option linter.all false
set_option maxRecDepth 100000
set_option maxHeartbeats 8000000
namespace Pu.Q
open PySem PySem.Spec PyProof.Rows L2 Pu
section
variable {s l p : Int} {t : Str} {Q : RV → Ev → Prop}
theorem cutsOf_get {ns : List Note} {ap : List Int} {j : Nat} (hj : j < ns.length) : (cutsOf ns ap)[j]? = some (cutOf ns ap j) := by
  unfold cutsOf
  rw [List.getElem?_map, List.getElem?_range hj]; rfl
theorem bm_out {ns : List Note} {out : List (Int × Option Int)} (hp : 1 ≤ p) (h0 : ∀ n ∈ ns, 0 ≤ n.1) (e : ways s p t ns [] = some out) : (Mins ns none (out.map (·.1)) ∧ ∃ f, staysL s p t ns (out.map (·.1)) (cutsOf ns []) = some f) ∧ (Mins ns none (bMin s p t ns [] ns 0) ∧ ∃ f, staysL s p t ns (bMin s p t ns [] ns 0) (cutsOf ns []) = some f) ∧ ∀ j, j < ns.length → (out.map (·.1)).getD j 0 ≤ bmA s p t ns [] j := by
  obtain ⟨f, e1, M1⟩ := ways_fit hp e
  obtain ⟨g, M2, V⟩ := lates_fit hp h0 M1 cutsOf_mem e1
  refine ⟨⟨M1, f, e1⟩, ⟨M2, g⟩, fun j hj => ?_⟩
  obtain ⟨a, ha⟩ := get_lt (xs := out.map (·.1)) (j := j) (by rw [M1.len]; exact hj)
  obtain ⟨b, hb⟩ := get_lt (xs := bMin s p t ns [] ns 0) (j := j) (by rw [M2.len]; exact hj)
  unfold bmA
  rw [getD_of ha, getD_of hb]
  exact V j a b ha hb
end
end Pu.Q
set_option Elab.async false
set_option linter.all false
set_option maxRecDepth 100000
set_option maxHeartbeats 8000000
set_option Elab.async false
set_option linter.all false
set_option maxRecDepth 100000
set_option maxHeartbeats 8000000
set_option Elab.async false
set_option linter.all false
set_option maxRecDepth 100000
set_option maxHeartbeats 8000000
set_option Elab.async false
set_option linter.all false
set_option maxRecDepth 100000
set_option maxHeartbeats 8000000
namespace Pu.Q
open PySem PySem.Spec PyProof.Rows L2 Pu
section
variable {s l p : Int} {t : Str} {Q : RV → Ev → Prop}
def firstE (ns : List Note) : Nat → Nat
  | 0 => 0
  | k + 1 => if joinsB ns (k + 1) [] = true then firstE ns k else k + 1
theorem firstE_ok {ns : List Note} : ∀ k, firstE ns k ≤ k ∧ (∀ j, firstE ns k < j → j ≤ k → joinsB ns j [] = true) ∧ joinsB ns (firstE ns k) [] = false
  | 0 => ⟨Nat.le_refl _, fun j h1 h2 => by simp only [firstE] at h1; omega, by simp [firstE, joinsB]⟩
  | k + 1 => by
    simp only [firstE]
    cases q : joinsB ns (k + 1) [] with
    | false =>
      rw [if_neg Bool.false_ne_true]
      exact ⟨Nat.le_refl _, fun j h1 h2 => by omega, q⟩
    | true =>
      rw [if_pos rfl]
      obtain ⟨a, b, c⟩ := firstE_ok (ns := ns) k
      refine ⟨by omega, fun j h1 h2 => ?_, c⟩
      by_cases e : j = k + 1
      · rw [e]; exact q
      · exact b j h1 (by omega)
theorem mk_first {ns : List Note} (k : Nat) : mkAt ns k = mkAt ns (firstE ns k) := by
  obtain ⟨h1, h2, h3⟩ := firstE_ok (ns := ns) k
  exact mk_same h1 h2
end
end Pu.Q
set_option Elab.async false
set_option linter.all false
set_option maxRecDepth 100000
set_option maxHeartbeats 8000000
set_option Elab.async false
set_option linter.all false
set_option maxRecDepth 100000
set_option maxHeartbeats 8000000
set_option Elab.async false
set_option linter.all false
set_option maxRecDepth 100000
set_option maxHeartbeats 8000000
set_option Elab.async false
set_option linter.all false
set_option maxRecDepth 100000
set_option maxHeartbeats 8000000
set_option Elab.async false
set_option linter.all false
set_option maxRecDepth 100000
set_option maxHeartbeats 8000000
set_option Elab.async false
set_option linter.all false
set_option maxRecDepth 100000
set_option maxHeartbeats 8000000
set_option Elab.async false
set_option linter.all false
set_option maxRecDepth 100000
set_option maxHeartbeats 8000000
namespace Pu.Q
open PySem PySem.Spec PyProof.Rows L2 Pu
section
variable {s l p : Int} {t : Str} {Q : RV → Ev → Prop}
abbrev Pln := Int × Str × Int × Int
structure PlOk (q : Pln) : Prop where
  g : 1 ≤ q.1 ∧ q.1 ≤ 60
  t : inMenu q.2.1
  f : q.1 ≤ q.2.2.1 ∧ q.2.2.1 ≤ 1000
  p : 1 ≤ q.2.2.2 ∧ q.2.2.2 ≤ 100
end
end Pu.Q
set_option Elab.async false
set_option linter.all false
set_option maxRecDepth 100000
set_option maxHeartbeats 8000000
set_option Elab.async false
set_option linter.all false
set_option maxRecDepth 100000
set_option maxHeartbeats 8000000
namespace Pu.Q
open PySem PySem.Spec PyProof.Rows L2 Pu
section
variable {s l p : Int} {t : Str} {Q : RV → Ev → Prop}
structure PlS (q : Pln) : Prop where
  g : 1 ≤ q.1 ∧ q.1 ≤ 12
  t : inMenu q.2.1
  f : q.1 ≤ q.2.2.1 ∧ q.2.2.1 ≤ 60
  p : 1 ≤ q.2.2.2 ∧ q.2.2.2 ≤ 8
theorem PlS.ok {q : Pln} (h : PlS q) : PlOk q := ⟨by have := h.g; omega, h.t, by have := h.f; omega, by have := h.p; omega⟩
end
end Pu.Q
set_option Elab.async false
set_option linter.all false
set_option maxRecDepth 100000
set_option maxHeartbeats 8000000
namespace Pu.Q
open PySem PySem.Spec PyProof.Rows L2 Pu
section
variable {s l p : Int} {t : Str} {Q : RV → Ev → Prop}
def shw (xs : List Int) (a : Stay) : Int × Int := (a.2.2.1, xs.getD a.2.1.toNat 0)
theorem filter_one {α : Type} {P : α → Bool} {a : α} : ∀ {xs : List α} {c : Nat}, xs[c]? = some a → P a = true → (∀ i b, xs[i]? = some b → P b = true → i = c) → xs.filter P = [a]
  | [], c, h, _, _ => by simp at h
  | x :: r, 0, h, ha, hu => by
    simp only [List.getElem?_cons_zero] at h
    cases h
    rw [List.filter_cons_of_pos ha]
    congr 1
    rw [List.filter_eq_nil_iff]
    intro b hb hP
    obtain ⟨i, hi⟩ := List.mem_iff_getElem?.mp hb
    have := hu (i + 1) b (by simpa using hi) hP
    omega
  | x :: r, c + 1, h, ha, hu => by
    have hx : ¬ P x = true := fun z => by have := hu 0 x rfl z; omega
    rw [List.filter_cons_of_neg hx]
    exact filter_one (c := c) (by simpa using h) ha fun i b hi hP => by have := hu (i + 1) b (by simpa using hi) hP; omega
theorem lxA_ge {ns : List Note} {q : Option Int} {xs : List Int} (M : Mins ns q xs) {b : Nat} (mb : (mkAt ns b).isSome = true) : ∀ {k : Nat}, b < k → k ≤ ns.length → ∃ z, lxA ns xs k = some z ∧ xs.getD b 0 ≤ z
  | 0, h, _ => by omega
  | k + 1, h, hk => by
    simp only [lxA]
    by_cases c : (mkAt ns k).isSome = true
    · rw [if_pos c]
      exact ⟨_, rfl, M.mono' (by omega) (by omega)⟩
    · rw [if_neg c]
      have : b ≠ k := fun z => c (by rw [← z]; exact mb)
      exact lxA_ge M mb (by omega) (by omega)
theorem gnA_ge {ns : List Note} {q : Option Int} {xs : List Int} (M : Mins ns q xs) {b : Nat} (mb : mkAt ns b = none) : ∀ {k : Nat}, b < k → k ≤ ns.length → xs.getD b 0 ≤ gnA ns xs k
  | 0, h, _ => by omega
  | k + 1, h, hk => by
    simp only [gnA]
    by_cases c : (mkAt ns k).isSome = true
    · rw [if_pos c]
      have : b ≠ k := fun z => by rw [← z, mb] at c; cases c
      exact gnA_ge M mb (by omega) (by omega)
    · rw [if_neg c]
      exact M.mono' (by omega) (by omega)
structure ShF (s p : Int) (t : Str) (ns : List Note) (xs cs : List Int) (f : List Stay) : Prop where
  M : Mins ns none xs
  hc : cs ∈ cutsL ns
  e : staysL s p t ns xs cs = some f
  h0 : ∀ n ∈ ns, 0 ≤ n.1
  hp : 1 ≤ p
variable {ns : List Note} {xs cs : List Int} {f : List Stay}
theorem ShF.at_ (F : ShF s p t ns xs cs f) {i : Nat} {a : Stay} (h : f[i]? = some a) : StayOf ns cs f a.1.toNat a ∧ lawOf f a.1.toNat = i := by
  have B := fit_bk F.hc F.e
  obtain ⟨m, hm⟩ := fit_firsts F.e a (List.mem_of_getElem? h)
  have ms : (mkAt ns a.1.toNat).isSome = true := by rw [hm]; rfl
  have lt := mk_lt ms
  obtain ⟨h1, h2, h3, h4⟩ := B.at_ i a.1 a.2.1 (by rw [List.getElem?_map, h]; rfl)
  have c := (h4 _ lt ms).mp ⟨by omega, by omega⟩
  have li := lawOf_is B F.hc lt ms
  obtain ⟨a', S⟩ := stay_end F.hc F.e lt ms
  have ei : lawOf f a.1.toNat = i := by omega
  have at' := S.at_
  rw [ei, h] at at'
  cases at'
  exact ⟨S, ei⟩
theorem ShF.in_ (F : ShF s p t ns xs cs f) {a : Stay} {i : Nat} (h : f[i]? = some a) : 0 ≤ (shw xs a).1 ∧ (shw xs a).1 ≤ xs.getD a.1.toNat 0 ∧ xs.getD a.1.toNat 0 ≤ (shw xs a).2 := by
  obtain ⟨S, _⟩ := F.at_ h
  obtain ⟨m, r1, r2, r3⟩ := fit_arr F.M.len (mem_cuts.mp F.hc).1 F.e a (List.mem_of_getElem? h)
  have ok := (fit_iff F.M.len (mem_cuts.mp F.hc).1).mp ⟨_, F.e⟩ a.1.toNat (by have := S.l1; have := S.l2; have := S.l3; omega)
  have le := ok.2 m r1 S.beg
  have b := (mn_le' (i := m - low t s) (j := xs.getD a.1.toNat 0)).2
  have z0 : 0 ≤ lstA s p t ns xs a.1.toNat m := by
    unfold lstA
    rw [mx_eq _ (gnA ns xs a.1.toNat + 1), mx_eq (mx 0 (m - high t s)), mx_eq 0]
    omega
  unfold shw
  simp only
  rw [r2]
  exact ⟨z0, by omega, F.M.mono' (by have := S.l1; have := S.l2; omega) S.l3⟩
theorem ShF.apart (F : ShF s p t ns xs cs f) {a b : Stay} {i j : Nat} (h : f[i]? = some a) (h' : f[j]? = some b) (lt : i < j) : (shw xs a).2 + p ≤ (shw xs b).1 := by
  obtain ⟨S, e1⟩ := F.at_ h
  obtain ⟨S', e2⟩ := F.at_ h'
  have B := fit_bk F.hc F.e
  obtain ⟨m, hm⟩ := S.mb
  have mb : (mkAt ns a.2.1.toNat).isSome = true := by rw [hm]; rfl
  obtain ⟨m', r1, r2, r3⟩ := fit_arr F.M.len (mem_cuts.mp F.hc).1 F.e b (List.mem_of_getElem? h')
  have mb' : (mkAt ns b.1.toNat).isSome = true := by rw [r1]; rfl
  obtain ⟨h1, h2, h3, h4⟩ := B.at_ i a.1 a.2.1 (by rw [List.getElem?_map, h]; rfl)
  obtain ⟨g1, g2, g3, g4⟩ := B.at_ j b.1 b.2.1 (by rw [List.getElem?_map, h']; rfl)
  have c1 := (h4 _ S.l3 mb).mp ⟨by omega, by omega⟩
  have c2 := (g4 _ (mk_lt mb') mb').mp ⟨by omega, by omega⟩
  have ab : a.2.1.toNat < b.1.toNat := by
    refine Classical.byContradiction fun z => ?_
    have := cutN_mono (ns := ns) (cs := cs) (show b.1.toNat + 1 ≤ a.2.1.toNat + 1 by omega)
    omega
  obtain ⟨z, z1, z2⟩ := lxA_ge F.M mb ab (by have := mk_lt mb'; omega)
  have : z + p ≤ lstA s p t ns xs b.1.toNat m' := by
    unfold lstA
    rw [z1, mx_eq _ (gnA ns xs b.1.toNat + 1), mx_eq (mx 0 (m' - high t s))]
    simp only
    omega
  unfold shw
  simp only
  rw [r2]
  omega
theorem ShF.seen (F : ShF s p t ns xs cs f) (hs : 0 < s) (ht : inMenu t) (hm : ∀ n ∈ ns, ∀ m, n.2.2 = some m → m % s = 0) {j : Nat} (hj : j < ns.length) :
    (((f.map (shw xs)).filter fun q => decide (q.1 ≤ xs.getD j 0 ∧ xs.getD j 0 ≤ q.2)).map fun q => markV t s q.1) = (match mkAt ns j with
      | none => []
      | some m => [m]) := by
  have cl := (mem_cuts.mp F.hc).1
  cases hk : mkAt ns j with
  | none =>
    simp only [List.map_eq_nil_iff, List.filter_eq_nil_iff]
    intro q hq
    obtain ⟨a, ha, rfl⟩ := List.mem_map.mp hq
    obtain ⟨i, hi⟩ := List.mem_iff_getElem?.mp ha
    obtain ⟨S, _⟩ := F.at_ hi
    obtain ⟨m, r1, r2, r3⟩ := fit_arr F.M.len cl F.e a ha
    have s1 := S.l1
    have s2 := S.l2
    have s3 := S.l3
    have out : j < a.1.toNat ∨ a.2.1.toNat < j := by
      refine Classical.byContradiction fun z => ?_
      have : mkAt ns j = mkAt ns a.1.toNat := mk_same (by omega) fun i i1 i2 => S.joins F.hc i i1 (by omega)
      rw [hk, r1] at this
      cases this
    intro z
    have z := of_decide_eq_true z
    unfold shw at z
    simp only at z
    rcases out with o | o
    · have := gnA_ge F.M hk o (by omega)
      have : gnA ns xs a.1.toNat + 1 ≤ lstA s p t ns xs a.1.toNat m := by
        unfold lstA
        rw [mx_eq _ (gnA ns xs a.1.toNat + 1)]
        omega
      rw [r2] at z
      omega
    · obtain ⟨m', hm'⟩ := S.mb
      obtain ⟨y, y1, y2⟩ := lxA_ge F.M (show (mkAt ns a.2.1.toNat).isSome = true by rw [hm']; rfl) o (by omega)
      have ok := (fit_iff F.M.len cl).mp ⟨_, F.e⟩ j hj
      have := ok.1 hk y y1
      omega
  | some m =>
    obtain ⟨a, S⟩ := stay_end F.hc F.e hj (by rw [hk]; rfl)
    have s1 := S.l1
    have s2 := S.l2
    have s3 := S.l3
    obtain ⟨i1, i2, i3⟩ := F.in_ S.at_
    have in1 : xs.getD a.1.toNat 0 ≤ xs.getD j 0 := F.M.mono' s1 hj
    have in2 : xs.getD j 0 ≤ xs.getD a.2.1.toNat 0 := F.M.mono' s2 s3
    have e2 : (shw xs a).2 = xs.getD a.2.1.toNat 0 := rfl
    have one := filter_one (P := fun q : Int × Int => decide (q.1 ≤ xs.getD j 0 ∧ xs.getD j 0 ≤ q.2)) (xs := f.map (shw xs)) (c := lawOf f j) (a := shw xs a) (by rw [List.getElem?_map, S.at_]; rfl) (decide_eq_true ⟨by omega, by omega⟩) fun i b hb hP => by
      have hP := of_decide_eq_true hP
      rw [List.getElem?_map] at hb
      cases hq : f[i]? with
      | none => rw [hq] at hb; cases hb
      | some a' =>
        rw [hq] at hb
        cases hb
        refine Classical.byContradiction fun ne => ?_
        by_cases lt : i < lawOf f j
        · have := F.apart hq S.at_ lt
          have := F.hp
          omega
        · have := F.apart S.at_ hq (by omega)
          have := F.hp
          omega
    rw [one]
    simp only [List.map_cons, List.map_nil]
    congr 1
    obtain ⟨m', r1, r2, r3⟩ := fit_arr F.M.len cl F.e a (List.mem_of_getElem? S.at_)
    have : mkAt ns j = mkAt ns a.1.toNat := mk_same s1 fun i i1 i2 => S.joins F.hc i i1 (by omega)
    rw [hk, r1] at this
    cases this
    have ok := (fit_iff F.M.len cl).mp ⟨_, F.e⟩ a.1.toNat (by omega)
    have le := ok.2 m r1 S.beg
    have mm : m % s = 0 := by
      have := mkAt_of hj
      rw [hk] at this
      exact hm _ (List.getElem_mem hj) m this.symm
    have lo : m - high t s ≤ lstA s p t ns xs a.1.toNat m := by
      unfold lstA
      rw [mx_eq _ (gnA ns xs a.1.toNat + 1), mx_eq (mx 0 (m - high t s)), mx_eq 0]
      omega
    have hi := (mn_le' (i := m - low t s) (j := xs.getD a.1.toNat 0)).1
    show markV t s a.2.2.1 = m
    rw [mark_iff hs ht mm, r2]
    exact ⟨lo, by omega⟩
end
end Pu.Q
set_option Elab.async false
set_option linter.all false
set_option maxRecDepth 100000
set_option maxHeartbeats 8000000
namespace Pu.Q
open PySem PySem.Spec PyProof.Rows L2 Pu
section
variable {s l p : Int} {t : Str} {Q : RV → Ev → Prop}
theorem Ok.compM {α : Type} {ws : List Nat} {mt : Val → M Unit} {mc : M Bool} {me : M RV} {e : Ev} (g : α → Val) (q : α → Bool) (f : α → Val) : ∀ {xs : List α} {acc : List Val}, acc.length + xs.length ≤ sizeLine →
    (∀ x ∈ xs, Ok (mt (g x)) e fun _ e1 => Ok mc e1 fun b e2 => b = q x ∧ (q x = true → Ok me e2 fun y e3 => Ok (M.dt y) e3 fun w e4 => w = f x ∧ wipeE e4 ws = e) ∧ (q x = false → wipeE e2 ws = e)) →
    Ok (compS ws mt mc me (xs.map g) acc) e fun r e' => r = acc ++ (xs.filter q).map f ∧ e' = e
  | [], acc, _, _ => by
    rw [List.map_nil, ok_compS0]
    simp
  | v :: vs, acc, hl, st => by
    rw [List.length_cons] at hl
    rw [List.map_cons, ok_compSC]
    refine Ok.mono (st v List.mem_cons_self) fun _ e1 h1 => Ok.mono h1 ?_
    rintro b e2 ⟨rfl, h2, h3⟩
    refine ⟨fun hb => Ok.mono (h2 hb) fun x e3 h4 => Ok.mono h4 ?_, fun hb => ?_⟩
    · rintro w e4 ⟨rfl, h5⟩
      refine ⟨by omega, ?_⟩
      rw [h5]
      refine Ok.mono (Ok.compM g q f (by simp; omega) fun u hu => st u (List.mem_cons_of_mem _ hu)) ?_
      rintro r e' ⟨rfl, rfl⟩
      refine ⟨?_, rfl⟩
      rw [List.filter_cons, if_pos hb, List.map_cons, List.append_assoc]
      rfl
    · have hb' : q v = false := by simpa using hb
      rw [h3 hb']
      refine Ok.mono (Ok.compM g q f (by omega) fun u hu => st u (List.mem_cons_of_mem _ hu)) ?_
      rintro r e' ⟨rfl, rfl⟩
      refine ⟨?_, rfl⟩
      rw [List.filter_cons, if_neg hb]
theorem Ok.compN {α : Type} {ws : List Nat} {mt : Val → M Unit} {me : M RV} {e : Ev} (g : α → Val) (f : α → Val) {xs : List α} (hl : xs.length ≤ sizeLine)
    (st : ∀ x ∈ xs, Ok (mt (g x)) e fun _ e1 => Ok me e1 fun y e3 => Ok (M.dt y) e3 fun w e4 => w = f x ∧ wipeE e4 ws = e) :
    Ok (compS ws mt mYes me (xs.map g) []) e fun r e' => r = xs.map f ∧ e' = e := by
  refine Ok.mono (Ok.compM g (fun _ => true) f (acc := []) (by simpa using hl) fun x hx => Ok.mono (st x hx) fun _ e1 h => ?_) ?_
  · exact ⟨rfl, fun _ => h, fun z => by cases z⟩
  · rintro r e' ⟨rfl, rfl⟩
    rw [List.filter_eq_self.mpr fun _ _ => rfl]
    exact ⟨rfl, rfl⟩
end
end Pu.Q
set_option Elab.async false
set_option linter.all false
set_option maxRecDepth 100000
set_option maxHeartbeats 8000000
set_option Elab.async false
set_option linter.all false
set_option maxRecDepth 100000
set_option maxHeartbeats 8000000
set_option Elab.async false
set_option linter.all false
set_option maxRecDepth 100000
set_option maxHeartbeats 8000000
set_option Elab.async false
set_option linter.all false
set_option maxRecDepth 100000
set_option maxHeartbeats 1000000
set_option Elab.async false
set_option linter.all false
set_option maxRecDepth 100000
set_option maxHeartbeats 8000000
set_option Elab.async false
set_option linter.all false
set_option maxRecDepth 100000
set_option maxHeartbeats 8000000
set_option Elab.async false
set_option linter.all false
set_option maxRecDepth 100000
set_option maxHeartbeats 8000000
set_option Elab.async false
set_option linter.all false
set_option maxRecDepth 100000
set_option maxHeartbeats 8000000
set_option Elab.async false
set_option linter.all false
set_option maxRecDepth 100000
set_option maxHeartbeats 4000000
set_option Elab.async false
set_option linter.all false
set_option maxRecDepth 100000
set_option maxHeartbeats 4000000
set_option Elab.async false
set_option linter.all false
set_option maxRecDepth 100000
set_option maxHeartbeats 4000000
set_option Elab.async false
set_option linter.all false
set_option maxRecDepth 100000
set_option maxHeartbeats 4000000
set_option Elab.async false
set_option linter.all false
set_option maxRecDepth 100000
set_option maxHeartbeats 4000000
set_option Elab.async false
set_option linter.all false
set_option maxRecDepth 100000
set_option maxHeartbeats 4000000
set_option Elab.async false
set_option linter.all false
set_option maxRecDepth 100000
set_option maxHeartbeats 1000000
set_option Elab.async false
set_option linter.all false
set_option maxRecDepth 100000
set_option maxHeartbeats 1000000
set_option Elab.async false
set_option linter.all false
set_option maxRecDepth 100000
set_option maxHeartbeats 1000000
set_option Elab.async false
set_option linter.all false
set_option maxRecDepth 100000
set_option maxHeartbeats 1000000
set_option Elab.async false
set_option linter.all false
set_option maxRecDepth 100000
set_option maxHeartbeats 1000000
set_option Elab.async false
set_option linter.all false
set_option maxRecDepth 100000
set_option maxHeartbeats 1000000
set_option Elab.async false
set_option linter.all false
set_option maxRecDepth 100000
set_option maxHeartbeats 1000000
namespace Pu.Q
open PySem PySem.Spec PyProof.Rows L2 Pu
section
variable {s l p : Int} {t : Str} {Q : RV → Ev → Prop}
theorem gcd_step {a b : Int} (ha : 0 ≤ a) (hb : 0 ≤ b) : Int.gcd b (a % b) = Int.gcd a b := by
  obtain ⟨m, rfl⟩ := Int.eq_ofNat_of_zero_le ha
  obtain ⟨n, rfl⟩ := Int.eq_ofNat_of_zero_le hb
  show Nat.gcd n (m % n) = Nat.gcd m n
  rw [Nat.gcd_comm m n, Nat.gcd_rec n m, Nat.gcd_comm]
theorem mod_half {b r : Int} {k : Nat} (hr : 0 < r) (h : r < b) (hb : b < 2 ^ (k + 1)) : b % r < 2 ^ k := by
  have e := Int.mul_ediv_add_emod b r
  have h1 := Int.emod_lt_of_pos b hr
  have h2 := Int.emod_nonneg b (show r ≠ 0 by omega)
  have q : 1 ≤ b / r := by
    rcases Int.lt_or_le 0 (b / r) with z | z
    · omega
    · have : r * (b / r) ≤ 0 := Int.mul_nonpos_of_nonneg_of_nonpos (by omega) z
      omega
  have q2 : r ≤ r * (b / r) := by
    have := Int.mul_le_mul_of_nonneg_left q (show 0 ≤ r by omega)
    omega
  have e2 : (2 : Int) ^ (k + 1) = 2 * 2 ^ k := by rw [Int.pow_succ]; omega
  rw [e2] at hb
  generalize (2 : Int) ^ k = T at *
  generalize r * (b / r) = X at *
  omega
theorem common_loop {P : Out → Ev → Prop} : ∀ (k n : Nat) (a b : Int), 0 ≤ a → 0 ≤ b → b < 2 ^ k → P .nx [.dat (.int (Int.gcd a b : Nat)), .dat (.int 0)] → Ok ((whileS (mTru (mBin oGt (mVar 1) (mV (.int 0)))) (mPar true [0, 1] (mCons (mVar 1) (mCons (mBin oMod (mVar 0) (mVar 1)) mNil)))) (n + 2 * k + 1)) [.dat (.int a), .dat (.int b)] P := by
  intro k
  have stop : ∀ (n : Nat) (a b : Int), 0 ≤ a → b = 0 → P .nx [.dat (.int (Int.gcd a b : Nat)), .dat (.int 0)] → Ok ((whileS (mTru (mBin oGt (mVar 1) (mV (.int 0)))) (mPar true [0, 1] (mCons (mVar 1) (mCons (mBin oMod (mVar 0) (mVar 1)) mNil)))) (n + 1)) [.dat (.int a), .dat (.int b)] P := fun n a b ha hb hP => by
    subst hb
    rw [Int.gcd_zero, Int.natAbs_of_nonneg ha] at hP
    rw [ok_while]
    simp_arith
    exact hP
  induction k with
  | zero =>
    intro n a b ha hb hk hP
    exact stop _ a b ha (by simp at hk; omega) hP
  | succ k ih =>
    intro n a b ha hb hk hP
    by_cases b0 : b = 0
    · exact stop _ a b ha b0 hP
    · have r1 := Int.emod_lt_of_pos a (show 0 < b by omega)
      have r0 := Int.emod_nonneg a b0
      have g1 := gcd_step ha hb
      have t1 : ∀ N, Ok ((whileS (mTru (mBin oGt (mVar 1) (mV (.int 0)))) (mPar true [0, 1] (mCons (mVar 1) (mCons (mBin oMod (mVar 0) (mVar 1)) mNil)))) N) [.dat (.int b), .dat (.int (a % b))] P → Ok ((whileS (mTru (mBin oGt (mVar 1) (mV (.int 0)))) (mPar true [0, 1] (mCons (mVar 1) (mCons (mBin oMod (mVar 0) (mVar 1)) mNil)))) (N + 1)) [.dat (.int a), .dat (.int b)] P := fun N h => by
        rw [ok_while]
        have bp : b > 0 := by omega
        generalize hW : (whileS (mTru (mBin oGt (mVar 1) (mV (.int 0)))) (mPar true [0, 1] (mCons (mVar 1) (mCons (mBin oMod (mVar 0) (mVar 1)) mNil)))) = W at h ⊢
        simp_arith [↓bp]
        exact h
      refine t1 (n + 2 * (k + 1)) ?_
      by_cases rz : a % b = 0
      · exact stop (n + 2 * k + 1) b (a % b) hb rz (by rw [g1]; exact hP)
      · have g2 := gcd_step hb r0
        have t2 : ∀ N, Ok ((whileS (mTru (mBin oGt (mVar 1) (mV (.int 0)))) (mPar true [0, 1] (mCons (mVar 1) (mCons (mBin oMod (mVar 0) (mVar 1)) mNil)))) N) [.dat (.int (a % b)), .dat (.int (b % (a % b)))] P → Ok ((whileS (mTru (mBin oGt (mVar 1) (mV (.int 0)))) (mPar true [0, 1] (mCons (mVar 1) (mCons (mBin oMod (mVar 0) (mVar 1)) mNil)))) (N + 1)) [.dat (.int b), .dat (.int (a % b))] P := fun N h => by
          rw [ok_while]
          have bp : a % b > 0 := by omega
          generalize hW : (whileS (mTru (mBin oGt (mVar 1) (mV (.int 0)))) (mPar true [0, 1] (mCons (mVar 1) (mCons (mBin oMod (mVar 0) (mVar 1)) mNil)))) = W at h ⊢
          generalize a % b = r at bp h ⊢
          simp_arith [↓bp]
          exact h
        refine t2 (n + 2 * k + 1) ?_
        refine ih n _ _ r0 (Int.emod_nonneg b rz) (mod_half (by omega) r1 hk) ?_
        rw [g2, g1]
        exact hP
theorem r_common {a b : Int} (ha : 0 ≤ a) (hb : 0 ≤ b) (hk : b < 1606938044258990275541962092341162602522202993782792835301376) : Ok den_common [.dat (.int a), .dat (.int b)] Q ↔ Q (.dat (.int (Int.gcd a b : Nat))) [.un, .un] := by
  refine ok_det ?_
  unfold den_common
  rw [ok_d2]
  unfold b_common
  rw [ok_seq]
  rw [mt_is, show 100000 = 99599 + 2 * 200 + 1 from rfl]
  refine common_loop 200 99599 a b ha hb (by simpa using hk) ?_
  simp_arith
  done
theorem r_up {i j : Int} (h1 : 0 < j) (h2 : j < 1606938044258990275541962092341162602522202993782792835301376) : Ok den_up [.dat (.int i), .dat (.int j)] Q ↔ Q (.dat (.int (-(-i / j)))) [.un, .un] := by
  refine ok_det ?_
  simp_arith [↓den_up, ↓b_up]
  exact ⟨h1, h2⟩
def upD (i j : Int) : Int := -(-i / j)
theorem dv_b {i g B : Int} (hg : 0 < g) (h1 : -B ≤ i) (h2 : i ≤ B) : -B ≤ i / g ∧ i / g ≤ B := by
  have hB : 0 ≤ B := by omega
  have m : B * 1 ≤ B * g := Int.mul_le_mul_of_nonneg_left (by omega) hB
  rw [Int.mul_one] at m
  refine ⟨Int.le_ediv_of_mul_le hg ?_, ?_⟩
  · rw [Int.neg_mul]; omega
  · have := Int.ediv_le_ediv hg (show i ≤ B * g by omega)
    rwa [Int.mul_ediv_cancel _ (by omega)] at this
theorem mul_b {i j A B : Int} (a1 : -A ≤ i) (a2 : i ≤ A) (b1 : -B ≤ j) (b2 : j ≤ B) : -(A * B) ≤ i * j ∧ i * j ≤ A * B := by
  have h : (i * j).natAbs ≤ A.toNat * B.toNat := by
    rw [Int.natAbs_mul]
    exact Nat.mul_le_mul (by omega) (by omega)
  have e : ((A.toNat * B.toNat : Nat) : Int) = A * B := by
    rw [Int.natCast_mul, Int.toNat_of_nonneg (by omega), Int.toNat_of_nonneg (by omega)]
  rw [← e]
  generalize A.toNat * B.toNat = N at h ⊢
  omega
theorem cMul_w {i j : Int} (a1 : -1000000000000000000000000000000000000000000000000000000000000 ≤ i) (a2 : i ≤ 1000000000000000000000000000000000000000000000000000000000000) (b1 : -1000000000000000000000000000000000000000000000000000000000000 ≤ j) (b2 : j ≤ 1000000000000000000000000000000000000000000000000000000000000) : cMul i j := by
  refine .inr (.inr ⟨⟨?_, ?_⟩, ?_, ?_⟩) <;> omega
theorem up_first {i g : Int} (hg : 0 < g) : i ≤ upD i g * g ∧ upD i g * g < i + g := by
  unfold upD
  have e := Int.mul_ediv_add_emod (-i) g
  have r0 := Int.emod_nonneg (-i) (show g ≠ 0 by omega)
  have r1 := Int.emod_lt_of_pos (-i) hg
  rw [Int.neg_mul, Int.mul_comm]
  generalize g * (-i / g) = X at *
  omega
theorem fl_first {i g : Int} (hg : 0 < g) : i / g * g ≤ i ∧ i - g < i / g * g := by
  have e := Int.mul_ediv_add_emod i g
  have r0 := Int.emod_nonneg i (show g ≠ 0 by omega)
  have r1 := Int.emod_lt_of_pos i hg
  rw [Int.mul_comm]
  generalize g * (i / g) = X at *
  omega
def sumOf (lo hi part base slope : Int) : Int := if upD lo part * part > hi then 0 else
  base * ((hi - upD lo part * part) / part + 1) + slope * (((hi - upD lo part * part) / part + 1) * (upD lo part * part) + part * (((hi - upD lo part * part) / part + 1) * ((hi - upD lo part * part) / part + 1 - 1) / 2))
theorem r_sum_of {lo hi part base slope : Int} (h1 : 0 < part) (h2 : part ≤ 10000000000000) (l1 : -1000000000000000000000 ≤ lo) (l2 : lo ≤ 1000000000000000000000) (i1 : -1000000000000000000000 ≤ hi) (i2 : hi ≤ 1000000000000000000000)
    (b1 : -1000000000000000000000 ≤ base) (b2 : base ≤ 1000000000000000000000) (s1 : -1 ≤ slope) (s2 : slope ≤ 1) :
    Ok den_sum_of [.dat (.int lo), .dat (.int hi), .dat (.int part), .dat (.int base), .dat (.int slope)] Q ↔ Q (.dat (.int (sumOf lo hi part base slope))) [.un, .un, .un, .un, .un] := by
  have u1 := up_first (i := lo) h1
  have d1 := dv_b (i := -lo) (g := part) (B := 1000000000000000000000) h1 (by omega) (by omega)
  have ru := fun Q => r_up (i := lo) (j := part) (Q := Q) h1 (by omega)
  have cm : cMul (upD lo part) part := by unfold upD; exact cMul_w (by omega) (by omega) (by omega) (by omega)
  refine ok_det ?_
  unfold sumOf
  rw [show -(-lo / part) = upD lo part from rfl] at ru
  generalize upD lo part = U at ru cm u1 ⊢
  generalize hF : U * part = F at u1 ⊢
  have d2 := dv_b (i := hi - F) (g := part) (B := 3000000000000000000000) h1 (by omega) (by omega)
  generalize hM : (hi - F) / part = M at d2 ⊢
  have m1 := mul_b (i := M + 1) (j := M + 1 - 1) (A := 4000000000000000000000) (B := 4000000000000000000000) (by omega) (by omega) (by omega) (by omega)
  have c1 : cMul base (M + 1) := cMul_w (by omega) (by omega) (by omega) (by omega)
  have c2 : cMul (M + 1) F := cMul_w (by omega) (by omega) (by omega) (by omega)
  have c3 : cMul (M + 1) (M + 1 - 1) := cMul_w (by omega) (by omega) (by omega) (by omega)
  have m2 := mul_b (i := M + 1) (j := F) (A := 4000000000000000000000) (B := 4000000000000000000000) (by omega) (by omega) (by omega) (by omega)
  have d3 := dv_b (i := (M + 1) * (M + 1 - 1)) (g := 2) (B := 16000000000000000000000000000000000000000000) (by omega) (by omega) (by omega)
  have c4 : cMul part ((M + 1) * (M + 1 - 1) / 2) := cMul_w (by omega) (by omega) (by omega) (by omega)
  have m3 := mul_b (i := part) (j := (M + 1) * (M + 1 - 1) / 2) (A := 10000000000000) (B := 16000000000000000000000000000000000000000000) (by omega) (by omega) (by omega) (by omega)
  have c5 : cMul slope ((M + 1) * F + part * ((M + 1) * (M + 1 - 1) / 2)) := cMul_w (by omega) (by omega) (by omega) (by omega)
  have cd : cDiv (hi - F) part := ⟨h1, by omega⟩
  simp_arith [↓den_sum_of, ↓b_sum_of, ↓ru, ↓cm, ↓hF, ↓cd, ↓hM, ↓c1, ↓c2, ↓c3, ↓c4, ↓c5]
  by_cases g : F > hi
  · have g' : hi < F := g
    simp [g']
  · have g' : ¬ hi < F := g
    simp [g']
end
end Pu.Q
set_option Elab.async false
set_option linter.all false
set_option maxRecDepth 100000
set_option maxHeartbeats 1000000
namespace Pu.Q
open PySem PySem.Spec PyProof.Rows L2 Pu
section
variable {Q : RV → Ev → Prop}
def InR (step whole low high x : Int) : Prop := low ≤ step * x % whole ∧ step * x % whole ≤ high
def FirstIn (step whole low high : Int) : Option Int → Prop
  | none => ∀ x, 0 ≤ x → ¬ InR step whole low high x
  | some x0 => 0 ≤ x0 ∧ x0 < whole ∧ InR step whole low high x0 ∧ ∀ x, 0 ≤ x → x < x0 → ¬ InR step whole low high x
theorem mod_mul {a b n : Int} : a % n * b % n = a * b % n := by rw [Int.mul_emod, Int.emod_emod, ← Int.mul_emod]
theorem inR_mod {step whole low high x : Int} : InR (step % whole) whole low high x ↔ InR step whole low high x := by unfold InR; rw [mod_mul]
theorem first_mod {step whole low high : Int} {o : Option Int} (h : FirstIn (step % whole) whole low high o) : FirstIn step whole low high o := by
  cases o with
  | none => exact fun x hx z => h x hx (inR_mod.mpr z)
  | some x0 => exact ⟨h.1, h.2.1, inR_mod.mp h.2.2.1, fun x hx hl z => h.2.2.2 x hx hl (inR_mod.mpr z)⟩
theorem emod_is {a n q r : Int} (h : a = n * q + r) (r0 : 0 ≤ r) (r1 : r < n) : a % n = r := by
  subst h
  rw [Int.add_comm, Int.add_mul_emod_self_left]
  exact Int.emod_eq_of_lt r0 r1
theorem up_is {a g : Int} (hg : 0 < g) : a ≤ g * upD a g ∧ g * upD a g < a + g := by
  have := up_first (i := a) hg
  rw [Int.mul_comm] at this
  exact this
theorem up_le {a g x : Int} (hg : 0 < g) (h : a ≤ g * x) : upD a g ≤ x := by
  have u := (up_is (a := a) hg).2
  apply Int.le_of_lt_add_one
  have : g * upD a g < g * (x + 1) := by rw [Int.mul_add, Int.mul_one]; omega
  exact Int.lt_of_mul_lt_mul_left this (by omega)
section
variable {st whole low high : Int} (hs : 0 < st) (hw : st < whole) (l1 : 1 ≤ low) (lh : low ≤ high) (hh : high < whole)
include hs hw l1 lh hh
theorem first_base (h : st * upD low st ≤ high) : FirstIn st whole low high (some (upD low st)) := by
  have u := up_is (a := low) hs
  have p : 0 < upD low st := Int.pos_of_mul_pos_right (show 0 < st * upD low st by omega) hs |> fun z => z
  generalize hL : upD low st = L at *
  have le : L ≤ st * L := by
    have := Int.mul_le_mul_of_nonneg_right (show 1 ≤ st by omega) (show 0 ≤ L by omega)
    omega
  refine ⟨by omega, by omega, ?_, fun x x0 xl => ?_⟩
  · unfold InR
    rw [Int.emod_eq_of_lt (by omega) (by omega)]
    omega
  · have m : st * (x + 1) ≤ st * L := Int.mul_le_mul_of_nonneg_left (by omega) (by omega)
    have m0 : 0 ≤ st * x := Int.mul_nonneg (by omega) x0
    rw [Int.mul_add, Int.mul_one] at m
    unfold InR
    rw [Int.emod_eq_of_lt m0 (by omega)]
    omega
variable (h : high < st * upD low st)
include h
theorem ends_in : -high % st = st * upD low st - high ∧ -low % st = st * upD low st - low := by
  have u := up_is (a := low) hs
  generalize hL : upD low st = L at *
  refine ⟨emod_is (q := -L) (by rw [Int.mul_neg]; omega) (by omega) (by omega), emod_is (q := -L) (by rw [Int.mul_neg]; omega) (by omega) (by omega)⟩
theorem first_to {x : Int} (x0 : 0 ≤ x) (hx : InR st whole low high x) : 0 ≤ st * x / whole ∧ whole * (st * x / whole) + low ≤ st * x ∧ InR (whole % st) st (-high % st) (-low % st) (st * x / whole) := by
  obtain ⟨e1, e2⟩ := ends_in hs hw l1 lh hh h
  have u := up_is (a := low) hs
  have e := Int.mul_ediv_add_emod (st * x) whole
  have d0 : 0 ≤ st * x / whole := Int.ediv_nonneg (Int.mul_nonneg (by omega) x0) (by omega)
  unfold InR at hx
  generalize hv : st * x % whole = v at *
  generalize hy : st * x / whole = y at *
  refine ⟨d0, by omega, ?_⟩
  unfold InR
  rw [mod_mul, e1, e2]
  have : whole * y % st = st * upD low st - v := emod_is (q := x - upD low st) (by rw [Int.mul_sub]; omega) (by omega) (by omega)
  rw [this]
  omega
theorem first_from {y : Int} (y0 : 0 ≤ y) (hy : InR (whole % st) st (-high % st) (-low % st) y) : InR st whole low high (upD (low + whole * y) st) ∧ st * upD (low + whole * y) st ≤ whole * y + high ∧ 0 ≤ upD (low + whole * y) st := by
  obtain ⟨e1, e2⟩ := ends_in hs hw l1 lh hh h
  have u := up_is (a := low) hs
  have e := Int.mul_ediv_add_emod (whole * y) st
  unfold InR at hy
  rw [mod_mul, e1, e2] at hy
  have w0 : 0 ≤ whole * y := Int.mul_nonneg (by omega) y0
  have q0 : 0 ≤ whole * y / st := Int.ediv_nonneg w0 (by omega)
  generalize hr : whole * y % st = r at *
  generalize hq : whole * y / st = q at *
  have k : upD (low + whole * y) st = q + upD low st := by
    apply Int.le_antisymm
    · exact up_le hs (by rw [Int.mul_add]; omega)
    · have u2 := up_is (a := low + whole * y) hs
      apply Int.le_of_lt_add_one
      have : st * (q + upD low st) < st * (upD (low + whole * y) st + 1) := by rw [Int.mul_add, Int.mul_add, Int.mul_one]; omega
      exact Int.lt_of_mul_lt_mul_left this (by omega)
  rw [k]
  have p0 : 0 ≤ upD low st := by
    have : 0 < st * upD low st := by omega
    have := Int.pos_of_mul_pos_right this hs
    omega
  refine ⟨?_, by rw [Int.mul_add]; omega, by omega⟩
  unfold InR
  have : st * (q + upD low st) % whole = st * upD low st - r := emod_is (q := y) (by rw [Int.mul_add]; omega) (by omega) (by omega)
  rw [this]
  omega
theorem first_rec {o : Option Int} (ho : FirstIn (whole % st) st (-high % st) (-low % st) o) : FirstIn st whole low high (o.map fun back => upD (low + whole * back) st) := by
  cases o with
  | none =>
    intro x x0 hx
    obtain ⟨y0, _, hy⟩ := first_to hs hw l1 lh hh h x0 hx
    exact ho _ y0 hy
  | some b =>
    obtain ⟨b0, b1, hb, bm⟩ := ho
    obtain ⟨f1, f2, f3⟩ := first_from hs hw l1 lh hh h b0 hb
    refine ⟨f3, ?_, f1, fun x x0 xl hx => ?_⟩
    · have m : whole * (b + 1) ≤ whole * st := Int.mul_le_mul_of_nonneg_left (by omega) (by omega)
      rw [Int.mul_add, Int.mul_one] at m
      have : st * upD (low + whole * b) st < st * whole := by rw [Int.mul_comm st whole]; omega
      exact Int.lt_of_mul_lt_mul_left this (by omega)
    · obtain ⟨y0, y1, hy⟩ := first_to hs hw l1 lh hh h x0 hx
      have yb : b ≤ st * x / whole := by
        rcases Int.lt_or_le (st * x / whole) b with z | z
        · exact absurd hy (bm _ y0 z)
        · exact z
      have m : whole * b ≤ whole * (st * x / whole) := Int.mul_le_mul_of_nonneg_left yb (by omega)
      have z := up_le (a := low + whole * b) (x := x) hs (by omega)
      have xl : x < upD (low + whole * b) st := xl
      omega
end
def fibP : Nat → Int × Int
  | 0 => (0, 1)
  | n + 1 => ((fibP n).2, (fibP n).1 + (fibP n).2)
def fibI (n : Nat) : Int := (fibP n).1
theorem fib_s (n : Nat) : fibI (n + 2) = fibI n + fibI (n + 1) := by
  unfold fibI
  simp only [fibP]
theorem fib_100 : fibI 101 > 100000000000000000000 := by decide +kernel
abbrev B2 : Int := 1000000000000000000000000000000
theorem r_first_inN : ∀ (n : Nat) (step whole low high : Int), 0 < whole → whole ≤ 1000000000000000000000 → 0 ≤ low → low ≤ high → high < whole → (step % whole < fibI (n + 1) ∨ whole < fibI (n + 2)) →
    Ok (denN_first_in (n + 1)) [.dat (.int step), .dat (.int whole), .dat (.int low), .dat (.int high)] fun r e' => e' = [.un, .un, .un, .un] ∧ ∃ o, r = .dat (optV o) ∧ FirstIn step whole low high o := by
  intro n
  induction n with
  | zero =>
    intro step whole low high hw hb l0 lh hh hf
    have s0 := Int.emod_nonneg step (show whole ≠ 0 by omega)
    have f1 : fibI (0 + 1) = 1 := rfl
    have f2 : fibI (0 + 2) = 1 := rfl
    rw [f1, f2] at hf
    have sz : step % whole = 0 := by omega
    have ds : denN_first_in (0 + 1) = fnDen 4 6 (b_first_in (denN_first_in 0)) := rfl
    rw [ds]
    generalize denN_first_in 0 = D0
    unfold b_first_in
    by_cases c1 : low = 0
    · simp_arith [↓ok_aug, ↓hw, ↓sz, ↓c1]
      refine ⟨some 0, rfl, by omega, by omega, ?_, fun x hx hl => by omega⟩
      unfold InR
      simp
      omega
    · simp_arith [↓ok_aug, ↓hw, ↓sz, ↓c1]
      refine ⟨none, rfl, fun x hx hi => ?_⟩
      rw [← inR_mod, sz] at hi
      unfold InR at hi
      simp at hi
      omega
  | succ n ih =>
    intro step whole low high hw hb l0 lh hh hf
    have s0 := Int.emod_nonneg step (show whole ≠ 0 by omega)
    have s1 := Int.emod_lt_of_pos step hw
    have ds : denN_first_in (n + 1 + 1) = fnDen 4 6 (b_first_in (denN_first_in (n + 1))) := rfl
    rw [ds]
    by_cases c1 : low = 0
    · generalize denN_first_in (n + 1) = D0
      unfold b_first_in
      generalize step % whole = st
      simp_arith [↓ok_aug, ↓hw, ↓c1]
      refine ⟨some 0, rfl, by omega, by omega, ?_, fun x hx hl => by omega⟩
      unfold InR
      simp
      omega
    · have hm : ∀ o, FirstIn (step % whole) whole low high o → FirstIn step whole low high o := fun o h => first_mod h
      have ifm : ∀ x, x = step % whole → True := fun _ _ => trivial
      generalize hst : step % whole = st at s0 s1 hf hm
      by_cases c2 : st = 0
      · generalize denN_first_in (n + 1) = D0
        unfold b_first_in
        simp_arith [↓ok_aug, ↓hw, ↓hst, ↓c1, ↓c2]
        refine ⟨none, rfl, hm _ fun x hx hi => ?_⟩
        unfold InR at hi
        rw [c2] at hi
        simp at hi
        omega
      · have sp : 0 < st := by omega
        have u := up_is (a := low) sp
        have ul := up_le (a := low) (x := low) sp (by
          have := Int.mul_le_mul_of_nonneg_right (show 1 ≤ st by omega) (show 0 ≤ low by omega)
          omega)
        have u0 : 0 < upD low st := by
          have z : 0 < st * upD low st := by omega
          exact Int.pos_of_mul_pos_right z sp
        have ru := fun (i : Int) Q => r_up (i := i) (j := st) (Q := Q) sp (by omega)
        have c0 : cMul st (upD low st) := cMul_w (by omega) (by omega) (by omega) (by omega)
        have upr : ∀ i j : Int, -(-i / j) = upD i j := fun i j => rfl
        simp only [upr] at ru
        by_cases c3 : st * upD low st ≤ high
        · generalize denN_first_in (n + 1) = D0
          unfold b_first_in
          simp_arith [↓ok_aug, ↓hw, ↓hst, ↓c1, ↓c2, ↓ru, ↓c0, ↓c3]
          exact ⟨some _, rfl, hm _ (first_base sp s1 (by omega) lh hh c3)⟩
        · have w1 := Int.emod_nonneg whole (show st ≠ 0 by omega)
          have w2 := Int.emod_lt_of_pos whole sp
          obtain ⟨e1, e2⟩ := ends_in sp s1 (show 1 ≤ low by omega) lh hh (by omega)
          have hf2 : (whole % st) % st < fibI (n + 1) ∨ st < fibI (n + 2) := by
            rw [Int.emod_emod]
            rcases Int.lt_or_le st (fibI (n + 2)) with z | z
            · exact .inr z
            · left
              have e := Int.mul_ediv_add_emod whole st
              have q : 1 ≤ whole / st := by
                have := Int.le_ediv_of_mul_le sp (show 1 * st ≤ whole by omega)
                exact this
              have m := Int.mul_le_mul_of_nonneg_left q (show 0 ≤ st by omega)
              have fs := fib_s (n + 1)
              rw [show n + 1 + 2 = n + 3 from rfl, show n + 1 + 1 = n + 2 from rfl] at hf fs
              rcases hf with z2 | z2
              · omega
              · rw [Int.mul_one] at m
                have fs' : fibI (n + 3) = fibI (n + 1) + fibI (n + 2) := fs
                have z2' : whole < fibI (n + 3) := z2
                omega
          have rc := ih (whole % st) st (-high % st) (-low % st) sp (by omega) (by omega) (by omega) (by omega) hf2
          generalize denN_first_in (n + 1) = D0 at rc ⊢
          unfold b_first_in
          simp_arith [↓ok_aug, ↓hw, ↓hst, ↓c1, ↓c2, ↓ru, ↓c0, ↓c3, ↓sp]
          refine Ok.mono rc ?_
          intro r e' hh2
          obtain ⟨rfl, o, rfl, ho⟩ := hh2
          have fr := first_rec sp s1 (show 1 ≤ low by omega) lh hh (by omega) ho
          cases o with
          | none =>
            simp_arith [↓optV]
            exact ⟨none, rfl, hm _ fr⟩
          | some b =>
            have b0 := ho.1
            have b1 := ho.2.1
            have cw : cMul whole b := cMul_w (by omega) (by omega) (by omega) (by omega)
            simp_arith [↓optV, ↓cw, ↓ru]
            exact ⟨some _, rfl, hm _ fr⟩
theorem r_first_in {step whole low high : Int} (hw : 0 < whole) (hb : whole ≤ 100000000000000000000) (l0 : 0 ≤ low) (lh : low ≤ high) (hh : high < whole) :
    Ok den_first_in [.dat (.int step), .dat (.int whole), .dat (.int low), .dat (.int high)] fun r e' => e' = [.un, .un, .un, .un] ∧ ∃ o, r = .dat (optV o) ∧ FirstIn step whole low high o :=
  r_first_inN 99 step whole low high hw (by omega) l0 lh hh (.inr (by have := fib_100; show whole < fibI 101; omega))
end
end Pu.Q
set_option Elab.async false
set_option linter.all false
set_option maxRecDepth 100000
set_option maxHeartbeats 1000000
set_option Elab.async false
set_option linter.all false
set_option maxRecDepth 100000
set_option maxHeartbeats 1000000
set_option Elab.async false
set_option linter.all false
set_option maxRecDepth 100000
set_option maxHeartbeats 1000000
namespace Pu.Q
open PySem PySem.Spec PyProof.Rows L2 Pu
section
variable {s l p s2 l2 p2 : Int} {t t2 : Str} {Q : RV → Ev → Prop} {v w x a d : Val} {R : List Str} {f : M RV} {vs D : List Val}
def gcI (a b : Int) : Int := ((Int.gcd a b : Nat) : Int)
theorem gcI_pos {a b : Int} (h : 0 < a) : 0 < gcI a b := by
  unfold gcI
  have : 0 < Int.gcd a b := Int.gcd_pos_of_ne_zero_left _ (by omega)
  omega
theorem gcI_le {a b : Int} (h : 0 < a) : gcI a b ≤ a := Int.gcd_le_left (b := b) h
theorem r_commonI {a b : Int} (ha : 0 ≤ a) (hb : 0 ≤ b) (hk : b < 1606938044258990275541962092341162602522202993782792835301376) : Ok den_common [.dat (.int a), .dat (.int b)] Q ↔ Q (.dat (.int (gcI a b))) [.un, .un] := r_common ha hb hk
def bLo (t : Str) (s : Int) (t2 : Str) (s2 : Int) : Int := upD (low t s - high t2 s2) (gcI s s2) * gcI s s2
def bHi (t : Str) (s : Int) (t2 : Str) (s2 : Int) : Int := (high t s - low t2 s2) / gcI s s2 * gcI s s2
theorem reach_b (hs : 0 < s) (hb : s ≤ 1000000000000) : -1000000000000 ≤ low t s ∧ low t s ≤ 0 ∧ 0 ≤ high t s ∧ high t s ≤ 1000000000000 := by
  unfold low high
  refine ⟨?_, ?_, ?_, ?_⟩ <;> split <;> first | omega | (split <;> omega)
theorem r_bounds_of (hs : 0 < s) (hb : s ≤ 1000000000000) (hs2 : 0 < s2) (hb2 : s2 ≤ 1000000000000) : Ok den_bounds_of [.dat (rV s l p t), .dat (rV s2 l2 p2 t2)] Q ↔ Q (.dat (.tup [.int (bLo t s t2 s2), .int (bHi t s t2 s2)])) [.un, .un] := by
  refine ok_det ?_
  have g0 := gcI_pos (a := s) (b := s2) hs
  have g1 := gcI_le (a := s) (b := s2) hs
  obtain ⟨a1, a2, a3, a4⟩ := reach_b (t := t) hs hb
  obtain ⟨b1, b2, b3, b4⟩ := reach_b (t := t2) hs2 hb2
  have rc := fun Q => r_commonI (a := s) (b := s2) (Q := Q) (by omega) (by omega) (by omega)
  unfold bLo bHi
  generalize gcI s s2 = g at *
  have ru := fun (i : Int) Q => r_up (i := i) (j := g) (Q := Q) g0 (by omega)
  have upr : ∀ i j : Int, -(-i / j) = upD i j := fun i j => rfl
  simp only [upr] at ru
  have u := up_first (i := low t s - high t2 s2) g0
  have w := dv_b (i := -(low t s - high t2 s2)) (g := g) (B := 2000000000000) g0 (by omega) (by omega)
  have w2 := dv_b (i := high t s - low t2 s2) (g := g) (B := 2000000000000) g0 (by omega) (by omega)
  have c1 : cMul (upD (low t s - high t2 s2) g) g := by unfold upD; exact cMul_w (by omega) (by omega) (by omega) (by omega)
  have c2 : cMul ((high t s - low t2 s2) / g) g := cMul_w (by omega) (by omega) (by omega) (by omega)
  have c3 : cDiv (high t s - low t2 s2) g := ⟨g0, by omega⟩
  simp_arith [↓den_bounds_of, ↓b_bounds_of, ↓r_reach, ↓r_step, ↓rc, ↓ru, ↓c1, ↓c2, ↓c3]
  done
end
end Pu.Q
set_option Elab.async false
set_option linter.all false
set_option maxRecDepth 100000
set_option maxHeartbeats 1000000
namespace Pu.Q
open PySem PySem.Spec PyProof.Rows L2 Pu
section
variable {s l p s2 l2 p2 : Int} {t t2 : Str} {Q : RV → Ev → Prop} {v w x a d : Val} {R : List Str} {f : M RV} {vs D : List Val}
theorem sort2 {x y : Int} : sortI [x, y] = if x ≤ y then [x, y] else [y, x] := by
  show insI x [y] = _
  unfold insI
  by_cases h : x ≤ y
  · rw [if_pos h, if_pos h]
  · rw [if_neg h, if_neg h]; rfl
end
end Pu.Q
set_option Elab.async false
set_option linter.all false
set_option maxRecDepth 100000
set_option maxHeartbeats 2000000
set_option Elab.async false
set_option linter.all false
set_option maxRecDepth 100000
set_option maxHeartbeats 1000000
set_option Elab.async false
set_option linter.all false
set_option maxRecDepth 100000
set_option maxHeartbeats 2000000
set_option Elab.async false
set_option linter.all false
set_option maxRecDepth 100000
set_option maxHeartbeats 2000000
set_option Elab.async false
set_option linter.all false
set_option maxRecDepth 100000
set_option maxHeartbeats 2000000
set_option Elab.async false
set_option linter.all false
set_option maxRecDepth 100000
set_option maxHeartbeats 2000000
set_option Elab.async false
set_option linter.all false
set_option maxRecDepth 100000
set_option maxHeartbeats 2000000
set_option Elab.async false
set_option linter.all false
set_option maxRecDepth 100000
set_option maxHeartbeats 2000000
set_option Elab.async false
set_option linter.all false
set_option maxRecDepth 100000
set_option maxHeartbeats 2000000
set_option Elab.async false
set_option linter.all false
set_option maxRecDepth 100000
set_option maxHeartbeats 2000000
set_option Elab.async false
set_option linter.all false
set_option maxRecDepth 100000
set_option maxHeartbeats 2000000
namespace Pu.Q
open PySem PySem.Spec PyProof.Rows L2 Pu
section
variable {s l p f : Int} {t : Str} {Q : RV → Ev → Prop} {v w : Val}
abbrev B40 : Int := 10000000000000000000000000000000000000000
end
end Pu.Q
set_option Elab.async false
set_option linter.all false
set_option maxRecDepth 100000
set_option maxHeartbeats 2000000
set_option Elab.async false
set_option linter.all false
set_option maxRecDepth 100000
set_option maxHeartbeats 2000000
set_option Elab.async false
set_option linter.all false
set_option maxRecDepth 100000
set_option maxHeartbeats 2000000
namespace Pu.Q
open PySem PySem.Spec PyProof.Rows L2 Pu
section
variable {s l p f : Int} {t : Str} {Q : RV → Ev → Prop} {v w : Val}
def okE (v : Val) : Bool := isR v && (match v with
  | .tup [.int _, .int b] => decide (b ≤ 10000000000000000000000000000000000000000)
  | _ => true)
def GT (v : Val) : Prop := isR v = true ∧ ∀ vs, v = .tup vs → vs.length ≤ 200 ∧ ∀ x ∈ vs, okE x = true
theorem GT.b (h : GT w) : ∀ ys, w = .tup ys → ∀ a b, Val.tup [.int a, .int b] ∈ ys → b ≤ B40 := fun ys e a b hm => by
  have := (h.2 ys e).2 _ hm
  unfold okE at this
  rw [Bool.and_eq_true] at this
  exact of_decide_eq_true this.2
end
end Pu.Q
set_option Elab.async false
set_option linter.all false
set_option maxRecDepth 100000
set_option maxHeartbeats 2000000
set_option Elab.async false
set_option linter.all false
set_option maxRecDepth 100000
set_option maxHeartbeats 2000000
set_option Elab.async false
set_option linter.all false
set_option maxRecDepth 100000
set_option maxHeartbeats 400000
set_option Elab.async false
set_option linter.all false
set_option maxRecDepth 100000
set_option maxHeartbeats 1000000
set_option Elab.async false
set_option linter.all false
set_option maxRecDepth 100000
set_option maxHeartbeats 1000000
set_option Elab.async false
set_option linter.all false
set_option maxRecDepth 100000
set_option maxHeartbeats 1000000
set_option Elab.async false
set_option linter.all false
set_option maxRecDepth 100000
set_option maxHeartbeats 1000000
set_option Elab.async false
set_option linter.all false
set_option maxRecDepth 100000
set_option maxHeartbeats 1000000
namespace Pu.Q
open PySem PySem.Spec PyProof.Rows L2 Pu
section
variable {s s2 : Int} {t t2 : Str}
theorem hi_lo (hs : 0 < s) : high t s = low t s + s - 1 := by
  unfold high low
  split
  · omega
  · split <;> omega
theorem mul_gap {x : Int} (hs : 0 < s) (h : x % s = 0) (hx : 0 < x) : s ≤ x := by
  refine Classical.byContradiction fun q => ?_
  rw [Int.emod_eq_of_lt (by omega) (by omega)] at h
  omega
theorem sub_mod0 {x y : Int} (h1 : x % s = 0) (h2 : y % s = 0) : (x - y) % s = 0 := by
  rw [Int.sub_emod, h1, h2]
  rfl
theorem mk_win {a : Int} (hs : 0 < s) : a + low t s ≤ markV t s a ∧ markV t s a ≤ a + high t s := by
  have r1 := Int.emod_nonneg (-a - low t s) (show s ≠ 0 by omega)
  have r2 := Int.emod_lt_of_pos (-a - low t s) hs
  rw [hi_lo hs]
  unfold markV
  omega
theorem mk_mod {a : Int} (hs : 0 < s) : markV t s a % s = 0 := by
  unfold markV
  rw [Int.add_emod_emod, show a + low t s + (-a - low t s) = 0 by omega]
  rfl
theorem mk_uni {a X : Int} (hs : 0 < s) (h : X % s = 0) (h1 : a + low t s ≤ X) (h2 : X ≤ a + high t s) : markV t s a = X := by
  obtain ⟨w1, w2⟩ := mk_win (t := t) (a := a) hs
  have hm := mk_mod (t := t) (a := a) hs
  rw [hi_lo hs] at h2 w2
  refine Classical.byContradiction fun q => ?_
  rcases Int.lt_or_gt_of_ne q with g | g
  · have := mul_gap hs (sub_mod0 h hm) (by omega)
    omega
  · have := mul_gap hs (sub_mod0 hm h) (by omega)
    omega
theorem mk_mono {a b : Int} (hs : 0 < s) (h : a ≤ b) : markV t s a ≤ markV t s b := by
  obtain ⟨w1, w2⟩ := mk_win (t := t) (a := a) hs
  obtain ⟨w3, w4⟩ := mk_win (t := t) (a := b) hs
  rw [hi_lo hs] at w2 w4
  refine Classical.byContradiction fun q => ?_
  have := mul_gap hs (sub_mod0 (mk_mod (t := t) (a := a) hs) (mk_mod (t := t) (a := b) hs)) (by omega)
  omega
def FirstR (st step whole most : Int) : Option Int → Prop
  | none => ∀ x, 0 ≤ x → ¬ (st + step * x) % whole ≤ most
  | some x0 => 0 ≤ x0 ∧ x0 ≤ whole ∧ (st + step * x0) % whole ≤ most ∧ ∀ x, 0 ≤ x → x < x0 → ¬ (st + step * x) % whole ≤ most
theorem first_conv {st step whole most x : Int} (hw : 0 < whole) (m0 : 0 ≤ most) (m1 : most < whole - 1) (lh : -st % whole ≤ (most - st) % whole) : (st + step * x) % whole ≤ most ↔ InR step whole (-st % whole) ((most - st) % whole) x := by
  have r1 := Int.emod_nonneg st (show whole ≠ 0 by omega)
  have r2 := Int.emod_lt_of_pos st hw
  have u1 := Int.emod_nonneg (step * x) (show whole ≠ 0 by omega)
  have u2 := Int.emod_lt_of_pos (step * x) hw
  have e : (st + step * x) % whole = (st % whole + step * x % whole) % whole := by rw [Int.add_emod]
  have e1 : -st % whole = (-(st % whole)) % whole := by rw [show -(st % whole) = -st + whole * (st / whole) by rw [Int.emod_def]; omega, Int.add_mul_emod_self_left]
  have e2 : (most - st) % whole = (most - st % whole) % whole := by rw [Int.sub_emod, Int.sub_emod most (st % whole), Int.emod_emod]
  unfold InR
  rw [e1, e2] at lh ⊢
  rw [e]
  clear e e1 e2
  generalize st % whole = r at *
  generalize step * x % whole = u at *
  by_cases hr : r = 0
  · subst hr
    rw [show (-(0 : Int)) % whole = 0 by simp, Int.sub_zero, Int.emod_eq_of_lt m0 (by omega), Int.zero_add, Int.emod_eq_of_lt u1 u2]
    omega
  · have f1 : (-r) % whole = whole - r := by rw [← Int.add_emod_right, Int.emod_eq_of_lt (by omega) (by omega)]; omega
    rw [f1] at lh ⊢
    by_cases hm : r ≤ most
    · rw [Int.emod_eq_of_lt (a := most - r) (by omega) (by omega)] at lh
      omega
    · have f2 : (most - r) % whole = most - r + whole := by rw [← Int.add_emod_right, Int.emod_eq_of_lt (by omega) (by omega)]
      rw [f2]
      by_cases hu : r + u < whole
      · rw [Int.emod_eq_of_lt (a := r + u) (by omega) hu]
        omega
      · have f3 : (r + u) % whole = r + u - whole := by rw [← Int.sub_emod_right, Int.emod_eq_of_lt (by omega) (by omega)]
        rw [f3]
        omega
theorem r_first_restE {st step whole most : Int} (hw : 0 < whole) (hb : whole ≤ 100000000000000000000) : Ok den_first_rest [.dat (.int st), .dat (.int step), .dat (.int whole), .dat (.int most)] fun r e' => e' = [.un, .un, .un, .un] ∧ ∃ o, r = .dat (optV o) ∧ FirstR st step whole most o := by
  have r0 := fun (x : Int) => Int.emod_nonneg x (show whole ≠ 0 by omega)
  have r1 := fun (x : Int) => Int.emod_lt_of_pos x hw
  have a1 := r0 (-st)
  have b1 := r0 (most - st)
  have b2 := r1 (most - st)
  by_cases c1 : most < 0
  · simp_arith [↓den_first_rest, ↓b_first_rest, ↓c1]
    refine ⟨none, rfl, fun x _ h => ?_⟩
    have := r0 (st + step * x)
    omega
  · have z0 : ∀ h : st % whole ≤ most, FirstR st step whole most (some 0) := fun h => ⟨by omega, by omega, by rw [Int.mul_zero, Int.add_zero]; exact h, fun x h1 h2 => by omega⟩
    by_cases c2 : most ≥ whole - 1
    · simp_arith [↓den_first_rest, ↓b_first_rest, ↓c1, ↓hw, ↓c2]
      exact ⟨some 0, rfl, z0 (by have := r1 st; omega)⟩
    · by_cases c3 : -st % whole > (most - st) % whole
      · simp_arith [↓den_first_rest, ↓b_first_rest, ↓c1, ↓hw, ↓c2, ↓c3]
        refine ⟨some 0, rfl, z0 ?_⟩
        have q0 := r0 st
        have q1 := r1 st
        have e1 : -st % whole = (-(st % whole)) % whole := by rw [show -(st % whole) = -st + whole * (st / whole) by rw [Int.emod_def]; omega, Int.add_mul_emod_self_left]
        have e2 : (most - st) % whole = (most - st % whole) % whole := by rw [Int.sub_emod, Int.sub_emod most (st % whole), Int.emod_emod]
        rw [e1, e2] at c3
        generalize st % whole = r at *
        refine Classical.byContradiction fun hm => ?_
        have f1 : (-r) % whole = whole - r := by rw [← Int.add_emod_right, Int.emod_eq_of_lt (by omega) (by omega)]; omega
        have f2 : (most - r) % whole = most - r + whole := by rw [← Int.add_emod_right, Int.emod_eq_of_lt (by omega) (by omega)]
        rw [f1, f2] at c3
        omega
      · simp_arith [↓den_first_rest, ↓b_first_rest, ↓c1, ↓hw, ↓c2, ↓c3]
        refine Ok.mono (r_first_in hw hb (by omega) (by omega) (by omega)) ?_
        rintro _ _ ⟨rfl, o, rfl, ho⟩
        simp_arith
        refine ⟨o, rfl, ?_⟩
        have cv := fun x => first_conv (st := st) (step := step) (whole := whole) (most := most) (x := x) hw (by omega) (by omega) (by omega)
        cases o with
        | none => exact fun x hx h => ho x hx ((cv x).mp h)
        | some x0 => exact ⟨ho.1, by have := ho.2.1; omega, (cv x0).mpr ho.2.2.1, fun x h1 h2 h => ho.2.2.2 x h1 h2 ((cv x).mp h)⟩
def Dm (t : Str) (s : Int) (t2 : Str) (s2 m : Int) : Int := markV t s m - markV t2 s2 m
def ArrW (t : Str) (s : Int) (t2 : Str) (s2 need : Int) : Option Int → Prop
  | none => ∀ m, 0 ≤ m → Dm t s t2 s2 m < need
  | some a => 0 ≤ a ∧ need ≤ Dm t s t2 s2 a ∧ ∀ m, 0 ≤ m → m < a → Dm t s t2 s2 m < need
def bg (t : Str) (s : Int) : Int := (high t s / s + 1) * s - high t s
theorem mk_begin {x : Int} (hs : 0 < s) : markV t s (bg t s + x * s) = bg t s + x * s + high t s := by
  refine mk_uni hs ?_ ?_ ?_
  · unfold bg
    rw [show (high t s / s + 1) * s - high t s + x * s + high t s = (high t s / s + 1 + x) * s by rw [Int.add_mul (high t s / s + 1)]; omega, Int.mul_emod_left]
  · rw [hi_lo hs]; omega
  · omega
theorem bg_pos (hs : 0 < s) : 0 < bg t s ∧ bg t s ≤ s := by
  have h1 := Int.emod_nonneg (high t s) (show s ≠ 0 by omega)
  have h2 := Int.emod_lt_of_pos (high t s) hs
  have h3 := Int.emod_add_mul_ediv (high t s) s
  unfold bg
  rw [Int.add_mul, Int.one_mul, Int.mul_comm]
  omega
theorem mk_jump {m : Int} (hs : 0 < s) (h : high t s < markV t s m) : ∃ x, 0 ≤ x ∧ bg t s + x * s ≤ m ∧ markV t s (bg t s + x * s) = markV t s m := by
  obtain ⟨w1, w2⟩ := mk_win (t := t) (a := m) hs
  have hm := mk_mod (t := t) (a := m) hs
  have e1 := Int.emod_add_mul_ediv (markV t s m) s
  rw [hm, Int.zero_add] at e1
  have h1 := Int.emod_nonneg (high t s) (show s ≠ 0 by omega)
  have h3 := Int.emod_add_mul_ediv (high t s) s
  have lt : high t s / s < markV t s m / s := Int.lt_of_mul_lt_mul_left (a := s) (by omega) (by omega)
  have e2 : bg t s + (markV t s m / s - (high t s / s + 1)) * s = markV t s m - high t s := by
    unfold bg
    rw [Int.sub_mul, Int.mul_comm (markV t s m / s) s, e1]
    omega
  refine ⟨markV t s m / s - (high t s / s + 1), by omega, by omega, ?_⟩
  rw [mk_begin hs]
  omega
theorem mk_zero {m : Int} (hs : 0 < s) (h : markV t s m ≤ high t s) : markV t s m ≤ markV t s 0 := by
  obtain ⟨w1, w2⟩ := mk_win (t := t) (a := 0) hs
  rw [hi_lo hs] at h w2
  refine Classical.byContradiction fun q => ?_
  have := mul_gap hs (sub_mod0 (mk_mod (t := t) (a := m) hs) (mk_mod (t := t) (a := 0) hs)) (by omega)
  omega
theorem arr_zero {need : Int} (h : need ≤ Dm t s t2 s2 0) : ArrW t s t2 s2 need (some 0) := ⟨by omega, h, fun m h1 h2 => by omega⟩
theorem arr_conv {x need : Int} (hs : 0 < s) : need ≤ Dm t s t2 s2 (bg t s + x * s) ↔ (-bg t s - low t2 s2 + -s * x) % s2 ≤ high t s - need - low t2 s2 := by
  unfold Dm
  rw [mk_begin hs]
  unfold markV
  rw [show -(bg t s + x * s) - low t2 s2 = -bg t s - low t2 s2 + -s * x by rw [Int.neg_mul, Int.mul_comm s x]; omega]
  omega
theorem arr_of {o : Option Int} {need : Int} (hs : 0 < s) (hs2 : 0 < s2) (h0 : Dm t s t2 s2 0 < need) (h : FirstR (-bg t s - low t2 s2) (-s) s2 (high t s - need - low t2 s2) o) : ArrW t s t2 s2 need (o.map fun x => bg t s + x * s) := by
  obtain ⟨g1, g2⟩ := bg_pos (t := t) hs
  have key : ∀ m, 0 ≤ m → need ≤ Dm t s t2 s2 m → ∃ x, 0 ≤ x ∧ bg t s + x * s ≤ m ∧ need ≤ Dm t s t2 s2 (bg t s + x * s) := by
    intro m hm hn
    by_cases hj : high t s < markV t s m
    · obtain ⟨x, x0, x1, x2⟩ := mk_jump hs hj
      refine ⟨x, x0, x1, ?_⟩
      have := mk_mono (t := t2) hs2 x1
      unfold Dm at hn ⊢
      omega
    · have z1 := mk_zero (t := t) (m := m) hs (by omega)
      have z2 := mk_mono (t := t2) hs2 hm
      unfold Dm at hn h0
      omega
  cases o with
  | none =>
    intro m hm
    refine Classical.byContradiction fun q => ?_
    obtain ⟨x, x0, _, x2⟩ := key m hm (by omega)
    exact h x x0 ((arr_conv hs).mp x2)
  | some x0 =>
    have p : 0 ≤ x0 * s := Int.mul_nonneg h.1 (by omega)
    refine ⟨?_, (arr_conv hs).mpr h.2.2.1, fun m h1 h2 => ?_⟩
    · show 0 ≤ bg t s + x0 * s
      omega
    · refine Classical.byContradiction fun q => ?_
      obtain ⟨x, y0, y1, y2⟩ := key m h1 (by omega)
      refine h.2.2.2 x y0 ?_ ((arr_conv hs).mp y2)
      have : x * s < x0 * s := by
        have : m < bg t s + x0 * s := h2
        omega
      exact Int.lt_of_mul_lt_mul_right this (by omega)
end
end Pu.Q
set_option Elab.async false
set_option linter.all false
set_option maxRecDepth 100000
set_option maxHeartbeats 1000000
namespace Pu.Q
open PySem PySem.Spec PyProof.Rows L2 Pu
section
variable {s l p s2 l2 p2 : Int} {t t2 : Str} {Q : RV → Ev → Prop}
theorem r_check_bothE : Ok den_check_both_k07 [.dat (rV s l p t), .dat (rV s2 l2 p2 t2)] Q ↔ Q (.dat .non) [.un, .un] := by
  simp_arith [↓den_check_both_k07, ↓b_check_both_k07, ↓r_check_rule]
theorem r_arrivalE (hs : 0 < s) (hb : s ≤ 1000000000000) (hs2 : 0 < s2) (hb2 : s2 ≤ 1000000000000) {n : Int} (n1 : -100000000000000000000 ≤ n) (n2 : n ≤ 100000000000000000000) :
   Ok den_arrival_with_k07 [.dat (rV s l p t), .dat (rV s2 l2 p2 t2), .dat (.int n)] fun r e' => e' = [.un, .un, .un] ∧ ∃ o, r = .dat (optV o) ∧ ArrW t s t2 s2 (n - l + l2) o ∧ ∀ x, o = some x → x ≤ 10000000000000000000000000 := by
  obtain ⟨a1, a2, a3, a4⟩ := reach_b (t := t) hs hb
  have r1 := fun Q => r_reach (s := s) (l := l) (p := p) (t := t) (Q := Q)
  have r2 := fun Q => r_reach (s := s2) (l := l2) (p := p2) (t := t2) (Q := Q)
  have rb := fun Q => r_check_bothE (s := s) (l := l) (p := p) (t := t) (s2 := s2) (l2 := l2) (p2 := p2) (t2 := t2) (Q := Q)
  have rn := fun Q => r_check_number (v := n) (lo := -100000000000000000000) (hi := 100000000000000000000) (Q := Q) n1 n2
  have k1 := fun Q => r_mark_at (s := s) (l := l) (p := p) (t := t) (a := 0) (Q := Q) hs
  have k2 := fun Q => r_mark_at (s := s2) (l := l2) (p := p2) (t := t2) (a := 0) (Q := Q) hs2
  have d1 := dv_b (i := high t s) (g := s) (B := 1000000000000) hs (by omega) (by omega)
  have c1 : cMul (high t s / s + 1) s := cMul_w (by omega) (by omega) (by omega) (by omega)
  have c2 : cDiv (high t s) s := ⟨hs, by omega⟩
  by_cases c : markV t s 0 - markV t2 s2 0 ≥ n - l + l2
  · simp_arith [↓den_arrival_with_k07, ↓b_arrival_with_k07, ↓r1, ↓r2, ↓rb, ↓rn, ↓k1, ↓k2, ↓c]
    exact ⟨some 0, rfl, arr_zero c, by rintro x h; cases h; omega⟩
  · simp_arith [↓den_arrival_with_k07, ↓b_arrival_with_k07, ↓r1, ↓r2, ↓rb, ↓rn, ↓k1, ↓k2, ↓c, ↓r_step, ↓c1, ↓c2]
    refine Ok.mono (r_first_restE hs2 (by omega)) ?_
    rintro _ _ ⟨rfl, o, rfl, ho⟩
    have ha := arr_of (t := t) (t2 := t2) (o := o) (need := n - l + l2) hs hs2 (by unfold Dm; omega) ho
    cases o with
    | none =>
      simp_arith [↓optV]
      exact ⟨none, rfl, ha, by simp⟩
    | some x =>
      have x0 := ho.1
      have x1 := ho.2.1
      have c3 : cMul x s := cMul_w (by omega) (by omega) (by omega) (by omega)
      simp_arith [↓optV, ↓r_step, ↓c3]
      refine ⟨some _, rfl, ha, ?_⟩
      intro y hy
      cases hy
      have := mul_b (i := x) (j := s) (A := 1000000000000) (B := 1000000000000) (by omega) (by omega) (by omega) (by omega)
      have := bg_pos (t := t) hs
      have eb : bg t s = (high t s / s + 1) * s - high t s := rfl
      omega
theorem r_versusE (hs : 0 < s) (hb : s ≤ 1000000000000) (hs2 : 0 < s2) (hb2 : s2 ≤ 1000000000000) : Ok den_versus_k07 [.dat (rV s l p t), .dat (rV s2 l2 p2 t2)] Q ↔ Q (.dat (.tup [.int (bLo t s t2 s2 + l - l2), .int (bHi t s t2 s2 + l - l2)])) [.un, .un] := by
  have rb := fun Q => r_bounds_of (s := s) (l := l) (p := p) (t := t) (s2 := s2) (l2 := l2) (p2 := p2) (t2 := t2) (Q := Q) hs hb hs2 hb2
  have rc := fun Q => r_check_bothE (s := s) (l := l) (p := p) (t := t) (s2 := s2) (l2 := l2) (p2 := p2) (t2 := t2) (Q := Q)
  simp_arith [↓den_versus_k07, ↓b_versus_k07, ↓rb, ↓rc]
theorem r_neverE (hs : 0 < s) (hb : s ≤ 1000000000000) (hs2 : 0 < s2) (hb2 : s2 ≤ 1000000000000) : Ok den_never_less_k07 [.dat (rV s l p t), .dat (rV s2 l2 p2 t2)] Q ↔ Q (.dat (.bl (decide (bLo t s t2 s2 + l - l2 ≥ 0)))) [.un, .un] := by
  have rv := fun Q => r_versusE (s := s) (l := l) (p := p) (t := t) (s2 := s2) (l2 := l2) (p2 := p2) (t2 := t2) (Q := Q) hs hb hs2 hb2
  simp_arith [↓den_never_less_k07, ↓b_never_less_k07, ↓rv]
theorem bez : ∀ b a : Nat, ∃ x y : Int, (a : Int) * x + (b : Int) * y = (Nat.gcd b a : Nat) := by
  intro b
  induction b using Nat.strongRecOn with
  | _ b ih =>
    intro a
    by_cases h : b = 0
    · subst h
      exact ⟨1, 0, by simp⟩
    · obtain ⟨x, y, e⟩ := ih (a % b) (Nat.mod_lt a (by omega)) b
      rw [Nat.gcd_rec, ← e]
      refine ⟨y, x - (a / b : Nat) * y, ?_⟩
      have e2 : (a : Int) = (b : Int) * ((a / b : Nat) : Int) + ((a % b : Nat) : Int) := by exact_mod_cast (Nat.div_add_mod a b).symm
      generalize ((a % b : Nat) : Int) = r at *
      generalize ((a / b : Nat) : Int) = q at *
      rw [e2, Int.add_mul, Int.mul_sub, Int.mul_assoc]
      omega
theorem bezI {a b : Int} (ha : 0 ≤ a) (hb : 0 ≤ b) : ∃ x y : Int, a * x + b * y = gcI a b := by
  obtain ⟨m, rfl⟩ := Int.eq_ofNat_of_zero_le ha
  obtain ⟨n, rfl⟩ := Int.eq_ofNat_of_zero_le hb
  obtain ⟨x, y, e⟩ := bez n m
  refine ⟨x, y, ?_⟩
  rw [e]
  unfold gcI
  rw [Int.gcd_natCast_natCast, Nat.gcd_comm]
theorem gcI_dl {a b : Int} : gcI a b ∣ a := Int.gcd_dvd_left ..
theorem gcI_dr {a b : Int} : gcI a b ∣ b := Int.gcd_dvd_right ..
theorem dm_dvd {m : Int} (hs : 0 < s) (hs2 : 0 < s2) : ∃ k, Dm t s t2 s2 m = gcI s s2 * k := by
  have h1 : gcI s s2 ∣ markV t s m := Int.dvd_trans gcI_dl (Int.dvd_of_emod_eq_zero (mk_mod hs))
  have h2 : gcI s s2 ∣ markV t2 s2 m := Int.dvd_trans gcI_dr (Int.dvd_of_emod_eq_zero (mk_mod hs2))
  exact Int.dvd_sub h1 h2
theorem dm_lo {m : Int} (hs : 0 < s) (hs2 : 0 < s2) : bLo t s t2 s2 ≤ Dm t s t2 s2 m := by
  obtain ⟨k, e⟩ := dm_dvd (t := t) (t2 := t2) (m := m) hs hs2
  have g0 := gcI_pos (a := s) (b := s2) hs
  have w1 := mk_win (t := t) (a := m) hs
  have w2 := mk_win (t := t2) (a := m) hs2
  have u := up_le (a := low t s - high t2 s2) (x := k) g0 (by rw [← e]; unfold Dm; omega)
  rw [e]
  unfold bLo
  rw [Int.mul_comm]
  exact Int.mul_le_mul_of_nonneg_left u (by omega)
theorem dm_hi {m : Int} (hs : 0 < s) (hs2 : 0 < s2) : Dm t s t2 s2 m ≤ bHi t s t2 s2 := by
  obtain ⟨k, e⟩ := dm_dvd (t := t) (t2 := t2) (m := m) hs hs2
  have g0 := gcI_pos (a := s) (b := s2) hs
  have w1 := mk_win (t := t) (a := m) hs
  have w2 := mk_win (t := t2) (a := m) hs2
  have u : k ≤ (high t s - low t2 s2) / gcI s s2 := (Int.le_ediv_iff_mul_le g0).mpr (by rw [Int.mul_comm, ← e]; unfold Dm; omega)
  rw [e]
  unfold bHi
  rw [Int.mul_comm (gcI s s2)]
  exact Int.mul_le_mul_of_nonneg_right u (by omega)
theorem dm_hit {D k : Int} (hs : 0 < s) (hs2 : 0 < s2) (hD : D = gcI s s2 * k) (h1 : low t s - high t2 s2 ≤ D) (h2 : D ≤ high t s - low t2 s2) : ∃ m, 0 ≤ m ∧ m < s * s2 ∧ Dm t s t2 s2 m = D := by
  obtain ⟨x, y, e⟩ := bezI (a := s) (b := s2) (by omega) (by omega)
  have l1 := hi_lo (t := t) hs
  have l2 := hi_lo (t := t2) hs2
  have eD : s * (x * k) - -(s2 * (y * k)) = D := by
    rw [hD, ← e, Int.add_mul, Int.mul_assoc, Int.mul_assoc]
    omega
  generalize hX : s * (x * k) = X at eD
  generalize hY : -(s2 * (y * k)) = Y at eD
  have m0 : ∃ m, m + low t s ≤ X ∧ X ≤ m + high t s ∧ m + low t2 s2 ≤ Y ∧ Y ≤ m + high t2 s2 := by
    by_cases c : X - high t s ≤ Y - high t2 s2
    · exact ⟨Y - high t2 s2, by omega, by omega, by omega, by omega⟩
    · exact ⟨X - high t s, by omega, by omega, by omega, by omega⟩
  obtain ⟨m, a1, a2, a3, a4⟩ := m0
  have P0 : 0 < s * s2 := Int.mul_pos hs hs2
  have r1 := Int.emod_nonneg m (show s * s2 ≠ 0 by omega)
  have r2 := Int.emod_lt_of_pos m P0
  have r3 := Int.emod_def m (s * s2)
  refine ⟨m % (s * s2), r1, r2, ?_⟩
  have q1 : markV t s (m % (s * s2)) = X - s * s2 * (m / (s * s2)) := by
    refine mk_uni hs ?_ (by omega) (by omega)
    rw [← hX, Int.mul_assoc, ← Int.mul_sub, Int.mul_emod_right]
  have q2 : markV t2 s2 (m % (s * s2)) = Y - s * s2 * (m / (s * s2)) := by
    refine mk_uni hs2 ?_ (by omega) (by omega)
    rw [← hY, Int.mul_comm s s2, Int.mul_assoc, ← Int.mul_neg, ← Int.mul_sub, Int.mul_emod_right]
  unfold Dm
  rw [q1, q2]
  omega
theorem lo_hit (hs : 0 < s) (hs2 : 0 < s2) : ∃ m, 0 ≤ m ∧ m < s * s2 ∧ Dm t s t2 s2 m = bLo t s t2 s2 := by
  have g0 := gcI_pos (a := s) (b := s2) hs
  have g1 := gcI_le (a := s) (b := s2) hs
  have l1 := hi_lo (t := t) hs
  have l2 := hi_lo (t := t2) hs2
  have u := up_first (i := low t s - high t2 s2) g0
  exact dm_hit (k := upD (low t s - high t2 s2) (gcI s s2)) hs hs2 (by unfold bLo; rw [Int.mul_comm]) (by unfold bLo; omega) (by unfold bLo; omega)
theorem hi_hit (hs : 0 < s) (hs2 : 0 < s2) : ∃ m, 0 ≤ m ∧ m < s * s2 ∧ Dm t s t2 s2 m = bHi t s t2 s2 := by
  have g0 := gcI_pos (a := s) (b := s2) hs
  have g1 := gcI_le (a := s) (b := s2) hs
  have l1 := hi_lo (t := t) hs
  have l2 := hi_lo (t := t2) hs2
  have u := fl_first (i := high t s - low t2 s2) g0
  exact dm_hit (k := (high t s - low t2 s2) / gcI s s2) hs hs2 (by unfold bHi; rw [Int.mul_comm]) (by unfold bHi; omega) (by unfold bHi; omega)
end
end Pu.Q
set_option Elab.async false
set_option linter.all false
set_option maxRecDepth 100000
set_option maxHeartbeats 1000000
set_option Elab.async false
set_option linter.all false
set_option maxRecDepth 100000
set_option maxHeartbeats 1000000
set_option Elab.async false
set_option linter.all false
set_option maxRecDepth 100000
set_option maxHeartbeats 1000000
set_option Elab.async false
set_option linter.all false
set_option maxRecDepth 100000
set_option maxHeartbeats 1000000
set_option Elab.async false
set_option linter.all false
set_option maxRecDepth 100000
set_option maxHeartbeats 1000000
namespace Pu.Q
open PySem PySem.Spec PyProof.Rows L2 Pu
section
variable {s l p s2 l2 p2 : Int} {t t2 : Str} {Q : RV → Ev → Prop}
theorem sum_zero {lo hi g base slope : Int} (h : hi < upD lo g * g) : sumOf lo hi g base slope = 0 := by
  unfold sumOf
  rw [if_pos h]
theorem up_mod {g x : Int} (hg : 0 < g) (h : x % g = 0) : upD x g * g = x := by
  obtain ⟨u1, u2⟩ := up_first (i := x) hg
  refine Classical.byContradiction fun q => ?_
  have := mul_gap hg (sub_mod0 (Int.mul_emod_left (upD x g) g) h) (by omega)
  omega
def hwV (need bgn m0 m1 end_ g w : Int) : Int := sumOf (if bgn > need then bgn else need) m0 g (1 - bgn) 1 + sumOf (if m0 + 1 > need then m0 + 1 else need) m1 g w 0 + sumOf (if m1 + 1 > need then m1 + 1 else need) end_ g (end_ + 1) (-1)
end
end Pu.Q
set_option Elab.async false
set_option linter.all false
set_option maxRecDepth 100000
set_option maxHeartbeats 1000000
namespace Pu.Q
open PySem PySem.Spec PyProof.Rows L2 Pu
section
variable {s l p s2 l2 p2 : Int} {t t2 : Str} {Q : RV → Ev → Prop}
theorem gcI_comm (a b : Int) : gcI a b = gcI b a := by unfold gcI; rw [Int.gcd_comm]
theorem bLo_sw : bLo t2 s2 t s = -bHi t s t2 s2 := by
  unfold bLo bHi upD
  rw [gcI_comm s2 s, show -(low t2 s2 - high t s) = high t s - low t2 s2 by omega, Int.neg_mul]
theorem bHi_sw : bHi t2 s2 t s = -bLo t s t2 s2 := by
  unfold bLo bHi upD
  rw [gcI_comm s2 s, show -(low t s - high t2 s2) = high t2 s2 - low t s by omega, Int.neg_mul, Int.neg_neg]
end
end Pu.Q
set_option Elab.async false
set_option linter.all false
set_option maxRecDepth 100000
set_option maxHeartbeats 600000
set_option Elab.async false
set_option linter.all false
set_option maxRecDepth 100000
set_option maxHeartbeats 600000
set_option Elab.async false
set_option linter.all false
set_option maxRecDepth 100000
set_option maxHeartbeats 1000000
set_option Elab.async false
set_option linter.all false
set_option maxRecDepth 100000
set_option maxHeartbeats 4000000
namespace Pu.Q
open PySem PySem.Spec PyProof.Rows L2 Pu
section
variable {s l p : Int} {t : Str} {Q : RV → Ev → Prop}
def NoteW (s : Int) (n : Note) : Prop := 0 ≤ n.1 ∧ ∀ m, n.2.2 = some m → 0 ≤ m ∧ m ≤ 1000000000000000000000000000000 ∧ m % s = 0
theorem noteW_of {n : Note} (h : noteB s n = true) : NoteW s n := by
  obtain ⟨lo, hi, m⟩ := n
  unfold noteB at h
  simp only [Bool.and_eq_true, decide_eq_true_eq] at h
  obtain ⟨⟨⟨⟨h1, h2⟩, h3, h4⟩, h5⟩, h6⟩ := h
  refine ⟨h1, fun k hk => ?_⟩
  have hk' : m = some k := hk
  subst hk'
  have h6' : markB s k = true := h6
  unfold markB at h6'
  rw [decide_eq_true_eq] at h6'
  exact ⟨h6'.1.1, h6'.1.2, h6'.2⟩
end
end Pu.Q
set_option Elab.async false
set_option linter.all false
set_option maxRecDepth 100000
set_option maxHeartbeats 4000000
namespace Pu.Q
open PySem PySem.Spec PyProof.Rows L2 Pu
section
variable {s l p : Int} {t : Str} {Q : RV → Ev → Prop}
structure LotW (s : Int) (ns : List Note) : Prop where
  ne : ns ≠ []
  few : ns.length ≤ 40
  all : ∀ n ∈ ns, noteB s n = true
theorem LotW.mark {ns : List Note} (H : LotW s ns) : ∀ n ∈ ns, ∀ m, n.2.2 = some m → 0 ≤ m := fun n hn m hm => ((noteW_of (H.all n hn)).2 m hm).1
end
end Pu.Q
set_option Elab.async false
set_option linter.all false
set_option maxRecDepth 100000
set_option maxHeartbeats 1000000
namespace Pu.Q
open PySem PySem.Spec PyProof.Rows L2 Pu
section
variable {s l p : Int} {t : Str} {Q : RV → Ev → Prop}
theorem eqL_v {is : List Int} : veq (.lst (is.map .int)) (.lst []) = decide (is = []) := by
  have := neL_v (is := is)
  cases is with
  | nil => rfl
  | cons x r => simpa using this
end
end Pu.Q
set_option Elab.async false
set_option linter.all false
set_option maxRecDepth 100000
set_option maxHeartbeats 2000000
set_option Elab.async false
set_option linter.all false
set_option maxRecDepth 100000
set_option maxHeartbeats 2000000
set_option Elab.async false
set_option linter.all false
set_option maxRecDepth 100000
set_option maxHeartbeats 1000000
namespace Pu.Q
open PySem PySem.Spec PyProof.Rows L2 Pu
structure RZ (d z : Nat) (v : Val) : Prop where
  dd : isD v = true
  dp : dep v ≤ d
  io : iOk v = true
  sz : rsz v ≤ z
structure RZs (d z : Nat) (vs : List Val) : Prop where
  dd : isDs vs = true
  dp : deps vs ≤ d
  io : iOks vs = true
  sz : rszs vs ≤ z
theorem RZ.ok {d z : Nat} {v : Val} (h : RZ d z v) (hd : d ≤ 60) (hz : z ≤ 16000000) : rOk v = true := by
  unfold rOk
  rw [h.dd, h.io, decide_eq_true (Nat.le_trans h.dp hd), decide_eq_true (Nat.le_trans h.sz hz)]
  rfl
theorem RZ.dOk {d z : Nat} {v : Val} (h : RZ d z v) (hd : d ≤ 60) : dOk v = true := by
  unfold Pu.dOk
  rw [h.dd, Bool.true_and]
  exact decide_eq_true (Nat.le_trans h.dp (by omega))
theorem RZ.tup {d z : Nat} {vs : List Val} (h : RZs d z vs) : RZ (d + 1) (z + 3) (.tup vs) := ⟨by rw [isD]; exact h.dd, by rw [dep]; have := h.dp; omega, by rw [iOk]; exact h.io, by rw [rsz]; have := h.sz; omega⟩
theorem RZ.lst {d z : Nat} {vs : List Val} (h : RZs d z vs) : RZ (d + 1) (z + 3) (.lst vs) := ⟨by rw [isD]; exact h.dd, by rw [dep]; have := h.dp; omega, by rw [iOk]; exact h.io, by rw [rsz]; have := h.sz; omega⟩
theorem RZs.nil : RZs 0 0 [] := ⟨rfl, Nat.le_refl _, rfl, Nat.le_refl _⟩
theorem RZs.cons {d d2 z z2 : Nat} {v : Val} {vs : List Val} (h : RZ d z v) (h2 : RZs d2 z2 vs) : RZs (max d d2) (z + 2 + z2) (v :: vs) := by
  refine ⟨?_, ?_, ?_, ?_⟩
  · rw [isDs, h.dd, h2.dd]; rfl
  · rw [deps]; have := h.dp; have := h2.dp; omega
  · rw [iOks, h.io, h2.io]; rfl
  · rw [rszs]; have := h.sz; have := h2.sz; omega
theorem RZs.map {α : Type} {f : α → Val} {d z : Nat} : ∀ {xs : List α}, (∀ x ∈ xs, RZ d z (f x)) → RZs d (xs.length * (z + 2)) (xs.map f)
  | [], _ => ⟨rfl, Nat.zero_le _, rfl, Nat.zero_le _⟩
  | x :: r, h => by
    have a := h x List.mem_cons_self
    have b := RZs.map (xs := r) fun y hy => h y (List.mem_cons_of_mem _ hy)
    have c := RZs.cons a b
    refine ⟨c.dd, Nat.le_trans c.dp (by omega), c.io, Nat.le_trans c.sz ?_⟩
    rw [List.length_cons, Nat.add_mul, Nat.one_mul]
    omega
theorem RZ.int {i : Int} (h1 : -1606938044258990275541962092341162602522202993782792835301376 < i) (h2 : i < 1606938044258990275541962092341162602522202993782792835301376) : RZ 0 202 (.int i) := ⟨rfl, Nat.le_refl _, by rw [iOk]; exact decide_eq_true ⟨h1, h2⟩, by rw [rsz]; exact Nat.le_refl _⟩
theorem RZ.non : RZ 0 202 .non := ⟨rfl, Nat.le_refl _, rfl, by rw [rsz]; decide⟩
theorem RZ.bl {b : Bool} : RZ 0 202 (.bl b) := ⟨rfl, Nat.le_refl _, rfl, by rw [rsz]; decide⟩
theorem RZ.str {x : Str} {n : Nat} (h : PyData.strOk x = true) (hl : x.length ≤ n) : RZ 0 (10 * n + 2) (.str x) := ⟨by rw [isD]; exact h, by rw [dep]; exact Nat.le_refl _, by rw [iOk], by rw [rsz]; omega⟩
theorem RZ.mono {d d2 z z2 : Nat} {v : Val} (h : RZ d z v) (hd : d ≤ d2) (hz : z ≤ z2) : RZ d2 z2 v := ⟨h.dd, Nat.le_trans h.dp hd, h.io, Nat.le_trans h.sz hz⟩
end Pu.Q
set_option Elab.async false
set_option linter.all false
set_option maxRecDepth 100000
set_option maxHeartbeats 2000000
set_option Elab.async false
set_option linter.all false
set_option maxRecDepth 100000
set_option maxHeartbeats 1000000
namespace Pu.Q
open PySem PySem.Spec PyProof.Rows L2 Pu
def okS (x : Str) : Prop := ∀ c ∈ x.cps.toList, c < 1114112
theorem okS.strOk {x : Str} (h : okS x) : PyData.strOk x = true := by
  unfold PyData.strOk
  rw [← Array.all_toList, List.all_eq_true]
  intro c hc
  exact decide_eq_true (h c hc)
end Pu.Q
set_option Elab.async false
set_option linter.all false
set_option maxRecDepth 100000
set_option maxHeartbeats 2000000
set_option Elab.async false
set_option linter.all false
set_option maxRecDepth 100000
set_option maxHeartbeats 2000000
set_option Elab.async false
set_option linter.all false
set_option maxRecDepth 100000
set_option maxHeartbeats 1000000
set_option Elab.async false
set_option linter.all false
set_option maxRecDepth 100000
set_option maxHeartbeats 2000000
set_option Elab.async false
set_option linter.all false
set_option maxRecDepth 100000
set_option maxHeartbeats 2000000
set_option Elab.async false
set_option linter.all false
set_option maxRecDepth 100000
set_option maxHeartbeats 2000000
set_option Elab.async false
set_option linter.all false
set_option maxRecDepth 100000
set_option maxHeartbeats 2000000
set_option Elab.async false
set_option linter.all false
set_option maxRecDepth 100000
set_option maxHeartbeats 2000000
set_option Elab.async false
set_option linter.all false
set_option maxRecDepth 100000
set_option maxHeartbeats 2000000
set_option Elab.async false
set_option linter.all false
set_option maxRecDepth 100000
set_option maxHeartbeats 2000000
set_option Elab.async false
set_option linter.all false
set_option maxRecDepth 100000
set_option maxHeartbeats 2000000
set_option Elab.async false
set_option linter.all false
set_option maxRecDepth 100000
set_option maxHeartbeats 4000000
set_option Elab.async false
set_option linter.all false
set_option maxRecDepth 100000
set_option maxHeartbeats 4000000
set_option Elab.async false
set_option linter.all false
set_option maxRecDepth 100000
set_option maxHeartbeats 8000000
set_option Elab.async false
set_option linter.all false
set_option maxRecDepth 100000
set_option maxHeartbeats 4000000
namespace Pu.Q
open PySem PySem.Spec PyProof.Rows L2 Pu
section
variable {s l p : Int} {t : Str} {Q : RV → Ev → Prop} {v w : Val} {R : List Str}
def BV (G : Val → Prop) (v : Val) : Prop := (∃ ys, v = .tup ys ∧ ys.length ≤ 260 ∧ ∀ y ∈ ys, G y) ∨ (∃ ys, v = .lst ys ∧ ∀ y ∈ ys, G y) ∨ v = .non ∨ v = .int 5
theorem isRs_al29 {ys : List Val} (h : ∀ y ∈ ys, isR y = true) : isRs ys = true := by
  induction ys with
  | nil => rfl
  | cons y r ih => simp [isRs, h y List.mem_cons_self, ih fun z hz => h z (List.mem_cons_of_mem _ hz)]
theorem BV.isR (h : BV (fun y => isR y = true) v) : isR v = true := by
  rcases h with ⟨ys, rfl, _, h⟩ | ⟨ys, rfl, h⟩ | rfl | rfl
  · show isRs ys = true; exact isRs_al29 h
  · show isRs ys = true; exact isRs_al29 h
  · rfl
  · rfl
theorem BV.len {G : Val → Prop} (h : BV G v) : ∀ vs, v = .tup vs → vs.length ≤ 260 := fun vs e => by
  subst e
  rcases h with ⟨ys, e, h, _⟩ | ⟨ys, e, _⟩ | e | e
  · cases e; exact h
  · cases e
  · cases e
  · cases e
end
end Pu.Q
set_option Elab.async false
set_option linter.all false
set_option maxRecDepth 100000
set_option maxHeartbeats 4000000
set_option Elab.async false
set_option linter.all false
set_option maxRecDepth 100000
set_option maxHeartbeats 4000000
set_option Elab.async false
set_option linter.all false
set_option maxRecDepth 100000
set_option maxHeartbeats 4000000
set_option Elab.async false
set_option linter.all false
set_option maxRecDepth 100000
set_option maxHeartbeats 4000000
set_option Elab.async false
set_option linter.all false
set_option maxRecDepth 100000
set_option maxHeartbeats 2000000
set_option Elab.async false
set_option linter.all false
set_option maxRecDepth 100000
set_option maxHeartbeats 4000000
set_option Elab.async false
set_option linter.all false
set_option maxRecDepth 100000
set_option maxHeartbeats 4000000
set_option Elab.async false
set_option linter.all false
set_option maxRecDepth 100000
set_option maxHeartbeats 4000000
set_option Elab.async false
set_option linter.all false
set_option maxRecDepth 100000
set_option maxHeartbeats 8000000
set_option Elab.async false
set_option linter.all false
set_option maxRecDepth 100000
set_option maxHeartbeats 8000000
set_option Elab.async false
set_option linter.all false
set_option maxRecDepth 100000
set_option maxHeartbeats 8000000
set_option Elab.async false
set_option linter.all false
set_option maxRecDepth 100000
set_option maxHeartbeats 4000000
set_option Elab.async false
set_option linter.all false
set_option maxRecDepth 100000
set_option maxHeartbeats 4000000
set_option Elab.async false
set_option linter.all false
set_option maxRecDepth 100000
set_option maxHeartbeats 4000000
namespace Pu.Q
open PySem PySem.Spec PyProof.Rows L2 Pu
section
variable {s l p : Int} {t : Str} {Q : RV → Ev → Prop}
theorem mx_max {i j : Int} : mx i j = max i j := by
  unfold mx
  split <;> omega
theorem mn_min {i j : Int} : mn i j = min i j := by
  unfold mn
  split <;> omega
structure FarN (s : Int) (t : Str) (ns : List Note) : Prop where
  lo : ∀ n ∈ ns, 0 ≤ n.1
  hi : ∀ n ∈ ns, ∀ m, n.2.2 = some m → 0 ≤ m - high t s
theorem FarN.take {k : Nat} {ns : List Note} (F : FarN s t ns) : FarN s t (ns.take k) := ⟨fun n h => F.lo n (List.mem_of_mem_take h), fun n h => F.hi n (List.mem_of_mem_take h)⟩
end
end Pu.Q
set_option Elab.async false
set_option linter.all false
set_option maxRecDepth 100000
set_option maxHeartbeats 4000000
namespace Pu.Q
open PySem PySem.Spec PyProof.Rows L2 Pu
section
variable {s l p : Int} {t : Str} {Q : RV → Ev → Prop}
abbrev Row := Int × List Int
end
end Pu.Q
set_option Elab.async false
set_option linter.all false
set_option maxRecDepth 100000
set_option maxHeartbeats 4000000
namespace Pu.Q
open PySem PySem.Spec PyProof.Rows L2 Pu
section
variable {s l p : Int} {t : Str} {Q : RV → Ev → Prop}
structure TabR (s p : Int) (t : Str) (ns : List Note) (k : Nat) (R : List Row) : Prop where
  fit : ∀ q ∈ R, (ways s p t (ns.take k) q.2).isSome = true
  nd : (R.map (·.1)).Nodup
  rng : ∀ q ∈ R, 0 ≤ q.1 ∧ q.1 ≤ k
  len : ∀ q ∈ R, q.2.length ≤ k
theorem nd_len : ∀ (k : Nat) (L : List Int), L.Nodup → (∀ x ∈ L, 0 ≤ x ∧ x < k) → L.length ≤ k
  | 0, L, _, h => by
    cases L with
    | nil => exact Nat.le_refl _
    | cons x r => have := h x List.mem_cons_self; omega
  | k + 1, L, nd, h => by
    by_cases c : (k : Int) ∈ L
    · have e := nd_len k (L.erase (k : Int)) (nd.erase _) fun x hx => by
        have h1 := h x (List.mem_of_mem_erase hx)
        have h2 : x ≠ k := fun z => by rw [z] at hx; exact (nd.not_mem_erase) hx
        omega
      rw [List.length_erase_of_mem c] at e
      omega
    · have e := nd_len k L nd fun x hx => by
        have h1 := h x hx
        have h2 : x ≠ k := fun z => by rw [z] at hx; exact c hx
        omega
      omega
theorem TabR.few {ns : List Note} {k : Nat} {R : List Row} (T : TabR s p t ns k R) : R.length ≤ k + 1 := by
  have := nd_len (k + 1) (R.map (·.1)) T.nd fun x hx => by
    obtain ⟨q, hq, rfl⟩ := List.mem_map.mp hx
    have := T.rng q hq
    omega
  rwa [List.length_map] at this
theorem TabR.nil {ns : List Note} {k : Nat} : TabR s p t ns k [] := ⟨fun _ h => (by cases h), List.nodup_nil, fun _ h => (by cases h), fun _ h => (by cases h)⟩
end
end Pu.Q
set_option Elab.async false
set_option linter.all false
set_option maxRecDepth 100000
set_option maxHeartbeats 4000000
namespace Pu.Q
open PySem PySem.Spec PyProof.Rows L2 Pu
section
variable {s l p : Int} {t : Str} {Q : RV → Ev → Prop}
structure Dd (k : Nat) (v : Val) : Prop where
  d : isD v = true
  h : dep v ≤ k
theorem Dd.int {i : Int} : Dd 0 (.int i) := ⟨rfl, Nat.le_refl _⟩
theorem Dd.bl {i : Bool} : Dd 0 (.bl i) := ⟨rfl, Nat.le_refl _⟩
theorem Dd.lst {k : Nat} {vs : List Val} (h : ∀ v ∈ vs, Dd k v) : Dd (k + 1) (.lst vs) := by
  have := deps_of fun v hv => (h v hv).h
  exact ⟨by rw [isD]; exact isDs_of fun v hv => (h v hv).d, by rw [dep]; omega⟩
theorem Dd.tup {k : Nat} {vs : List Val} (h : ∀ v ∈ vs, Dd k v) : Dd (k + 1) (.tup vs) := by
  have := deps_of fun v hv => (h v hv).h
  exact ⟨by rw [isD]; exact isDs_of fun v hv => (h v hv).d, by rw [dep]; omega⟩
theorem Dd.ok {k : Nat} {v : Val} (h : Dd k v) (hk : k ≤ 60) : dOk v = true := by
  unfold dOk
  rw [h.d, Bool.true_and]
  exact decide_eq_true (Nat.le_trans h.h hk)
end
end Pu.Q
set_option Elab.async false
set_option linter.all false
set_option maxRecDepth 100000
set_option maxHeartbeats 4000000
set_option Elab.async false
set_option linter.all false
set_option maxRecDepth 100000
set_option maxHeartbeats 4000000
namespace Pu.Q
open PySem PySem.Spec PyProof.Rows L2 Pu
section
variable {s l p : Int} {t : Str} {Q : RV → Ev → Prop}
def NO5 (s N W : Int) (n : Note) : Prop := N ≤ n.1 ∧ n.1 ≤ n.2.1 ∧ n.2.1 ≤ W ∧ ∀ m, n.2.2 = some m → 0 ≤ m ∧ m ≤ W ∧ m % s = 0 ∧ N ≤ m + 3 * s
theorem NO5.ok {N W : Int} {n : Note} (h : NO5 s N W n) : NOk s N W n := ⟨h.1, h.2.1, h.2.2.1, fun m hm => ⟨(h.2.2.2 m hm).1, (h.2.2.2 m hm).2.1, (h.2.2.2 m hm).2.2.1⟩⟩
end
end Pu.Q
set_option Elab.async false
set_option linter.all false
set_option maxRecDepth 100000
set_option maxHeartbeats 4000000
namespace Pu.Q
open PySem PySem.Spec PyProof.Rows L2 Pu
section
variable {s l p : Int} {t : Str} {Q : RV → Ev → Prop}
structure LotB (s l p : Int) (t : Str) (ns : List Note) : Prop where
  p1 : 1 ≤ p
  p2 : p ≤ 1000000000000000000
  l0 : 0 ≤ l
  lw : low t s ≤ 0
  hi : ∀ n ∈ ns, 0 ≤ n.1 ∧ n.2.1 ≤ Mx
  mar : ∀ k m, mkAt ns k = some m → 0 ≤ m ∧ m ≤ Mx
theorem mxd : Mx = 1000000000000000000000000000000 := rfl
theorem LotB.low {ns : List Note} (B : LotB s l p t ns) : ∀ n ∈ ns, 0 ≤ n.1 := fun n h => (B.hi n h).1
theorem LotB.x {ns : List Note} {xs : List Int} (B : LotB s l p t ns) (M : Mins ns none xs) (j : Nat) : 0 ≤ xs.getD j 0 ∧ xs.getD j 0 ≤ Mx := by
  refine ⟨M.ge0 B.low j, ?_⟩
  rw [List.getD_eq_getElem?_getD]
  cases e : xs[j]? with
  | none => rw [mxd]; show (0 : Int) ≤ _; omega
  | some x =>
    have lt : j < ns.length := by rw [← M.len]; exact (List.getElem?_eq_some_iff.mp e).1
    have := M.bnd (List.getElem?_eq_getElem lt) e
    exact Int.le_trans this.2 (B.hi _ (List.getElem_mem lt)).2
theorem LotB.bm {ns : List Note} {out : List (Int × Option Int)} (B : LotB s l p t ns) (e : ways s p t ns [] = some out) : ∀ j, j < ns.length → 0 ≤ bmA s p t ns [] j ∧ bmA s p t ns [] j ≤ Mx := fun j hj => by
  obtain ⟨_, ⟨M, _⟩, _⟩ := bm_out B.p1 B.low e
  exact B.x M j
theorem LotB.lst {ns : List Note} {out : List (Int × Option Int)} {k : Nat} {m : Int} (B : LotB s l p t ns) (e : ways s p t ns [] = some out) (hm : mkAt ns k = some m) : 0 ≤ lstA s p t ns (out.map (·.1)) (firstE ns k) m ∧ lstA s p t ns (out.map (·.1)) (firstE ns k) m ≤ Mx := by
  obtain ⟨f, ef, M⟩ := ways_fit B.p1 e
  have hk := mk_lt (show (mkAt ns k).isSome = true by rw [hm]; rfl)
  obtain ⟨a1, a2, a3⟩ := firstE_ok (ns := ns) k
  have mf : mkAt ns (firstE ns k) = some m := by rw [← mk_first]; exact hm
  constructor
  · unfold lstA
    simp only [mx_max]
    omega
  · have O := ((fit_iff (s := s) (p := p) (t := t) M.len (mem_cuts.mp cutsOf_mem).1).mp ⟨f, ef⟩ (firstE ns k) (by omega)).2 m mf (fun z => by
      rw [cutsOf_get (by omega)] at z
      unfold cutOf at z
      rw [a3] at z
      cases z)
    have := B.x M (firstE ns k)
    rw [mn_min] at O
    omega
end
end Pu.Q
set_option Elab.async false
set_option linter.all false
set_option maxRecDepth 100000
set_option maxHeartbeats 4000000
set_option Elab.async false
set_option linter.all false
set_option maxRecDepth 100000
set_option maxHeartbeats 1000000
set_option Elab.async false
set_option linter.all false
set_option maxRecDepth 100000
set_option maxHeartbeats 1000000
set_option Elab.async false
set_option linter.all false
set_option maxRecDepth 100000
set_option maxHeartbeats 1000000
set_option Elab.async false
set_option linter.all false
set_option maxRecDepth 100000
set_option maxHeartbeats 1000000
set_option Elab.async false
set_option linter.all false
set_option maxRecDepth 100000
set_option maxHeartbeats 1000000
set_option Elab.async false
set_option linter.all false
set_option maxRecDepth 100000
set_option maxHeartbeats 1000000
set_option Elab.async false
set_option linter.all false
set_option maxRecDepth 100000
set_option maxHeartbeats 1000000
set_option Elab.async false
set_option linter.all false
set_option maxRecDepth 100000
set_option maxHeartbeats 1000000
set_option Elab.async false
set_option linter.all false
set_option maxRecDepth 100000
set_option maxHeartbeats 1000000
set_option Elab.async false
set_option linter.all false
set_option maxRecDepth 100000
set_option maxHeartbeats 1000000
set_option Elab.async false
set_option linter.all false
set_option maxRecDepth 100000
set_option maxHeartbeats 1000000
set_option Elab.async false
set_option linter.all false
set_option maxRecDepth 100000
set_option maxHeartbeats 1000000
set_option Elab.async false
set_option linter.all false
set_option maxRecDepth 100000
set_option maxHeartbeats 1000000
set_option Elab.async false
set_option linter.all false
set_option maxRecDepth 100000
set_option maxHeartbeats 2000000
set_option Elab.async false
set_option linter.all false
set_option maxRecDepth 100000
set_option maxHeartbeats 1000000
set_option Elab.async false
set_option linter.all false
set_option maxRecDepth 100000
set_option maxHeartbeats 1000000
set_option Elab.async false
set_option linter.all false
set_option maxRecDepth 100000
set_option maxHeartbeats 1000000
set_option Elab.async false
set_option linter.all false
set_option maxRecDepth 100000
set_option maxHeartbeats 1000000
set_option Elab.async false
set_option linter.all false
set_option maxRecDepth 100000
set_option maxHeartbeats 1000000
set_option Elab.async false
set_option linter.all false
set_option maxRecDepth 100000
set_option maxHeartbeats 1000000
set_option Elab.async false
set_option linter.all false
set_option maxRecDepth 100000
set_option maxHeartbeats 1000000
set_option Elab.async false
set_option linter.all false
set_option maxRecDepth 100000
set_option maxHeartbeats 1000000
namespace Pu.Q
open PySem PySem.Spec PyProof.Rows L2 Pu
section
variable {s s2 : Int} {t t2 : Str}
theorem triA (m : Int) : (m + 1) * (m + 1 - 1) / 2 = m * (m - 1) / 2 + m := by
  have e : (m + 1) * (m + 1 - 1) = m * (m - 1) + m * 2 := by grind
  rw [e, Int.add_mul_ediv_right _ _ (by decide)]
theorem sum_step {lo hi g base slope : Int} (hg : 0 < g) : sumOf lo hi g base slope = (if lo % g = 0 ∧ lo ≤ hi then base + slope * lo else 0) + sumOf (lo + 1) hi g base slope := by
  by_cases h : lo % g = 0
  · have e1 : upD lo g * g = lo := up_mod hg h
    have e2 : upD (lo + 1) g * g = lo + g := by
      obtain ⟨a1, a2⟩ := up_first (i := lo + 1) hg
      have m1 : (upD (lo + 1) g * g - lo) % g = 0 := sub_mod0 (by rw [Int.mul_emod_left]) h
      have m2 : (lo + g - upD (lo + 1) g * g) % g = 0 := sub_mod0 (by rw [Int.add_emod_right]; exact h) (by rw [Int.mul_emod_left])
      rcases Int.lt_trichotomy (upD (lo + 1) g * g) (lo + g) with c | c | c
      · have := mul_gap hg m2 (by omega)
        omega
      · exact c
      · omega
    unfold sumOf
    rw [e1, e2]
    by_cases c : lo ≤ hi
    · rw [if_neg (by omega), if_pos ⟨h, c⟩]
      have q : (hi - lo) / g = (hi - (lo + g)) / g + 1 := by
        rw [show hi - lo = hi - (lo + g) + 1 * g by omega, Int.add_mul_ediv_right _ _ (by omega)]
      by_cases c2 : lo + g > hi
      · rw [if_pos c2]
        have z : (hi - lo) / g = 0 := Int.ediv_eq_zero_of_lt (by omega) (by omega)
        rw [z]
        simp
      · rw [if_neg c2, q]
        generalize (hi - (lo + g)) / g = k
        have t1 := triA (k + 1)
        generalize hA : (k + 1) * (k + 1 - 1) / 2 = A at *
        rw [t1]
        grind
    · rw [if_pos (by omega), if_neg (by omega), if_pos (by omega)]
      rfl
  · have e2 : upD (lo + 1) g = upD lo g := by
      obtain ⟨a1, a2⟩ := up_first (i := lo + 1) hg
      obtain ⟨b1, b2⟩ := up_first (i := lo) hg
      have n1 : upD lo g * g ≠ lo := fun z => h (by rw [← z, Int.mul_emod_left])
      have c1 : upD (lo + 1) g * g = upD lo g * g := by
        have m1 : (upD (lo + 1) g * g - upD lo g * g) % g = 0 := sub_mod0 (by rw [Int.mul_emod_left]) (by rw [Int.mul_emod_left])
        have m2 : (upD lo g * g - upD (lo + 1) g * g) % g = 0 := sub_mod0 (by rw [Int.mul_emod_left]) (by rw [Int.mul_emod_left])
        rcases Int.lt_trichotomy (upD (lo + 1) g * g) (upD lo g * g) with c | c | c
        · have := mul_gap hg m2 (by omega)
          omega
        · exact c
        · have := mul_gap hg m1 (by omega)
          omega
      exact Int.eq_of_mul_eq_mul_right (by omega) c1
    unfold sumOf
    rw [e2]
    rw [if_neg (show ¬ (lo % g = 0 ∧ lo ≤ hi) from fun z => h z.1)]
    omega
theorem crt {u v : Int} (hs : 0 < s) (hs2 : 0 < s2) (h : (v - u) % gcI s s2 = 0) : ∃ a, (a - u) % s = 0 ∧ (a - v) % s2 = 0 := by
  obtain ⟨x, y, e⟩ := bezI (a := s) (b := s2) (by omega) (by omega)
  obtain ⟨k, hk⟩ := Int.dvd_of_emod_eq_zero h
  refine ⟨u + s * (x * k), ?_, ?_⟩
  · rw [show u + s * (x * k) - u = s * (x * k) by omega]
    exact Int.mul_emod_right ..
  · have : u + s * (x * k) - v = s2 * (-(y * k)) := by grind
    rw [this]
    exact Int.mul_emod_right ..
end
end Pu.Q
set_option Elab.async false
set_option linter.all false
set_option maxRecDepth 100000
set_option maxHeartbeats 1000000
namespace Pu.Q
open PySem PySem.Spec PyProof.Rows L2 Pu
section
variable {s s2 : Int} {t t2 : Str}
def lcI (s s2 : Int) : Int := s / gcI s s2 * s2
theorem lc_is (hs : 0 < s) (hs2 : 0 < s2) : ∃ p q, s = gcI s s2 * p ∧ s2 = gcI s s2 * q ∧ lcI s s2 = p * s2 ∧ lcI s s2 = s * q ∧ 0 < p ∧ 0 < q := by
  have g0 := gcI_pos (a := s) (b := s2) hs
  obtain ⟨p, hp⟩ : gcI s s2 ∣ s := Int.gcd_dvd_left ..
  obtain ⟨q, hq⟩ : gcI s s2 ∣ s2 := Int.gcd_dvd_right ..
  have e : lcI s s2 = p * s2 := by
    unfold lcI
    have : s / gcI s s2 = p := by
      conv => lhs; rw [hp]
      have e3 : gcI (gcI s s2 * p) s2 = gcI s s2 := by rw [← hp]
      rw [e3]
      exact Int.mul_ediv_cancel_left _ (by omega)
    rw [this]
  refine ⟨p, q, hp, hq, e, ?_, ?_, ?_⟩
  · rw [e]
    generalize gcI s s2 = g at *
    subst hp hq
    grind
  · rcases Int.lt_or_le 0 p with h | h
    · exact h
    · have := Int.mul_nonpos_of_nonneg_of_nonpos (show 0 ≤ gcI s s2 by omega) h
      omega
  · rcases Int.lt_or_le 0 q with h | h
    · exact h
    · have := Int.mul_nonpos_of_nonneg_of_nonpos (show 0 ≤ gcI s s2 by omega) h
      omega
theorem lc_pos (hs : 0 < s) (hs2 : 0 < s2) : 0 < lcI s s2 := by
  obtain ⟨p, q, _, _, e, _, hp, _⟩ := lc_is hs hs2
  rw [e]
  exact Int.mul_pos hp hs2
theorem lc_mod (hs : 0 < s) (hs2 : 0 < s2) : lcI s s2 % s = 0 ∧ lcI s s2 % s2 = 0 := by
  obtain ⟨p, q, _, _, e1, e2, _, _⟩ := lc_is hs hs2
  constructor
  · rw [e2]; exact Int.mul_emod_right ..
  · rw [e1]; exact Int.mul_emod_left ..
theorem lc_least {x : Int} (hs : 0 < s) (hs2 : 0 < s2) (h1 : x % s = 0) (h2 : x % s2 = 0) : x % lcI s s2 = 0 := by
  obtain ⟨p, q, e1, e2, e3, e4, _, _⟩ := lc_is hs hs2
  have g0 := gcI_pos (a := s) (b := s2) hs
  obtain ⟨X, Y, e⟩ := bezI (a := s) (b := s2) (by omega) (by omega)
  obtain ⟨n, hn⟩ := Int.dvd_of_emod_eq_zero h1
  obtain ⟨m, hm⟩ := Int.dvd_of_emod_eq_zero h2
  have : x = lcI s s2 * (m * X + n * Y) := by
    have k : gcI s s2 * x = gcI s s2 * (lcI s s2 * (m * X + n * Y)) := by
      have a1 : x * (s * X) = gcI s s2 * (lcI s s2 * (m * X)) := by
        rw [e3]
        generalize gcI s s2 = g at *
        rw [hm]
        conv => lhs; rw [e1]
        grind
      have a2 : x * (s2 * Y) = gcI s s2 * (lcI s s2 * (n * Y)) := by
        rw [e4]
        generalize gcI s s2 = g at *
        rw [hn]
        conv => lhs; rw [e2]
        grind
      have a3 : gcI s s2 * x = x * (s * X) + x * (s2 * Y) := by
        rw [← Int.mul_add, e, Int.mul_comm]
      rw [a3, a1, a2]
      grind
    exact Int.eq_of_mul_eq_mul_left (by omega) k
  rw [this]
  exact Int.mul_emod_right ..
theorem mk_per {m k : Int} (hs : 0 < s) (h : k % s = 0) : markV t s (m + k) = markV t s m + k := by
  obtain ⟨w1, w2⟩ := mk_win (t := t) (a := m) hs
  refine mk_uni hs ?_ (by omega) (by omega)
  rw [Int.add_emod, mk_mod hs, h]
  simp
theorem dm_per {m k : Int} (hs : 0 < s) (hs2 : 0 < s2) (h : k % lcI s s2 = 0) : Dm t s t2 s2 (m + k) = Dm t s t2 s2 m := by
  obtain ⟨c, hc⟩ := Int.dvd_of_emod_eq_zero h
  obtain ⟨m1, m2⟩ := lc_mod hs hs2
  have k1 : k % s = 0 := by rw [hc, Int.mul_emod, m1]; simp
  have k2 : k % s2 = 0 := by rw [hc, Int.mul_emod, m2]; simp
  unfold Dm
  rw [mk_per hs k1, mk_per hs2 k2]
  omega
theorem dm_in {m : Int} (hs : 0 < s) (hs2 : 0 < s2) : Dm t s t2 s2 (m % lcI s s2) = Dm t s t2 s2 m := by
  have e := Int.mul_ediv_add_emod m (lcI s s2)
  have := dm_per (t := t) (t2 := t2) (m := m % lcI s s2) (k := lcI s s2 * (m / lcI s s2)) hs hs2 (Int.mul_emod_right ..)
  rw [show m % lcI s s2 + lcI s s2 * (m / lcI s s2) = m by omega] at this
  exact this.symm
def lwD (t : Str) (s : Int) (t2 : Str) (s2 d : Int) : Int := if low t s < low t2 s2 + d then low t2 s2 + d else low t s
def hgD (t : Str) (s : Int) (t2 : Str) (s2 d : Int) : Int := if high t2 s2 + d < high t s then high t2 s2 + d else high t s
theorem rI_nodup {a b : Int} : (rI a b).Nodup := by
  unfold rI
  refine List.pairwise_map.mpr (List.Pairwise.imp (fun {x y} h z => h ?_) List.nodup_range)
  omega
theorem rI_length {a b : Int} : (rI a b).length = (b - a).toNat := by simp [rI]
def withD (t : Str) (s : Int) (t2 : Str) (s2 d : Int) : List Int := (rI 0 (lcI s s2)).filter fun a => decide (Dm t s t2 s2 a = d)
theorem with_mem {d a : Int} : a ∈ withD t s t2 s2 d ↔ (0 ≤ a ∧ a < lcI s s2) ∧ Dm t s t2 s2 a = d := by
  unfold withD
  rw [List.mem_filter, rI_mem, decide_eq_true_eq]
theorem with_none {d : Int} (hs : 0 < s) (hs2 : 0 < s2) (h : d % gcI s s2 ≠ 0) : withD t s t2 s2 d = [] := by
  refine List.filter_eq_nil_iff.mpr fun a _ z => h ?_
  obtain ⟨k, hk⟩ := dm_dvd (t := t) (t2 := t2) (m := a) hs hs2
  rw [← of_decide_eq_true z, hk]
  exact Int.mul_emod_right ..
theorem with_len {d : Int} (hs : 0 < s) (hs2 : 0 < s2) (h : d % gcI s s2 = 0) : (withD t s t2 s2 d).length = (hgD t s t2 s2 d + 1 - lwD t s t2 s2 d).toNat := by
  have L0 := lc_pos hs hs2
  have nd : ((withD t s t2 s2 d).map fun a => markV t s a - a).Nodup := by
    refine List.pairwise_map.mpr (List.Pairwise.imp_of_mem (fun {a b} ha hb hn hz => hn ?_) (List.Pairwise.filter _ (rI_nodup (a := 0) (b := lcI s s2))))
    obtain ⟨⟨a0, a1⟩, a2⟩ := with_mem.mp ha
    obtain ⟨⟨b0, b1⟩, b2⟩ := with_mem.mp hb
    have e1 : a - b = markV t s a - markV t s b := by omega
    have e2 : a - b = markV t2 s2 a - markV t2 s2 b := by unfold Dm at a2 b2; omega
    have q1 : (a - b) % s = 0 := by rw [e1]; exact sub_mod0 (mk_mod hs) (mk_mod hs)
    have q2 : (a - b) % s2 = 0 := by rw [e2]; exact sub_mod0 (mk_mod hs2) (mk_mod hs2)
    have q3 := lc_least hs hs2 q1 q2
    have q4 : (b - a) % lcI s s2 = 0 := by
      have := sub_mod0 (s := lcI s s2) (x := 0) (y := a - b) (Int.zero_emod _) q3
      rwa [show 0 - (a - b) = b - a by omega] at this
    rcases Int.lt_trichotomy a b with c | c | c
    · have := mul_gap L0 q4 (by omega)
      omega
    · exact c
    · have := mul_gap L0 q3 (by omega)
      omega
  have sub1 : ((withD t s t2 s2 d).map fun a => markV t s a - a) ⊆ rI (lwD t s t2 s2 d) (hgD t s t2 s2 d + 1) := by
    intro r hr
    obtain ⟨a, ha, rfl⟩ := List.mem_map.mp hr
    obtain ⟨_, a2⟩ := with_mem.mp ha
    have w1 := mk_win (t := t) (a := a) hs
    have w2 := mk_win (t := t2) (a := a) hs2
    refine rI_mem.mpr ?_
    unfold lwD hgD
    unfold Dm at a2
    split <;> split <;> omega
  have sub2 : rI (lwD t s t2 s2 d) (hgD t s t2 s2 d + 1) ⊆ ((withD t s t2 s2 d).map fun a => markV t s a - a) := by
    intro r hr
    have hr := rI_mem.mp hr
    have b1 : low t s ≤ r ∧ low t2 s2 + d ≤ r ∧ r ≤ high t s ∧ r ≤ high t2 s2 + d := by
      unfold lwD hgD at hr
      split at hr <;> split at hr <;> omega
    obtain ⟨a, h1, h2⟩ := crt (u := -r) (v := d - r) hs hs2 (by rw [show d - r - -r = d by omega]; exact h)
    have e1 : markV t s a = a + r := mk_uni hs (by rw [show a + r = a - -r by omega]; exact h1) (by omega) (by omega)
    have e2 : markV t2 s2 a = a + (r - d) := mk_uni hs2 (by rw [show a + (r - d) = a - (d - r) by omega]; exact h2) (by omega) (by omega)
    have e3 : Dm t s t2 s2 a = d := by unfold Dm; omega
    have p := Int.mul_ediv_add_emod a (lcI s s2)
    have pm : markV t s a = markV t s (a % lcI s s2) + lcI s s2 * (a / lcI s s2) := by
      have := mk_per (t := t) (m := a % lcI s s2) (k := lcI s s2 * (a / lcI s s2)) hs (by rw [Int.mul_emod, (lc_mod hs hs2).1]; simp)
      rw [show a % lcI s s2 + lcI s s2 * (a / lcI s s2) = a by omega] at this
      exact this
    refine List.mem_map.mpr ⟨a % lcI s s2, with_mem.mpr ⟨⟨Int.emod_nonneg _ (by omega), Int.emod_lt_of_pos _ L0⟩, by rw [dm_in hs hs2]; exact e3⟩, ?_⟩
    omega
  have l1 := nd.length_le_of_subset sub1
  have l2 := rI_nodup.length_le_of_subset sub2
  rw [List.length_map, rI_length] at l1 l2
  omega
end
end Pu.Q
set_option Elab.async false
set_option linter.all false
set_option maxRecDepth 100000
set_option maxHeartbeats 1000000
namespace Pu.Q
open PySem PySem.Spec PyProof.Rows L2 Pu
section
variable {s l p s2 l2 p2 : Int} {t t2 : Str} {Q : RV → Ev → Prop}
def m0D (t : Str) (s : Int) (t2 : Str) (s2 : Int) : Int := if high t s - high t2 s2 ≤ low t s - low t2 s2 then high t s - high t2 s2 else low t s - low t2 s2
def m1D (t : Str) (s : Int) (t2 : Str) (s2 : Int) : Int := if high t s - high t2 s2 ≤ low t s - low t2 s2 then low t s - low t2 s2 else high t s - high t2 s2
theorem r_how_manyX (hs : 0 < s) (hb : s ≤ 1000000000000) (hs2 : 0 < s2) (hb2 : s2 ≤ 1000000000000) {n : Int} (n1 : -100000000000000000000 ≤ n) (n2 : n ≤ 100000000000000000000) (l0 : 0 ≤ l) (lb : l ≤ 1000000000000000000) (m0 : 0 ≤ l2) (mb : l2 ≤ 1000000000000000000) : 
   Ok den_how_many_k07 [.dat (rV s l p t), .dat (rV s2 l2 p2 t2), .dat (.int n)] fun r e' => r = .dat (.tup [.int (hwV (n - l + l2) (low t s - high t2 s2) (m0D t s t2 s2) (m1D t s t2 s2) (high t s - low t2 s2) (gcI s s2) (if s2 < s then s2 else s)), .int (lcI s s2)]) ∧ e' = [.un, .un, .un] := by
  have g0 := gcI_pos (a := s) (b := s2) hs
  have g1 := gcI_le (a := s) (b := s2) hs
  have y1 := hi_lo (t := t) hs
  have y2 := hi_lo (t := t2) hs2
  obtain ⟨a1, a2, a3, a4⟩ := reach_b (t := t) hs hb
  obtain ⟨b1, b2, b3, b4⟩ := reach_b (t := t2) hs2 hb2
  have rc := fun Q => r_commonI (a := s) (b := s2) (Q := Q) (by omega) (by omega) (by omega)
  have r1 := fun Q => r_reach (s := s) (l := l) (p := p) (t := t) (Q := Q)
  have r2 := fun Q => r_reach (s := s2) (l := l2) (p := p2) (t := t2) (Q := Q)
  have rb := fun Q => r_check_bothE (s := s) (l := l) (p := p) (t := t) (s2 := s2) (l2 := l2) (p2 := p2) (t2 := t2) (Q := Q)
  have rn := fun Q => r_check_number (v := n) (lo := -100000000000000000000) (hi := 100000000000000000000) (Q := Q) n1 n2
  have hL : lcI s s2 = s / gcI s s2 * s2 := rfl
  rw [hL]
  clear hL
  generalize gcI s s2 = g at *
  have is2 : ∀ x y : Int, ints? [Val.int x, Val.int y] = some [x, y] := fun _ _ => rfl
  obtain ⟨m0, m1, ss, ⟨z0, z1⟩, q0, q1, q2, q3, q4, q5⟩ : ∃ m0 m1, sortI [high t s - high t2 s2, low t s - low t2 s2] = [m0, m1] ∧ (m0 = m0D t s t2 s2 ∧ m1 = m1D t s t2 s2) ∧ -1000000000000 ≤ m0 ∧ m0 ≤ 1000000000000 ∧ -1000000000000 ≤ m1 ∧ m1 ≤ 1000000000000 ∧ m0 ≤ m1 ∧ m1 ≤ high t s - low t2 s2 := by
    rw [sort2]
    by_cases h : high t s - high t2 s2 ≤ low t s - low t2 s2
    · rw [if_pos h]; exact ⟨_, _, rfl, ⟨by unfold m0D; rw [if_pos h], by unfold m1D; rw [if_pos h]⟩, by omega, by omega, by omega, by omega, by omega, by omega⟩
    · rw [if_neg h]; exact ⟨_, _, rfl, ⟨by unfold m0D; rw [if_neg h], by unfold m1D; rw [if_neg h]⟩, by omega, by omega, by omega, by omega, by omega, by omega⟩
  have s1 := fun Q => r_sum_of (lo := if low t s - high t2 s2 > n - l + l2 then low t s - high t2 s2 else n - l + l2) (hi := m0) (part := g) (base := 1 - (low t s - high t2 s2)) (slope := 1) (Q := Q) g0 (by omega) (by split <;> omega) (by split <;> omega) (by omega) (by omega) (by omega) (by omega) (by omega) (by omega)
  have s2' := fun Q => r_sum_of (lo := if m0 + 1 > n - l + l2 then m0 + 1 else n - l + l2) (hi := m1) (part := g) (base := if s2 < s then s2 else s) (slope := 0) (Q := Q) g0 (by omega) (by split <;> omega) (by split <;> omega) (by omega) (by omega) (by split <;> omega) (by split <;> omega) (by omega) (by omega)
  have s3 := fun Q => r_sum_of (lo := if m1 + 1 > n - l + l2 then m1 + 1 else n - l + l2) (hi := high t s - low t2 s2) (part := g) (base := high t s - low t2 s2 + 1) (slope := -1) (Q := Q) g0 (by omega) (by split <;> omega) (by split <;> omega) (by omega) (by omega) (by omega) (by omega) (by omega) (by omega)
  have d1 := dv_b (i := s) (g := g) (B := 1000000000000) g0 (by omega) (by omega)
  have c1 : cMul (s / g) s2 := cMul_w (by omega) (by omega) (by omega) (by omega)
  have c2 : cDiv s g := ⟨g0, by omega⟩
  rw [← z0, ← z1]
  unfold hwV
  simp only [gt_iff_lt] at s1 s2' s3 ⊢
  simp_arith [↓den_how_many_k07, ↓b_how_many_k07, ↓r1, ↓r2, ↓rb, ↓rn, ↓rc, ↓ok_sort, ↓r_step, ↓is2, ↓ss, ↓List.map_cons, ↓List.map_nil, ↓s1, ↓s2', ↓s3, ↓ok_aug, ↓c1, ↓c2]
  try exact ⟨rfl, rfl⟩
theorem sum_gt {lo hi g base slope : Int} (hg : 0 < g) (h : hi < lo) : sumOf lo hi g base slope = 0 := sum_zero (by have := up_first (i := lo) hg; omega)
def tzD (bgn m0 m1 end_ w d : Int) : Int := (if bgn ≤ d ∧ d ≤ m0 then 1 - bgn + 1 * d else 0) + (if m0 + 1 ≤ d ∧ d ≤ m1 then w + 0 * d else 0) + (if m1 + 1 ≤ d ∧ d ≤ end_ then end_ + 1 + -1 * d else 0)
theorem piece {need c hi g base slope : Int} (hg : 0 < g) : sumOf (if c > need then c else need) hi g base slope = (if need % g = 0 then (if c ≤ need ∧ need ≤ hi then base + slope * need else 0) else 0) + sumOf (if c > need + 1 then c else need + 1) hi g base slope := by
  rcases Int.lt_or_le c (need + 1) with h | h
  · have e1 : (if c > need then c else need) = need := if_neg (by omega)
    have e2 : (if c > need + 1 then c else need + 1) = need + 1 := if_neg (by omega)
    rw [e1, e2, sum_step hg]
    congr 1
    by_cases z : need % g = 0
    · rw [if_pos z]
      by_cases y : need ≤ hi
      · rw [if_pos ⟨z, y⟩, if_pos ⟨by omega, y⟩]
      · rw [if_neg (fun q => y q.2), if_neg (fun q => y q.2)]
    · rw [if_neg z, if_neg (fun q => z q.1)]
  · have e1 : (if c > need then c else need) = c := if_pos (by omega)
    have e2 : (if c > need + 1 then c else need + 1) = c := by split <;> omega
    rw [e1, e2]
    have e3 : (if c ≤ need ∧ need ≤ hi then base + slope * need else 0) = 0 := if_neg (by omega)
    rw [e3]
    split <;> omega
theorem hw_step {need bgn m0 m1 end_ g w : Int} (hg : 0 < g) : hwV need bgn m0 m1 end_ g w = (if need % g = 0 then tzD bgn m0 m1 end_ w need else 0) + hwV (need + 1) bgn m0 m1 end_ g w := by
  unfold hwV
  rw [piece hg (c := bgn), piece hg (c := m0 + 1), piece hg (c := m1 + 1)]
  unfold tzD
  split <;> omega
theorem tz_len {d : Int} (hs : 0 < s) (hs2 : 0 < s2) : tzD (low t s - high t2 s2) (m0D t s t2 s2) (m1D t s t2 s2) (high t s - low t2 s2) (if s2 < s then s2 else s) d = ((hgD t s t2 s2 d + 1 - lwD t s t2 s2 d).toNat : Int) := by
  have y1 := hi_lo (t := t) hs
  have y2 := hi_lo (t := t2) hs2
  unfold tzD m0D m1D hgD lwD
  omega
def manyD (t : Str) (s : Int) (t2 : Str) (s2 need : Int) : List Int := (rI 0 (lcI s s2)).filter fun a => decide (need ≤ Dm t s t2 s2 a)
theorem filt_step {f : Int → Int} {d : Int} : ∀ xs : List Int, (xs.filter fun a => decide (d ≤ f a)).length = (xs.filter fun a => decide (f a = d)).length + (xs.filter fun a => decide (d + 1 ≤ f a)).length
  | [] => rfl
  | x :: xs => by
    have ih := filt_step (f := f) (d := d) xs
    rcases Int.lt_trichotomy d (f x) with h | h | h
    · rw [List.filter_cons_of_pos (by simpa using (by omega : d ≤ f x)), List.filter_cons_of_neg (by simpa using (by omega : ¬ f x = d)), List.filter_cons_of_pos (by simpa using (by omega : d + 1 ≤ f x))]
      simp only [List.length_cons]
      omega
    · rw [List.filter_cons_of_pos (by simpa using (by omega : d ≤ f x)), List.filter_cons_of_pos (by simpa using (by omega : f x = d)), List.filter_cons_of_neg (by simpa using (by omega : ¬ d + 1 ≤ f x))]
      simp only [List.length_cons]
      omega
    · rw [List.filter_cons_of_neg (by simpa using (by omega : ¬ d ≤ f x)), List.filter_cons_of_neg (by simpa using (by omega : ¬ f x = d)), List.filter_cons_of_neg (by simpa using (by omega : ¬ d + 1 ≤ f x))]
      exact ih
theorem hw_many (hs : 0 < s) (hs2 : 0 < s2) : ∀ (k : Nat) (need : Int), high t s - low t2 s2 + 1 - need ≤ k →
    hwV need (low t s - high t2 s2) (m0D t s t2 s2) (m1D t s t2 s2) (high t s - low t2 s2) (gcI s s2) (if s2 < s then s2 else s) = ((manyD t s t2 s2 need).length : Int) := by
  have g0 := gcI_pos (a := s) (b := s2) hs
  have y1 := hi_lo (t := t) hs
  have y2 := hi_lo (t := t2) hs2
  intro k
  induction k with
  | zero =>
    intro need h
    have e : manyD t s t2 s2 need = [] := by
      refine List.filter_eq_nil_iff.mpr fun a _ z => ?_
      have w1 := mk_win (t := t) (a := a) hs
      have w2 := mk_win (t := t2) (a := a) hs2
      have := of_decide_eq_true z
      unfold Dm at this
      omega
    rw [e]
    have o0 : m0D t s t2 s2 ≤ high t s - low t2 s2 := by unfold m0D; split <;> omega
    have o1 : m1D t s t2 s2 ≤ high t s - low t2 s2 := by unfold m1D; split <;> omega
    unfold hwV
    rw [sum_gt g0 (by split <;> omega), sum_gt g0 (by split <;> omega), sum_gt g0 (by split <;> omega)]
    rfl
  | succ k ih =>
    intro need h
    rw [hw_step g0, ih (need + 1) (by omega), tz_len hs hs2]
    have fs := filt_step (f := Dm t s t2 s2) (d := need) (rI 0 (lcI s s2))
    have e : (manyD t s t2 s2 need).length = (withD t s t2 s2 need).length + (manyD t s t2 s2 (need + 1)).length := fs
    rw [e]
    by_cases z : need % gcI s s2 = 0
    · rw [if_pos z, with_len hs hs2 z]
      omega
    · rw [if_neg z, with_none hs hs2 z]
      simp
theorem r_how_manyN (hs : 0 < s) (hb : s ≤ 1000000000000) (hs2 : 0 < s2) (hb2 : s2 ≤ 1000000000000) {n : Int} (n1 : -100000000000000000000 ≤ n) (n2 : n ≤ 100000000000000000000) (l0 : 0 ≤ l) (lb : l ≤ 1000000000000000000) (m0 : 0 ≤ l2) (mb : l2 ≤ 1000000000000000000) :
    Ok den_how_many_k07 [.dat (rV s l p t), .dat (rV s2 l2 p2 t2), .dat (.int n)] Q ↔ Q (.dat (.tup [.int ((manyD t s t2 s2 (n - l + l2)).length : Int), .int (lcI s s2)])) [.un, .un, .un] := by
  refine ok_det ?_
  have := r_how_manyX (s := s) (l := l) (p := p) (t := t) (s2 := s2) (l2 := l2) (p2 := p2) (t2 := t2) hs hb hs2 hb2 n1 n2 l0 lb m0 mb
  rw [hw_many hs hs2 (high t s - low t2 s2 + 1 - (n - l + l2)).toNat _ (by omega)] at this
  exact this
end
end Pu.Q
set_option Elab.async false
set_option linter.all false
set_option maxRecDepth 100000
set_option maxHeartbeats 1000000
namespace Pu.Q
open PySem PySem.Spec PyProof.Rows L2 Pu
section
variable {s l p s2 l2 p2 : Int} {t t2 : Str} {Q : RV → Ev → Prop}
theorem lc_ge (hs : 0 < s) (hs2 : 0 < s2) : s ≤ lcI s s2 ∧ s2 ≤ lcI s s2 := ⟨mul_gap hs (lc_mod hs hs2).1 (lc_pos hs hs2), mul_gap hs2 (lc_mod hs hs2).2 (lc_pos hs hs2)⟩
theorem lc_le (hs : 0 < s) (hs2 : 0 < s2) : lcI s s2 ≤ s * s2 := mul_gap (lc_pos hs hs2) (lc_least hs hs2 (Int.mul_emod_right ..) (Int.mul_emod_left ..)) (Int.mul_pos hs hs2)
theorem round_loop {P : Out → Ev → Prop} (hs : 0 < s) (hs2 : 0 < s2) (hP : P .nx [.dat (pV s l p t), .dat (pV s2 l2 p2 t2), .dat (.int (lcI s s2))]) : ∀ (k n : Nat) (x : Int), 0 < x → x ≤ lcI s s2 → lcI s s2 - x ≤ k →
    Ok ((whileS (mOr (mTru (mBin oNe (mBin oMod (mCB fInt (mCons (mVar 2) mNil)) (mBin oIx (mVar 0) (mV (.int 0)))) (mV (.int 0)))) (mTru (mBin oNe (mBin oMod (mCB fInt (mCons (mVar 2) mNil)) (mBin oIx (mVar 1) (mV (.int 0)))) (mV (.int 0))))) (mSet 2 (mBin oAdd (mVar 2) (mV (.int 1))))) (n + k + 1)) [.dat (pV s l p t), .dat (pV s2 l2 p2 t2), .dat (.int x)] P := by
  obtain ⟨m1, m2⟩ := lc_mod hs hs2
  have stop : ∀ n, Ok ((whileS (mOr (mTru (mBin oNe (mBin oMod (mCB fInt (mCons (mVar 2) mNil)) (mBin oIx (mVar 0) (mV (.int 0)))) (mV (.int 0)))) (mTru (mBin oNe (mBin oMod (mCB fInt (mCons (mVar 2) mNil)) (mBin oIx (mVar 1) (mV (.int 0)))) (mV (.int 0))))) (mSet 2 (mBin oAdd (mVar 2) (mV (.int 1))))) (n + 1)) [.dat (pV s l p t), .dat (pV s2 l2 p2 t2), .dat (.int (lcI s s2))] P := fun n => by
    rw [ok_while]
    generalize lcI s s2 = L at *
    unfold pV at hP ⊢
    simp_arith [↓hs, ↓hs2, ↓m1, ↓m2]
    exact hP
  intro k
  induction k with
  | zero =>
    intro n x h0 h1 h2
    have : x = lcI s s2 := by omega
    rw [this]
    exact stop _
  | succ k ih =>
    intro n x h0 h1 h2
    by_cases c : x = lcI s s2
    · rw [c]; exact stop _
    · have ih := ih n (x + 1) (by omega) (by omega) (by omega)
      rw [show n + (k + 1) + 1 = (n + k + 1) + 1 by omega, ok_while]
      generalize hW : (whileS (mOr (mTru (mBin oNe (mBin oMod (mCB fInt (mCons (mVar 2) mNil)) (mBin oIx (mVar 0) (mV (.int 0)))) (mV (.int 0)))) (mTru (mBin oNe (mBin oMod (mCB fInt (mCons (mVar 2) mNil)) (mBin oIx (mVar 1) (mV (.int 0)))) (mV (.int 0))))) (mSet 2 (mBin oAdd (mVar 2) (mV (.int 1))))) = W at ih ⊢
      unfold pV at ih ⊢
      by_cases z1 : x % s = 0
      · by_cases z2 : x % s2 = 0
        · exfalso
          have := mul_gap (lc_pos hs hs2) (lc_least hs hs2 z1 z2) h0
          omega
        · simp_arith [↓hs, ↓hs2, ↓z1, ↓z2]
          exact ih
      · simp_arith [↓hs, ↓hs2, ↓z1]
        exact ih
theorem r_round (hs : 0 < s) (hs2 : 0 < s2) (hb : s ≤ 24) (hb2 : s2 ≤ 24) : Ok den__law_round [.dat (pV s l p t), .dat (pV s2 l2 p2 t2)] Q ↔ Q (.dat (.int (lcI s s2))) [.un, .un] := by
  have g := lc_ge hs hs2
  have le := lc_le hs hs2
  have : s * s2 ≤ 24 * 24 := by
    have h1 : s * s2 ≤ 24 * s2 := Int.mul_le_mul_of_nonneg_right hb (by omega)
    have h2 : 24 * s2 ≤ 24 * 24 := Int.mul_le_mul_of_nonneg_left hb2 (by omega)
    omega
  refine ok_det ?_
  unfold den__law_round
  rw [ok_d2]
  unfold b__law_round
  rw [ok_seq]
  have i1 : ∀ (e : Ev) (Q : RV → Ev → Prop), Ok (oIx (pV s l p t) (.int 0)) e Q ↔ Q (.dat (.int s)) e := fun e Q => by unfold pV; exact ixL_of (atI_lit 0 rfl)
  have i2 : ∀ (e : Ev) (Q : RV → Ev → Prop), Ok (oIx (pV s2 l2 p2 t2) (.int 0)) e Q ↔ Q (.dat (.int s2)) e := fun e Q => by unfold pV; exact ixL_of (atI_lit 0 rfl)
  have lp := fun P hP x h0 h1 => round_loop (s := s) (l := l) (p := p) (t := t) (s2 := s2) (l2 := l2) (p2 := p2) (t2 := t2) (P := P) hs hs2 hP 600 99399 x h0 h1 (by omega)
  generalize pV s l p t = F at *
  generalize pV s2 l2 p2 t2 = F2 at *
  generalize hW : (whileS (mOr (mTru (mBin oNe (mBin oMod (mCB fInt (mCons (mVar 2) mNil)) (mBin oIx (mVar 0) (mV (.int 0)))) (mV (.int 0)))) (mTru (mBin oNe (mBin oMod (mCB fInt (mCons (mVar 2) mNil)) (mBin oIx (mVar 1) (mV (.int 0)))) (mV (.int 0))))) (mSet 2 (mBin oAdd (mVar 2) (mV (.int 1))))) = W at lp
  simp_arith [↓i1, ↓i2]
  rw [mt_is, show 100000 = 99399 + 600 + 1 from rfl]
  refine lp _ ?_ _ (by split <;> omega) (by split <;> omega)
  simp_arith
  try exact ⟨rfl, rfl⟩
def rowI (t : Str) (s l : Int) (t2 : Str) (s2 l2 : Int) : List Int := (rI 0 (lcI s s2)).map fun a => Dm t s t2 s2 a + l - l2
theorem row_len : (rowI t s l t2 s2 l2).length = (lcI s s2).toNat := by
  unfold rowI
  rw [List.length_map, rI_length, Int.sub_zero]
theorem row_at {a : Int} (h0 : 0 ≤ a) (h1 : a < lcI s s2) : (rowI t s l t2 s2 l2)[a.toNat]? = some (Dm t s t2 s2 a + l - l2) := by
  unfold rowI rI
  rw [List.getElem?_map, List.getElem?_map, List.getElem?_range (by omega)]
  simp only [Option.map_some]
  rw [show 0 + (a.toNat : Int) = a by omega]
theorem row_mem {x : Int} (hs : 0 < s) (hs2 : 0 < s2) : x ∈ rowI t s l t2 s2 l2 ↔ ∃ a, Dm t s t2 s2 a + l - l2 = x := by
  have L0 := lc_pos hs hs2
  unfold rowI
  rw [List.mem_map]
  constructor
  · rintro ⟨a, _, h⟩; exact ⟨a, h⟩
  · rintro ⟨a, h⟩
    exact ⟨a % lcI s s2, rI_mem.mpr ⟨Int.emod_nonneg _ (by omega), Int.emod_lt_of_pos _ L0⟩, by rw [dm_in hs hs2]; exact h⟩
theorem row_min {e : Ev} (hs : 0 < s) (hs2 : 0 < s2) : Ok (fMinL [.lst ((rowI t s l t2 s2 l2).map .int)]) e Q ↔ Q (.dat (.int (bLo t s t2 s2 + l - l2))) e := by
  obtain ⟨m, _, _, hm⟩ := lo_hit (t := t) (t2 := t2) hs hs2
  refine ok_minI ((row_mem hs hs2).mpr ⟨m, by rw [hm]⟩) fun y hy => ?_
  obtain ⟨a, rfl⟩ := (row_mem hs hs2).mp hy
  have := dm_lo (t := t) (t2 := t2) (m := a) hs hs2
  omega
theorem row_max {e : Ev} (hs : 0 < s) (hs2 : 0 < s2) : Ok (fMaxL [.lst ((rowI t s l t2 s2 l2).map .int)]) e Q ↔ Q (.dat (.int (bHi t s t2 s2 + l - l2))) e := by
  obtain ⟨m, _, _, hm⟩ := hi_hit (t := t) (t2 := t2) hs hs2
  refine ok_maxI ((row_mem hs hs2).mpr ⟨m, by rw [hm]⟩) fun y hy => ?_
  obtain ⟨a, rfl⟩ := (row_mem hs hs2).mp hy
  have := dm_hi (t := t) (t2 := t2) (m := a) hs hs2
  omega
theorem arr_head {need : Int} {o : Option Int} (hs : 0 < s) (hs2 : 0 < s2) (h : ArrW t s t2 s2 need o) : (manyD t s t2 s2 need).head? = o := by
  have L0 := lc_pos hs hs2
  cases o with
  | none =>
    have : manyD t s t2 s2 need = [] := by
      refine List.filter_eq_nil_iff.mpr fun a ha z => ?_
      have := h a (rI_mem.mp ha).1
      have := of_decide_eq_true z
      omega
    rw [this]; rfl
  | some a =>
    obtain ⟨a0, a1, a2⟩ := h
    have aL : a < lcI s s2 := by
      rcases Int.lt_or_le a (lcI s s2) with c | c
      · exact c
      · have := a2 (a % lcI s s2) (Int.emod_nonneg _ (by omega)) (by have := Int.emod_lt_of_pos a L0; omega)
        rw [dm_in hs hs2] at this
        omega
    have e1 : rI 0 (lcI s s2) = rI 0 a ++ (rI a (a + 1) ++ rI (a + 1) (lcI s s2)) := by
      rw [← rI_app (by omega) (by omega), ← rI_app (by omega) (by omega)]
    have b1 : (rI 0 a).filter (fun x => decide (need ≤ Dm t s t2 s2 x)) = [] := by
      refine List.filter_eq_nil_iff.mpr fun x hx z => ?_
      obtain ⟨x0, x1⟩ := rI_mem.mp hx
      have := a2 x x0 x1
      have := of_decide_eq_true z
      omega
    unfold manyD
    rw [e1, List.filter_append, b1, List.nil_append, List.filter_append, rI_one]
    simp [a1]
end
end Pu.Q
set_option Elab.async false
set_option linter.all false
set_option maxRecDepth 100000
set_option maxHeartbeats 1000000
namespace Pu.Q
open PySem PySem.Spec PyProof.Rows L2 Pu
section
variable {s l p s2 l2 p2 : Int} {t t2 : Str} {Q : RV → Ev → Prop}
structure Pl7 (s l p : Int) (t : Str) : Prop where
  s1 : 1 ≤ s
  s2 : s ≤ 24
  l1 : s ≤ l
  l2 : l ≤ 4000000
  t1 : inMenu t
theorem dm_b (h : Pl7 s l p t) (h2 : Pl7 s2 l2 p2 t2) {a : Int} : -100 ≤ Dm t s t2 s2 a ∧ Dm t s t2 s2 a ≤ 100 := by
  have w1 := mk_win (t := t) (a := a) (show 0 < s by have := h.s1; omega)
  have w2 := mk_win (t := t2) (a := a) (show 0 < s2 by have := h2.s1; omega)
  have y1 := hi_lo (t := t) (show 0 < s by have := h.s1; omega)
  have y2 := hi_lo (t := t2) (show 0 < s2 by have := h2.s1; omega)
  have m1 := mark_near (a := a) (show 0 < s by have := h.s1; omega) h.t1
  have m2 := mark_near (a := a) (show 0 < s2 by have := h2.s1; omega) h2.t1
  have := h.s2
  have := h2.s2
  unfold Dm
  omega
theorem lc_b (h : Pl7 s l p t) (h2 : Pl7 s2 l2 p2 t2) : 0 < lcI s s2 ∧ lcI s s2 ≤ 576 := by
  have hs : 0 < s := by have := h.s1; omega
  have hs2 : 0 < s2 := by have := h2.s1; omega
  refine ⟨lc_pos hs hs2, ?_⟩
  have le := lc_le hs hs2
  have h1 : s * s2 ≤ 24 * s2 := Int.mul_le_mul_of_nonneg_right h.s2 (by omega)
  have h2' : 24 * s2 ≤ 24 * 24 := Int.mul_le_mul_of_nonneg_left h2.s2 (by omega)
  omega
theorem r_by07 {n : Int} {A : Val} {s1 s4 s5 s9 s10 : Slot} (h : Pl7 s l p t) (h2 : Pl7 s2 l2 p2 t2) (n1 : -10000000 ≤ n) (n2 : n ≤ 10000000) :
    Ok ((mSeq (mSet 9 (mComp [11] (mRng1 (mVar 8)) (gN 11) (mTru (mBin oGe (mBin oIx (mVar 2) (mVar 11)) (mVar 3))) (mVar 11))) (mSeq (mIf (mTru (mBin oNe (mCB fRepr (mCons (mLst (mCons (mCall [false, false, false] den_how_many_k07 (mCons (mVar 6) (mCons (mVar 7) (mCons (mVar 3) mNil))) []) (mCons (mCallK [false, false, false] den_how_many_k07 mNil (mCons (mVar 3) (mCons (mVar 7) (mCons (mVar 6) mNil))) 0 3 [2, 1, 0]) mNil))) mNil)) (mCB fRepr (mCons (mRep (mLst (mCons (mTup (mCons (mCB fLen (mCons (mVar 9) mNil)) (mCons (mVar 8) mNil))) mNil)) (mV (.int 2))) mNil)))) (mRet (mV (.bl false))) mSkip) (mSeq (mSet 10 (mIfE (mTru (mBin oNe (mVar 9) (mLst mNil))) (mBin oIx (mVar 9) (mV (.int 0))) (mV .non))) (mIf (mTru (mBin oNe (mCB fRepr (mCons (mLst (mCons (mCall [false, false, false] den_arrival_with_k07 (mCons (mVar 6) (mCons (mVar 7) (mCons (mVar 3) mNil))) []) (mCons (mCallK [false, false, false] den_arrival_with_k07 mNil (mCons (mVar 3) (mCons (mVar 7) (mCons (mVar 6) mNil))) 0 3 [2, 1, 0]) mNil))) mNil)) (mCB fRepr (mCons (mLst (mCons (mVar 10) (mCons (mVar 10) mNil))) mNil)))) (mRet (mV (.bl false))) mSkip))))) [.own A, s1, .dat (.lst ((rowI t s l t2 s2 l2).map .int)), .dat (.int n), s4, s5, .dat (rV s l p t), .dat (rV s2 l2 p2 t2), .dat (.int (lcI s s2)), s9, s10, .un] fun o e' => o = .nx ∧ ∃ s9 s10, e' = [.own A, s1, .dat (.lst ((rowI t s l t2 s2 l2).map .int)), .dat (.int n), s4, s5, .dat (rV s l p t), .dat (rV s2 l2 p2 t2), .dat (.int (lcI s s2)), s9, s10, .un] := by
  have sl := sizeLine_eq
  have hs : 0 < s := by have := h.s1; omega
  have hs2 : 0 < s2 := by have := h2.s1; omega
  have hS := h.s2
  have hS2 := h2.s2
  have hl := h.l1
  have hl' := h.l2
  have hm := h2.l1
  have hm' := h2.l2
  obtain ⟨L0, L1⟩ := lc_b h h2
  have rh := fun Q => r_how_manyN (s := s) (l := l) (p := p) (t := t) (s2 := s2) (l2 := l2) (p2 := p2) (t2 := t2) (n := n) (Q := Q) hs (by omega) hs2 (by omega) (by omega) (by omega) (by omega) (by omega) (by omega) (by omega)
  have ra := r_arrivalE (s := s) (l := l) (p := p) (t := t) (s2 := s2) (l2 := l2) (p2 := p2) (t2 := t2) (n := n) hs (by omega) hs2 (by omega) (by omega) (by omega)
  have ra' : ∀ Q : RV → Ev → Prop, Ok den_arrival_with_k07 [.dat (rV s l p t), .dat (rV s2 l2 p2 t2), .dat (.int n)] Q ↔ Q (.dat (optV (manyD t s t2 s2 (n - l + l2)).head?)) [.un, .un, .un] := fun Q => by
    refine ok_det (Ok.mono ra ?_)
    rintro r e' ⟨he, o, ho, hA, _⟩
    rw [arr_head hs hs2 hA]
    exact ⟨ho, he⟩
  clear ra
  have rx : ∀ a, 0 ≤ a → a < lcI s s2 → ∀ (e : Ev) (Q : RV → Ev → Prop), Ok (oIx (.lst ((rowI t s l t2 s2 l2).map .int)) (.int a)) e Q ↔ Q (.dat (.int (Dm t s t2 s2 a + l - l2))) e := fun a a0 a1 e Q => by
    refine ixL_of ?_
    obtain ⟨k, rfl⟩ := Int.eq_ofNat_of_zero_le a0
    refine atI_lit k ?_
    have := row_at (t := t) (t2 := t2) (l := l) (l2 := l2) (s := s) (s2 := s2) a0 a1
    rw [show ((k : Int)).toNat = k by omega] at this
    rw [List.getElem?_map, this]
    rfl
  have ef : (rI 0 (lcI s s2)).filter (fun a => decide (n ≤ Dm t s t2 s2 a + l - l2)) = manyD t s t2 s2 (n - l + l2) := by
    unfold manyD
    refine congrArg (fun f => (rI 0 (lcI s s2)).filter f) (funext fun a => ?_)
    rw [Bool.eq_iff_iff, decide_eq_true_eq, decide_eq_true_eq]
    omega
  have ml : (manyD t s t2 s2 (n - l + l2)).length ≤ (lcI s s2).toNat := by
    have := List.length_filter_le (fun a => decide (n - l + l2 ≤ Dm t s t2 s2 a)) (rI 0 (lcI s s2))
    rw [rI_length] at this
    unfold manyD
    omega
  have mm : ∀ x ∈ manyD t s t2 s2 (n - l + l2), 0 ≤ x ∧ x < lcI s s2 := fun x hx => rI_mem.mp (List.mem_filter.mp hx).1
  have hlen : (rI 0 (lcI s s2)).length = (lcI s s2).toNat := by rw [rI_length]; omega
  have rI_m := fun {x : Int} => rI_mem (lo := 0) (hi := lcI s s2) (x := x)
  have rv : rangeV 0 (lcI s s2) = (rI 0 (lcI s s2)).map .int := rI_V
  generalize rI 0 (lcI s s2) = RI at *
  generalize manyD t s t2 s2 (n - l + l2) = G at *
  generalize lcI s s2 = L at *
  generalize hRW : Val.lst ((rowI t s l t2 s2 l2).map .int) = RW at *
  generalize rV s l p t = R1 at *
  generalize rV s2 l2 p2 t2 = R2 at *
  have r22 := rOk_22 (i := (G.length : Int)) (j := L) (m := (G.length : Int)) (n := L) (by omega) (by omega) (by omega) (by omega) (by omega) (by omega) (by omega) (by omega)
  simp_arith [↓rv]
  refine ⟨⟨by omega, by omega⟩, ?_⟩
  refine Ok.mono (Ok.compM (xs := RI) (acc := []) Val.int (fun a => decide (n ≤ Dm t s t2 s2 a + l - l2)) Val.int (by simp only [List.length_nil]; omega) (fun a ha => ?_)) ?_
  · obtain ⟨a0, a1⟩ := rI_m.mp ha
    simp_arith [↓rx a a0 a1]
  · rintro _ _ ⟨rfl, rfl⟩
    rw [List.nil_append, ef]
    have ln : ∀ (e : Ev) (Q : RV → Ev → Prop), Ok (fLen [.lst (G.map .int)]) e Q ↔ Q (.dat (.int (G.length : Int))) e := fun e Q => by rw [← List.length_map (f := Val.int)]; exact ok_mV
    have rp : ∀ v : Val, (List.replicate (2 : Int).toNat [v]).flatten = [v, v] := fun v => rfl
    cases G with
    | nil =>
      have r0 : rOk (.lst [.non, .non]) = true := rfl
      have ev : veq (.lst []) (.lst []) = true := by decide +kernel
      have ed : dOk (.lst []) = true := rfl
      have oN : optV none = Val.non := rfl
      simp only [List.map_nil, List.head?_nil, oN, List.length_nil] at ra' rh ln r22 ⊢
      simp_arith [↓rh, ↓ln, ↓r22, ↓rp, ↓ra', ↓r0, ↓ev, ↓ed]
      have q := (rOk_22 (i := 0) (j := L) (m := 0) (n := L) (by omega) (by omega) (by omega) (by omega) (by omega) (by omega) (by omega) (by omega)).mpr trivial
      exact ⟨q, q, _, _, rfl⟩
    | cons g r =>
      have gm := mm g List.mem_cons_self
      have ev : veq (.lst ((g :: r).map .int)) (.lst []) = false := by rw [eqL_v]; rfl
      have ed : dOk (.lst ((g :: r).map .int)) = true := dOk_is.mpr trivial
      have ed0 : dOk (.lst []) = true := rfl
      have oS : optV (some g) = Val.int g := rfl
      have i0 : ∀ (e : Ev) (Q : RV → Ev → Prop), Ok (oIx (.lst ((g :: r).map .int)) (.int 0)) e Q ↔ Q (.dat (.int g)) e := fun e Q => ixL_of (atI_lit 0 rfl)
      simp only [List.head?_cons, oS] at ra'
      have r2 := rOk_2 (i := g) (j := g) (by omega) (by omega) (by omega) (by omega)
      generalize ((g :: r).length : Int) = N at *
      generalize hGL : (g :: r).map Val.int = GL at *
      simp_arith [↓rh, ↓ln, ↓r22, ↓rp, ↓ra', ↓r2, ↓ev, ↓ed, ↓ed0, ↓i0]
      exact ⟨_, _, rfl⟩
theorem r_lapB07 {a b c : Int} {s1 s3 s4 s5 s9 s10 : Slot} (h : Pl7 s l p t) (h2 : Pl7 s2 l2 p2 t2) :
    Ok ((mSeq (mIf (mTru (mBin oNe (mCB fRepr (mCons (mLst (mCons (mCall [false, false] den_versus_k07 (mCons (mVar 6) (mCons (mVar 7) mNil)) []) (mCons (mCallK [false, false] den_versus_k07 mNil (mCons (mVar 7) (mCons (mVar 6) mNil)) 0 2 [1, 0]) mNil))) mNil)) (mCB fRepr (mCons (mRep (mLst (mCons (mTup (mCons (mCB fMinL (mCons (mVar 2) mNil)) (mCons (mCB fMaxL (mCons (mVar 2) mNil)) mNil))) mNil)) (mV (.int 2))) mNil)))) (mRet (mV (.bl false))) mSkip) (mSeq (mIf (mOr (mTru (mBin oNe (mCall [false, false] den_versus_k07 (mCons (mVar 7) (mCons (mVar 6) mNil)) []) (mTup (mCons (mNeg (mCB fMaxL (mCons (mVar 2) mNil))) (mCons (mNeg (mCB fMinL (mCons (mVar 2) mNil))) mNil))))) (mOr (mTru (mBin oNe (mCall [false, false] den_never_less_k07 (mCons (mVar 6) (mCons (mVar 7) mNil)) []) (mBin oGe (mCB fMinL (mCons (mVar 2) mNil)) (mV (.int 0))))) (mTru (mBin oNe (mCallK [false, false] den_never_less_k07 mNil (mCons (mVar 6) (mCons (mVar 7) mNil)) 0 2 [1, 0]) (mBin oLe (mCB fMaxL (mCons (mVar 2) mNil)) (mV (.int 0))))))) (mRet (mV (.bl false))) mSkip) (mFor (mItems (mLst (mCons (mCB fMinL (mCons (mVar 2) mNil)) (mCons (mCB fMaxL (mCons (mVar 2) mNil)) (mCons (mBin oAdd (mCB fMaxL (mCons (mVar 2) mNil)) (mV (.int 1))) (mCons (mV (.int 0)) (mCons (mCall [true, false] den__law_pick (mCons (mVar 0) (mCons (mVar 2) mNil)) []) (mCons (mBin oAdd (mCall [true, false] den__law_pick (mCons (mVar 0) (mCons (mVar 2) mNil)) []) (mV (.int 1))) (mCons (mBin oSub (mCB fMinL (mCons (mVar 2) mNil)) (mV (.int 5))) mNil))))))))) (gN 3) (mSeq (mSet 9 (mComp [11] (mRng1 (mVar 8)) (gN 11) (mTru (mBin oGe (mBin oIx (mVar 2) (mVar 11)) (mVar 3))) (mVar 11))) (mSeq (mIf (mTru (mBin oNe (mCB fRepr (mCons (mLst (mCons (mCall [false, false, false] den_how_many_k07 (mCons (mVar 6) (mCons (mVar 7) (mCons (mVar 3) mNil))) []) (mCons (mCallK [false, false, false] den_how_many_k07 mNil (mCons (mVar 3) (mCons (mVar 7) (mCons (mVar 6) mNil))) 0 3 [2, 1, 0]) mNil))) mNil)) (mCB fRepr (mCons (mRep (mLst (mCons (mTup (mCons (mCB fLen (mCons (mVar 9) mNil)) (mCons (mVar 8) mNil))) mNil)) (mV (.int 2))) mNil)))) (mRet (mV (.bl false))) mSkip) (mSeq (mSet 10 (mIfE (mTru (mBin oNe (mVar 9) (mLst mNil))) (mBin oIx (mVar 9) (mV (.int 0))) (mV .non))) (mIf (mTru (mBin oNe (mCB fRepr (mCons (mLst (mCons (mCall [false, false, false] den_arrival_with_k07 (mCons (mVar 6) (mCons (mVar 7) (mCons (mVar 3) mNil))) []) (mCons (mCallK [false, false, false] den_arrival_with_k07 mNil (mCons (mVar 3) (mCons (mVar 7) (mCons (mVar 6) mNil))) 0 3 [2, 1, 0]) mNil))) mNil)) (mCB fRepr (mCons (mLst (mCons (mVar 10) (mCons (mVar 10) mNil))) mNil)))) (mRet (mV (.bl false))) mSkip)))))))) [.own (.lst [.int a, .int b, .int c]), s1, .own (.lst ((rowI t s l t2 s2 l2).map .int)), s3, s4, s5, .own (rV s l p t), .own (rV s2 l2 p2 t2), .dat (.int (lcI s s2)), s9, s10, .un] fun o e' => o = .nx ∧ ∃ a b c s1 s2 s3 s4 s5 s6 s7 s8 s9 s10, e' = [.own (.lst [.int a, .int b, .int c]), s1, s2, s3, s4, s5, s6, s7, s8, s9, s10, .un] := by
  have hs : 0 < s := by have := h.s1; omega
  have hs2 : 0 < s2 := by have := h2.s1; omega
  have hS := h.s2
  have hS2 := h2.s2
  have hl := h.l1
  have hl' := h.l2
  have hm := h2.l1
  have hm' := h2.l2
  obtain ⟨L0, L1⟩ := lc_b h h2
  have lo := fun (e : Ev) Q => row_min (s := s) (l := l) (t := t) (s2 := s2) (l2 := l2) (t2 := t2) (e := e) (Q := Q) hs hs2
  have hi := fun (e : Ev) Q => row_max (s := s) (l := l) (t := t) (s2 := s2) (l2 := l2) (t2 := t2) (e := e) (Q := Q) hs hs2
  have v1 := fun Q => r_versusE (s := s) (l := l) (p := p) (t := t) (s2 := s2) (l2 := l2) (p2 := p2) (t2 := t2) (Q := Q) hs (by omega) hs2 (by omega)
  have v2 := fun Q => r_versusE (s := s2) (l := l2) (p := p2) (t := t2) (s2 := s) (l2 := l) (p2 := p) (t2 := t) (Q := Q) hs2 (by omega) hs (by omega)
  have n1 := fun Q => r_neverE (s := s) (l := l) (p := p) (t := t) (s2 := s2) (l2 := l2) (p2 := p2) (t2 := t2) (Q := Q) hs (by omega) hs2 (by omega)
  have n2 := fun Q => r_neverE (s := s2) (l := l2) (p := p2) (t := t2) (s2 := s) (l2 := l) (p2 := p) (t2 := t) (Q := Q) hs2 (by omega) hs (by omega)
  rw [bLo_sw (t := t) (s := s)] at v2 n2
  rw [bHi_sw (t := t) (s := s)] at v2
  obtain ⟨am, _, _, em⟩ := lo_hit (t := t) (t2 := t2) hs hs2
  obtain ⟨ax, _, _, ex⟩ := hi_hit (t := t) (t2 := t2) hs hs2
  have bm := dm_b h h2 (a := am)
  have bx := dm_b h h2 (a := ax)
  rw [em] at bm
  rw [ex] at bx
  have by_ := fun n A s1 s4 s5 s9 s10 k1 k2 => r_by07 (n := n) (A := A) (s1 := s1) (s4 := s4) (s5 := s5) (s9 := s9) (s10 := s10) h h2 k1 k2
  have rne : (rowI t s l t2 s2 l2).map Val.int ≠ [] := fun z => by
    have := congrArg List.length z
    rw [List.length_map, row_len] at this
    simp at this
    omega
  have rl : ((rowI t s l t2 s2 l2).map Val.int).length ≤ 1000 := by rw [List.length_map, row_len]; omega
  have rb : ∀ v ∈ (rowI t s l t2 s2 l2).map Val.int, ∃ x, v = .int x ∧ -5000000 ≤ x ∧ x ≤ 5000000 := fun v hv => by
    obtain ⟨x, hx, rfl⟩ := List.mem_map.mp hv
    obtain ⟨a, rfl⟩ := (row_mem hs hs2).mp hx
    have := dm_b h h2 (a := a)
    exact ⟨_, rfl, by omega, by omega⟩
  generalize bLo t s t2 s2 = B1 at *
  generalize bHi t s t2 s2 = B2 at *
  generalize (rowI t s l t2 s2 l2).map Val.int = RL at *
  generalize rV s l p t = R1 at *
  generalize rV s2 l2 p2 t2 = R2 at *
  generalize lcI s s2 = L at *
  generalize hR : ((mSeq (mSet 9 (mComp [11] (mRng1 (mVar 8)) (gN 11) (mTru (mBin oGe (mBin oIx (mVar 2) (mVar 11)) (mVar 3))) (mVar 11))) (mSeq (mIf (mTru (mBin oNe (mCB fRepr (mCons (mLst (mCons (mCall [false, false, false] den_how_many_k07 (mCons (mVar 6) (mCons (mVar 7) (mCons (mVar 3) mNil))) []) (mCons (mCallK [false, false, false] den_how_many_k07 mNil (mCons (mVar 3) (mCons (mVar 7) (mCons (mVar 6) mNil))) 0 3 [2, 1, 0]) mNil))) mNil)) (mCB fRepr (mCons (mRep (mLst (mCons (mTup (mCons (mCB fLen (mCons (mVar 9) mNil)) (mCons (mVar 8) mNil))) mNil)) (mV (.int 2))) mNil)))) (mRet (mV (.bl false))) mSkip) (mSeq (mSet 10 (mIfE (mTru (mBin oNe (mVar 9) (mLst mNil))) (mBin oIx (mVar 9) (mV (.int 0))) (mV .non))) (mIf (mTru (mBin oNe (mCB fRepr (mCons (mLst (mCons (mCall [false, false, false] den_arrival_with_k07 (mCons (mVar 6) (mCons (mVar 7) (mCons (mVar 3) mNil))) []) (mCons (mCallK [false, false, false] den_arrival_with_k07 mNil (mCons (mVar 3) (mCons (mVar 7) (mCons (mVar 6) mNil))) 0 3 [2, 1, 0]) mNil))) mNil)) (mCB fRepr (mCons (mLst (mCons (mVar 10) (mCons (mVar 10) mNil))) mNil)))) (mRet (mV (.bl false))) mSkip))))) = R at by_
  have r22 := rOk_22 (i := B1 + l - l2) (j := B2 + l - l2) (m := B1 + l - l2) (n := B2 + l - l2) (by omega) (by omega) (by omega) (by omega) (by omega) (by omega) (by omega) (by omega)
  have rp : ∀ v : Val, (List.replicate (2 : Int).toNat [v]).flatten = [v, v] := fun v => rfl
  have e1 : -(B2 + l - l2) = -B2 + l2 - l := by omega
  have e2 : -(B1 + l - l2) = -B1 + l2 - l := by omega
  have e3 : decide (B2 + l - l2 ≤ 0) = decide (-B2 + l2 - l ≥ 0) := by
    rw [Bool.eq_iff_iff, decide_eq_true_eq, decide_eq_true_eq]; omega
  have eb : ∀ b : Bool, veq (.bl b) (.bl b) = true := fun b => by cases b <;> rfl
  have vs : ∀ x y : Int, veq (.tup [.int x, .int y]) (.tup [.int x, .int y]) = true := fun x y => by simp [veq, toP, toPs, PyData.eqv, PyData.eqvAll]
  have ds : ∀ x y : Int, dOk (.tup [.int x, .int y]) = true := fun _ _ => rfl
  simp_arith [↓v1, ↓v2, ↓n1, ↓n2, ↓lo, ↓hi, ↓r22, ↓rp, ↓e1, ↓e2, ↓e3, ↓eb, ↓vs, ↓ds]
  refine Ok.mono (r_pick rne rl) ?_
  rintro _ _ ⟨v, a1, b1, c1, hv, rfl, rfl⟩
  obtain ⟨x, rfl, x1, x2⟩ := rb v hv
  simp_arith
  refine Ok.mono (r_pick rne rl) ?_
  rintro _ _ ⟨v, a2, b2, c2, hv2, rfl, rfl⟩
  obtain ⟨y, rfl, y1, y2⟩ := rb v hv2
  simp_arith [↓lo]
  refine Ok.mono (Ok.loopI (fun e => ∃ s3 s9 s10, e = [.own (.lst [.int a2, .int b2, .int c2]), s1, .dat (.lst RL), s3, s4, s5, .dat R1, .dat R2, .dat (.int L), s9, s10, .un]) ⟨_, _, _, rfl⟩ ?_) ?_
  · rintro w _ hw ⟨s3, s9, s10, rfl⟩
    obtain ⟨n, rfl, k1, k2⟩ : ∃ n, w = .int n ∧ -10000000 ≤ n ∧ n ≤ 10000000 := by
      simp only [List.mem_cons, List.not_mem_nil, or_false] at hw
      rcases hw with rfl | rfl | rfl | rfl | rfl | rfl | rfl <;> exact ⟨_, rfl, by omega, by omega⟩
    simp_arith
    refine Ok.mono (by_ n _ _ _ _ _ _ k1 k2) ?_
    rintro o e ⟨rfl, s9, s10, rfl⟩
    exact ⟨.inl rfl, _, _, _, rfl⟩
  · rintro o e ⟨rfl, s3, s9, s10, rfl⟩
    exact ⟨rfl, _, _, _, _, _, _, _, _, _, _, _, _, _, rfl⟩
end
end Pu.Q
set_option Elab.async false
set_option linter.all false
set_option maxRecDepth 100000
set_option maxHeartbeats 1000000
namespace Pu.Q
open PySem PySem.Spec PyProof.Rows L2 Pu
section
variable {s l p s2 l2 p2 : Int} {t t2 : Str} {Q : RV → Ev → Prop}
theorem r_row07 {A : Val} {s1 s2_ s3 s9 s10 : Slot} {S6 S7 : Slot} {P : List Val → Ev → Prop} (h : Pl7 s l p t) (h2 : Pl7 s2 l2 p2 t2)
    (hP : P ((rowI t s l t2 s2 l2).map .int) [.own A, s1, s2_, s3, .dat (pV s l p t), .dat (pV s2 l2 p2 t2), S6, S7, .dat (.int (lcI s s2)), s9, s10, .un]) :
    Ok ((compS [11] (gN 11) mYes (mBin oSub (mBin oSub (mBin oAdd (mCall [false, false] den__law_mark (mCons (mVar 4) (mCons (mVar 11) mNil)) []) (mBin oIx (mVar 4) (mV (.int 2)))) (mCall [false, false] den__law_mark (mCons (mVar 5) (mCons (mVar 11) mNil)) [])) (mBin oIx (mVar 5) (mV (.int 2))))) ((rI 0 (lcI s s2)).map .int) []) [.own A, s1, s2_, s3, .dat (pV s l p t), .dat (pV s2 l2 p2 t2), S6, S7, .dat (.int (lcI s s2)), s9, s10, .un] P := by
  have sl := sizeLine_eq
  have hs : 0 < s := by have := h.s1; omega
  have hs2 : 0 < s2 := by have := h2.s1; omega
  obtain ⟨L0, L1⟩ := lc_b h h2
  have m1 := fun a Q => r_mark' (t := t) (g := s) (f := l) (p := p) (a := a) (Q := Q) hs h.t1
  have m2 := fun a Q => r_mark' (t := t2) (g := s2) (f := l2) (p := p2) (a := a) (Q := Q) hs2 h2.t1
  have i1 : ∀ (e : Ev) (Q : RV → Ev → Prop), Ok (oIx (pV s l p t) (.int 2)) e Q ↔ Q (.dat (.int l)) e := fun e Q => by unfold pV; exact ixL_of (atI_lit 2 rfl)
  have i2 : ∀ (e : Ev) (Q : RV → Ev → Prop), Ok (oIx (pV s2 l2 p2 t2) (.int 2)) e Q ↔ Q (.dat (.int l2)) e := fun e Q => by unfold pV; exact ixL_of (atI_lit 2 rfl)
  have hlen : (rI 0 (lcI s s2)).length = (lcI s s2).toNat := by rw [rI_length]; omega
  have er : (rI 0 (lcI s s2)).map (fun a => Val.int (Dm t s t2 s2 a + l - l2)) = (rowI t s l t2 s2 l2).map .int := by
    unfold rowI
    rw [List.map_map]
    rfl
  rw [← er] at hP
  change ∀ a Q, Ok den__law_mark [.dat (pV s l p t), .dat (.int a)] Q ↔ _ at m1
  change ∀ a Q, Ok den__law_mark [.dat (pV s2 l2 p2 t2), .dat (.int a)] Q ↔ _ at m2
  generalize rI 0 (lcI s s2) = RI at *
  generalize lcI s s2 = L at *
  generalize pV s l p t = F at *
  generalize pV s2 l2 p2 t2 = F2 at *
  refine Ok.mono (Ok.compN (xs := RI) Val.int (fun a => .int (Dm t s t2 s2 a + l - l2)) (by omega) (fun a ha => ?_)) ?_
  · have e : markV t s a + l - markV t2 s2 a - l2 = Dm t s t2 s2 a + l - l2 := by unfold Dm; omega
    simp_arith [↓m1, ↓m2, ↓i1, ↓i2, ↓e]
    try exact ⟨rfl, rfl⟩
  · rintro _ _ ⟨rfl, rfl⟩
    exact hP
theorem r_turn07 {a b c : Int} {s1 s2 s3 s4 s5 s6 s7 s8 s9 s10 : Slot} :
    Ok ((mSeq (mAsg (gT 2 (gsC (gN 4) (gsC (gN 5) gsN))) (mTup (mCons (mCall [true, false] den__law_plan (mCons (mVar 0) (mCons (mV (.int 24)) mNil)) []) (mCons (mCall [true, false] den__law_plan (mCons (mVar 0) (mCons (mV (.int 24)) mNil)) []) mNil)))) (mSeq (mPar false [6, 7, 8] (mCons (mCall [false] den__law_made (mCons (mVar 4) mNil) []) (mCons (mCall [false] den__law_made (mCons (mVar 5) mNil) []) (mCons (mCall [false, false] den__law_round (mCons (mVar 4) (mCons (mVar 5) mNil)) []) mNil)))) (mSeq (mSet 2 (mComp [11] (mRng1 (mVar 8)) (gN 11) mYes (mBin oSub (mBin oSub (mBin oAdd (mCall [false, false] den__law_mark (mCons (mVar 4) (mCons (mVar 11) mNil)) []) (mBin oIx (mVar 4) (mV (.int 2)))) (mCall [false, false] den__law_mark (mCons (mVar 5) (mCons (mVar 11) mNil)) [])) (mBin oIx (mVar 5) (mV (.int 2)))))) (mSeq (mIf (mTru (mBin oNe (mCB fRepr (mCons (mLst (mCons (mCall [false, false] den_versus_k07 (mCons (mVar 6) (mCons (mVar 7) mNil)) []) (mCons (mCallK [false, false] den_versus_k07 mNil (mCons (mVar 7) (mCons (mVar 6) mNil)) 0 2 [1, 0]) mNil))) mNil)) (mCB fRepr (mCons (mRep (mLst (mCons (mTup (mCons (mCB fMinL (mCons (mVar 2) mNil)) (mCons (mCB fMaxL (mCons (mVar 2) mNil)) mNil))) mNil)) (mV (.int 2))) mNil)))) (mRet (mV (.bl false))) mSkip) (mSeq (mIf (mOr (mTru (mBin oNe (mCall [false, false] den_versus_k07 (mCons (mVar 7) (mCons (mVar 6) mNil)) []) (mTup (mCons (mNeg (mCB fMaxL (mCons (mVar 2) mNil))) (mCons (mNeg (mCB fMinL (mCons (mVar 2) mNil))) mNil))))) (mOr (mTru (mBin oNe (mCall [false, false] den_never_less_k07 (mCons (mVar 6) (mCons (mVar 7) mNil)) []) (mBin oGe (mCB fMinL (mCons (mVar 2) mNil)) (mV (.int 0))))) (mTru (mBin oNe (mCallK [false, false] den_never_less_k07 mNil (mCons (mVar 6) (mCons (mVar 7) mNil)) 0 2 [1, 0]) (mBin oLe (mCB fMaxL (mCons (mVar 2) mNil)) (mV (.int 0))))))) (mRet (mV (.bl false))) mSkip) (mFor (mItems (mLst (mCons (mCB fMinL (mCons (mVar 2) mNil)) (mCons (mCB fMaxL (mCons (mVar 2) mNil)) (mCons (mBin oAdd (mCB fMaxL (mCons (mVar 2) mNil)) (mV (.int 1))) (mCons (mV (.int 0)) (mCons (mCall [true, false] den__law_pick (mCons (mVar 0) (mCons (mVar 2) mNil)) []) (mCons (mBin oAdd (mCall [true, false] den__law_pick (mCons (mVar 0) (mCons (mVar 2) mNil)) []) (mV (.int 1))) (mCons (mBin oSub (mCB fMinL (mCons (mVar 2) mNil)) (mV (.int 5))) mNil))))))))) (gN 3) (mSeq (mSet 9 (mComp [11] (mRng1 (mVar 8)) (gN 11) (mTru (mBin oGe (mBin oIx (mVar 2) (mVar 11)) (mVar 3))) (mVar 11))) (mSeq (mIf (mTru (mBin oNe (mCB fRepr (mCons (mLst (mCons (mCall [false, false, false] den_how_many_k07 (mCons (mVar 6) (mCons (mVar 7) (mCons (mVar 3) mNil))) []) (mCons (mCallK [false, false, false] den_how_many_k07 mNil (mCons (mVar 3) (mCons (mVar 7) (mCons (mVar 6) mNil))) 0 3 [2, 1, 0]) mNil))) mNil)) (mCB fRepr (mCons (mRep (mLst (mCons (mTup (mCons (mCB fLen (mCons (mVar 9) mNil)) (mCons (mVar 8) mNil))) mNil)) (mV (.int 2))) mNil)))) (mRet (mV (.bl false))) mSkip) (mSeq (mSet 10 (mIfE (mTru (mBin oNe (mVar 9) (mLst mNil))) (mBin oIx (mVar 9) (mV (.int 0))) (mV .non))) (mIf (mTru (mBin oNe (mCB fRepr (mCons (mLst (mCons (mCall [false, false, false] den_arrival_with_k07 (mCons (mVar 6) (mCons (mVar 7) (mCons (mVar 3) mNil))) []) (mCons (mCallK [false, false, false] den_arrival_with_k07 mNil (mCons (mVar 3) (mCons (mVar 7) (mCons (mVar 6) mNil))) 0 3 [2, 1, 0]) mNil))) mNil)) (mCB fRepr (mCons (mLst (mCons (mVar 10) (mCons (mVar 10) mNil))) mNil)))) (mRet (mV (.bl false))) mSkip))))))))))) [.own (.lst [.int a, .int b, .int c]), s1, s2, s3, s4, s5, s6, s7, s8, s9, s10, .un] fun o e' => o = .nx ∧ ∃ a b c s1 s2 s3 s4 s5 s6 s7 s8 s9 s10, e' = [.own (.lst [.int a, .int b, .int c]), s1, s2, s3, s4, s5, s6, s7, s8, s9, s10, .un] := by
  generalize hR : ((mSeq (mIf (mTru (mBin oNe (mCB fRepr (mCons (mLst (mCons (mCall [false, false] den_versus_k07 (mCons (mVar 6) (mCons (mVar 7) mNil)) []) (mCons (mCallK [false, false] den_versus_k07 mNil (mCons (mVar 7) (mCons (mVar 6) mNil)) 0 2 [1, 0]) mNil))) mNil)) (mCB fRepr (mCons (mRep (mLst (mCons (mTup (mCons (mCB fMinL (mCons (mVar 2) mNil)) (mCons (mCB fMaxL (mCons (mVar 2) mNil)) mNil))) mNil)) (mV (.int 2))) mNil)))) (mRet (mV (.bl false))) mSkip) (mSeq (mIf (mOr (mTru (mBin oNe (mCall [false, false] den_versus_k07 (mCons (mVar 7) (mCons (mVar 6) mNil)) []) (mTup (mCons (mNeg (mCB fMaxL (mCons (mVar 2) mNil))) (mCons (mNeg (mCB fMinL (mCons (mVar 2) mNil))) mNil))))) (mOr (mTru (mBin oNe (mCall [false, false] den_never_less_k07 (mCons (mVar 6) (mCons (mVar 7) mNil)) []) (mBin oGe (mCB fMinL (mCons (mVar 2) mNil)) (mV (.int 0))))) (mTru (mBin oNe (mCallK [false, false] den_never_less_k07 mNil (mCons (mVar 6) (mCons (mVar 7) mNil)) 0 2 [1, 0]) (mBin oLe (mCB fMaxL (mCons (mVar 2) mNil)) (mV (.int 0))))))) (mRet (mV (.bl false))) mSkip) (mFor (mItems (mLst (mCons (mCB fMinL (mCons (mVar 2) mNil)) (mCons (mCB fMaxL (mCons (mVar 2) mNil)) (mCons (mBin oAdd (mCB fMaxL (mCons (mVar 2) mNil)) (mV (.int 1))) (mCons (mV (.int 0)) (mCons (mCall [true, false] den__law_pick (mCons (mVar 0) (mCons (mVar 2) mNil)) []) (mCons (mBin oAdd (mCall [true, false] den__law_pick (mCons (mVar 0) (mCons (mVar 2) mNil)) []) (mV (.int 1))) (mCons (mBin oSub (mCB fMinL (mCons (mVar 2) mNil)) (mV (.int 5))) mNil))))))))) (gN 3) (mSeq (mSet 9 (mComp [11] (mRng1 (mVar 8)) (gN 11) (mTru (mBin oGe (mBin oIx (mVar 2) (mVar 11)) (mVar 3))) (mVar 11))) (mSeq (mIf (mTru (mBin oNe (mCB fRepr (mCons (mLst (mCons (mCall [false, false, false] den_how_many_k07 (mCons (mVar 6) (mCons (mVar 7) (mCons (mVar 3) mNil))) []) (mCons (mCallK [false, false, false] den_how_many_k07 mNil (mCons (mVar 3) (mCons (mVar 7) (mCons (mVar 6) mNil))) 0 3 [2, 1, 0]) mNil))) mNil)) (mCB fRepr (mCons (mRep (mLst (mCons (mTup (mCons (mCB fLen (mCons (mVar 9) mNil)) (mCons (mVar 8) mNil))) mNil)) (mV (.int 2))) mNil)))) (mRet (mV (.bl false))) mSkip) (mSeq (mSet 10 (mIfE (mTru (mBin oNe (mVar 9) (mLst mNil))) (mBin oIx (mVar 9) (mV (.int 0))) (mV .non))) (mIf (mTru (mBin oNe (mCB fRepr (mCons (mLst (mCons (mCall [false, false, false] den_arrival_with_k07 (mCons (mVar 6) (mCons (mVar 7) (mCons (mVar 3) mNil))) []) (mCons (mCallK [false, false, false] den_arrival_with_k07 mNil (mCons (mVar 3) (mCons (mVar 7) (mCons (mVar 6) mNil))) 0 3 [2, 1, 0]) mNil))) mNil)) (mCB fRepr (mCons (mLst (mCons (mVar 10) (mCons (mVar 10) mNil))) mNil)))) (mRet (mV (.bl false))) mSkip)))))))) = R
  simp_arith
  refine Ok.mono (r_plan (by omega) (by omega)) ?_
  rintro _ _ ⟨g, t, f, p, a1, b1, c1, rfl, rfl, ⟨g1, g2⟩, ht, ⟨f1, f2⟩, p1, p2⟩
  simp_arith
  refine Ok.mono (r_plan (by omega) (by omega)) ?_
  rintro _ _ ⟨g', t', f', p', a2, b2, c2, rfl, rfl, ⟨g1', g2'⟩, ht', ⟨f1', f2'⟩, p1', p2'⟩
  have h : Pl7 g f p t := ⟨g1, g2, f1, by omega, ht⟩
  have h2 : Pl7 g' f' p' t' := ⟨g1', g2', f1', by omega, ht'⟩
  have rr := fun Q => r_round (s := g) (l := f) (p := p) (t := t) (s2 := g') (l2 := f') (p2 := p') (t2 := t') (Q := Q) (by omega) (by omega) g2 g2'
  have rm := fun Q => r_made (Q := Q) g1 (show g ≤ 1000000000000 by omega) f1 (show f ≤ 1000000000000000000 by omega) p1 (show p ≤ 1000000000000000000 by omega) ht
  have rm' := fun Q => r_made (Q := Q) g1' (show g' ≤ 1000000000000 by omega) f1' (show f' ≤ 1000000000000000000 by omega) p1' (show p' ≤ 1000000000000000000 by omega) ht'
  obtain ⟨L0, L1⟩ := lc_b h h2
  have rw0 := fun (P : List Val → Ev → Prop) A s1 s2_ s3 s9 s10 S6 S7 hP => r_row07 (A := A) (s1 := s1) (s2_ := s2_) (s3 := s3) (s9 := s9) (s10 := s10) (S6 := S6) (S7 := S7) (P := P) h h2 hP
  have lb := fun s1 s3 s4 s5 s9 s10 => r_lapB07 (a := a2) (b := b2) (c := c2) (s1 := s1) (s3 := s3) (s4 := s4) (s5 := s5) (s9 := s9) (s10 := s10) h h2
  rw [hR] at lb
  unfold pV at rr rw0
  simp_arith [↓rr, ↓rm, ↓rm', ↓rI_V]
  refine ⟨⟨by omega, by omega⟩, ?_⟩
  refine rw0 _ _ _ _ _ _ _ _ _ ?_
  refine Ok.mono (lb _ _ _ _ _ _) ?_
  rintro o e ⟨rfl, a, b, c, s1, s2, s3, s4, s5, s6, s7, s8, s9, s10, rfl⟩
  exact ⟨rfl, a, b, c, s1, s2, s3, s4, s5, s6, s7, s8, s9, s10, rfl⟩
theorem r_right_k07 {a b c : Int} : Ok den__law_right_k07 [.own (.lst [.int a, .int b, .int c])] fun r _ => r = .dat (.bl true) := by
  unfold den__law_right_k07
  rw [ok_d1]
  unfold b__law_right_k07
  refine Ok.seq (fun _ => True) ?_ ?_
  · generalize hR : ((mSeq (mAsg (gT 2 (gsC (gN 4) (gsC (gN 5) gsN))) (mTup (mCons (mCall [true, false] den__law_plan (mCons (mVar 0) (mCons (mV (.int 24)) mNil)) []) (mCons (mCall [true, false] den__law_plan (mCons (mVar 0) (mCons (mV (.int 24)) mNil)) []) mNil)))) (mSeq (mPar false [6, 7, 8] (mCons (mCall [false] den__law_made (mCons (mVar 4) mNil) []) (mCons (mCall [false] den__law_made (mCons (mVar 5) mNil) []) (mCons (mCall [false, false] den__law_round (mCons (mVar 4) (mCons (mVar 5) mNil)) []) mNil)))) (mSeq (mSet 2 (mComp [11] (mRng1 (mVar 8)) (gN 11) mYes (mBin oSub (mBin oSub (mBin oAdd (mCall [false, false] den__law_mark (mCons (mVar 4) (mCons (mVar 11) mNil)) []) (mBin oIx (mVar 4) (mV (.int 2)))) (mCall [false, false] den__law_mark (mCons (mVar 5) (mCons (mVar 11) mNil)) [])) (mBin oIx (mVar 5) (mV (.int 2)))))) (mSeq (mIf (mTru (mBin oNe (mCB fRepr (mCons (mLst (mCons (mCall [false, false] den_versus_k07 (mCons (mVar 6) (mCons (mVar 7) mNil)) []) (mCons (mCallK [false, false] den_versus_k07 mNil (mCons (mVar 7) (mCons (mVar 6) mNil)) 0 2 [1, 0]) mNil))) mNil)) (mCB fRepr (mCons (mRep (mLst (mCons (mTup (mCons (mCB fMinL (mCons (mVar 2) mNil)) (mCons (mCB fMaxL (mCons (mVar 2) mNil)) mNil))) mNil)) (mV (.int 2))) mNil)))) (mRet (mV (.bl false))) mSkip) (mSeq (mIf (mOr (mTru (mBin oNe (mCall [false, false] den_versus_k07 (mCons (mVar 7) (mCons (mVar 6) mNil)) []) (mTup (mCons (mNeg (mCB fMaxL (mCons (mVar 2) mNil))) (mCons (mNeg (mCB fMinL (mCons (mVar 2) mNil))) mNil))))) (mOr (mTru (mBin oNe (mCall [false, false] den_never_less_k07 (mCons (mVar 6) (mCons (mVar 7) mNil)) []) (mBin oGe (mCB fMinL (mCons (mVar 2) mNil)) (mV (.int 0))))) (mTru (mBin oNe (mCallK [false, false] den_never_less_k07 mNil (mCons (mVar 6) (mCons (mVar 7) mNil)) 0 2 [1, 0]) (mBin oLe (mCB fMaxL (mCons (mVar 2) mNil)) (mV (.int 0))))))) (mRet (mV (.bl false))) mSkip) (mFor (mItems (mLst (mCons (mCB fMinL (mCons (mVar 2) mNil)) (mCons (mCB fMaxL (mCons (mVar 2) mNil)) (mCons (mBin oAdd (mCB fMaxL (mCons (mVar 2) mNil)) (mV (.int 1))) (mCons (mV (.int 0)) (mCons (mCall [true, false] den__law_pick (mCons (mVar 0) (mCons (mVar 2) mNil)) []) (mCons (mBin oAdd (mCall [true, false] den__law_pick (mCons (mVar 0) (mCons (mVar 2) mNil)) []) (mV (.int 1))) (mCons (mBin oSub (mCB fMinL (mCons (mVar 2) mNil)) (mV (.int 5))) mNil))))))))) (gN 3) (mSeq (mSet 9 (mComp [11] (mRng1 (mVar 8)) (gN 11) (mTru (mBin oGe (mBin oIx (mVar 2) (mVar 11)) (mVar 3))) (mVar 11))) (mSeq (mIf (mTru (mBin oNe (mCB fRepr (mCons (mLst (mCons (mCall [false, false, false] den_how_many_k07 (mCons (mVar 6) (mCons (mVar 7) (mCons (mVar 3) mNil))) []) (mCons (mCallK [false, false, false] den_how_many_k07 mNil (mCons (mVar 3) (mCons (mVar 7) (mCons (mVar 6) mNil))) 0 3 [2, 1, 0]) mNil))) mNil)) (mCB fRepr (mCons (mRep (mLst (mCons (mTup (mCons (mCB fLen (mCons (mVar 9) mNil)) (mCons (mVar 8) mNil))) mNil)) (mV (.int 2))) mNil)))) (mRet (mV (.bl false))) mSkip) (mSeq (mSet 10 (mIfE (mTru (mBin oNe (mVar 9) (mLst mNil))) (mBin oIx (mVar 9) (mV (.int 0))) (mV .non))) (mIf (mTru (mBin oNe (mCB fRepr (mCons (mLst (mCons (mCall [false, false, false] den_arrival_with_k07 (mCons (mVar 6) (mCons (mVar 7) (mCons (mVar 3) mNil))) []) (mCons (mCallK [false, false, false] den_arrival_with_k07 mNil (mCons (mVar 3) (mCons (mVar 7) (mCons (mVar 6) mNil))) 0 3 [2, 1, 0]) mNil))) mNil)) (mCB fRepr (mCons (mLst (mCons (mVar 10) (mCons (mVar 10) mNil))) mNil)))) (mRet (mV (.bl false))) mSkip))))))))))) = R
    simp_arith
    refine Ok.mono (Ok.loopI (fun e => ∃ a b c s1 s2 s3 s4 s5 s6 s7 s8 s9 s10, e = [.own (.lst [.int a, .int b, .int c]), s1, s2, s3, s4, s5, s6, s7, s8, s9, s10, .un]) ⟨_, _, _, _, _, _, _, _, _, _, _, _, _, rfl⟩ ?_) ?_
    · rintro v _ hv ⟨a, b, c, s1, s2, s3, s4, s5, s6, s7, s8, s9, s10, rfl⟩
      simp_arith
      subst hR
      refine Ok.mono r_turn07 ?_
      rintro o e ⟨rfl, a, b, c, s1, s2, s3, s4, s5, s6, s7, s8, s9, s10, rfl⟩
      exact ⟨.inl rfl, a, b, c, s1, s2, s3, s4, s5, s6, s7, s8, s9, s10, rfl⟩
    · rintro o e ⟨rfl, _⟩
      exact ⟨rfl, trivial⟩
  · intro e1 _
    simp_arith
def arrB (t : Str) (s : Int) (t2 : Str) (s2 need a : Int) : Bool := decide (need ≤ Dm t s t2 s2 a) && (rI 0 a).all fun m => decide (Dm t s t2 s2 m < need)
theorem arr_is {need a : Int} (h0 : 0 ≤ a) (h : arrB t s t2 s2 need a = true) {o : Option Int} (ho : ArrW t s t2 s2 need o) : o = some a := by
  unfold arrB at h
  rw [Bool.and_eq_true, decide_eq_true_eq] at h
  obtain ⟨h1, h2⟩ := h
  have h2 : ∀ m, 0 ≤ m → m < a → Dm t s t2 s2 m < need := fun m m0 m1 => of_decide_eq_true (List.all_eq_true.mp h2 m (rI_mem.mpr ⟨m0, m1⟩))
  cases o with
  | none =>
    have := ho a h0
    omega
  | some b =>
    obtain ⟨b0, b1, b2⟩ := ho
    rcases Int.lt_trichotomy a b with c | c | c
    · have := b2 a h0 c
      omega
    · rw [c]
    · have := h2 b b0 c
      omega
theorem r_law_k07 {ns : List Int} : Ok den_law_k07 [.dat (.lst (ns.map .int))] fun r _ => r = .dat (.bl true) := by
  have m1 := fun Q => r_init (Q := Q) (s := 30) (l := 120) (p := 15) (t := "next") (by omega) (by omega) (by omega) (by omega) (by omega) (by omega) (.inl rfl)
  have m2 := fun Q => r_init (Q := Q) (s := 60) (l := 150) (p := 15) (t := "last") (by omega) (by omega) (by omega) (by omega) (by omega) (by omega) (.inr (.inl rfl))
  have m3 := fun Q => r_init (Q := Q) (s := 30) (l := 120) (p := 15) (t := "near") (by omega) (by omega) (by omega) (by omega) (by omega) (by omega) (.inr (.inr rfl))
  have v1 := fun Q => r_versusE (s := 30) (l := 120) (p := 15) (t := "next") (s2 := 60) (l2 := 150) (p2 := 15) (t2 := "last") (Q := Q) (by omega) (by omega) (by omega) (by omega)
  have n1 := fun Q => r_neverE (s := 30) (l := 120) (p := 15) (t := "next") (s2 := 30) (l2 := 120) (p2 := 15) (t2 := "near") (Q := Q) (by omega) (by omega) (by omega) (by omega)
  have h1 := fun Q => r_how_manyN (s := 30) (l := 120) (p := 15) (t := "next") (s2 := 60) (l2 := 150) (p2 := 15) (t2 := "last") (n := 30) (Q := Q) (by omega) (by omega) (by omega) (by omega) (by omega) (by omega) (by omega) (by omega) (by omega) (by omega)
  have h2 := fun Q => r_how_manyN (s := 30) (l := 120) (p := 15) (t := "next") (s2 := 30) (l2 := 120) (p2 := 15) (t2 := "near") (n := 1) (Q := Q) (by omega) (by omega) (by omega) (by omega) (by omega) (by omega) (by omega) (by omega) (by omega) (by omega)
  have a1 : ∀ Q : RV → Ev → Prop, Ok den_arrival_with_k07 [.dat (rV 30 120 15 "next"), .dat (rV 60 150 15 "last"), .dat (.int 30)] Q ↔ Q (.dat (.int 31)) [.un, .un, .un] := fun Q => by
    refine ok_det (Ok.mono (r_arrivalE (s := 30) (l := 120) (p := 15) (t := "next") (s2 := 60) (l2 := 150) (p2 := 15) (t2 := "last") (n := 30) (by omega) (by omega) (by omega) (by omega) (by omega) (by omega)) ?_)
    rintro r e ⟨he, o, ho, hA, _⟩
    have := arr_is (a := 31) (by omega) (by decide +kernel) hA
    subst this
    exact ⟨ho, he⟩
  have x1 : bLo "next" 30 "last" 60 + 120 - 150 = -30 := by decide +kernel
  have x2 : bHi "next" 30 "last" 60 + 120 - 150 = 30 := by decide +kernel
  have x3 : decide (bLo "next" 30 "near" 30 + 120 - 120 ≥ 0) = true := by decide +kernel
  have x4 : ((manyD "next" 30 "last" 60 (30 - 120 + 150)).length : Int) = 29 := by decide +kernel
  have x5 : lcI 30 60 = 60 := by decide +kernel
  have x6 : ((manyD "next" 30 "near" 30 (1 - 120 + 120)).length : Int) = 14 := by decide +kernel
  have x7 : lcI 30 30 = 30 := by decide +kernel
  rw [x1, x2] at v1
  rw [x3] at n1
  rw [x4, x5] at h1
  rw [x6, x7] at h2
  have dv : veq (.lst [.tup [.int (-30), .int 30], .bl true, .tup [.int 29, .int 60], .int 31, .tup [.int 14, .int 30]]) (.lst [.tup [.int (-30), .int 30], .bl true, .tup [.int 29, .int 60], .int 31, .tup [.int 14, .int 30]]) = true := by decide +kernel
  have dd : dOk (.lst [.tup [.int (-30), .int 30], .bl true, .tup [.int 29, .int 60], .int 31, .tup [.int 14, .int 30]]) = true := rfl
  generalize rV 30 120 15 "next" = R1 at *
  generalize rV 60 150 15 "last" = R2 at *
  generalize rV 30 120 15 "near" = R3 at *
  simp_arith [↓den_law_k07, ↓b_law_k07, ↓m1, ↓m2, ↓m3, ↓v1, ↓n1, ↓h1, ↓h2, ↓a1, ↓dv, ↓dd]
  obtain ⟨b1, b2⟩ := clamp (len := ((ns.map Val.int).length : Int)) (m := 4) (by decide)
  generalize (if (2 : Int) < (if 4 < ((ns.map Val.int).length : Int) then 4 else ((ns.map Val.int).length : Int)) then (if 4 < ((ns.map Val.int).length : Int) then 4 else ((ns.map Val.int).length : Int)) else 2) = n at b1 b2 ⊢
  refine ⟨⟨by omega, by omega⟩, ?_⟩
  refine all_right (by omega) (by omega) (fun i i1 i2 => ?_) ?_
  · simp_arith
    refine Ok.mono (r_flask i1) ?_
    rintro _ _ ⟨a, b, c, rfl, rfl⟩
    simp_arith
    refine Ok.mono r_right_k07 ?_
    rintro _ _ rfl
    simp_arith [↓back_t]
  · simp_arith
theorem good_k07 (ns : List Int) (_ : ns.length ≤ 63) : ∃ e', den_law_k07 [.dat (.lst (ns.map .int))] = .ok (.dat (.bl true)) e' := by
  obtain ⟨r, e', h, h2⟩ := ok_ex.mp (r_law_k07 (ns := ns))
  exact ⟨e', by rw [h, h2]⟩
end
end Pu.Q
open PySem PySem.W PySem.Calls PyProof.Rows
theorem Pu.Q.holds_of (good : ∀ ns : List Int, ns.length ≤ 63 → ∃ e', Pu.Q.den_law_k07 [.dat (.lst (ns.map .int))] = .ok (.dat (.bl true)) e') : PySem.Challenge.rw_discwarden_k07_whole_rules_compared.Holds := by
  w_on; o_law
  refine HandSHeadRun.head_any (r := OpenLaw.row PySem.Challenge.rw_discwarden_k07_whole_rules_compared) (q := view (OpenLaw.row PySem.Challenge.rw_discwarden_k07_whole_rules_compared).prog [45]) (H := Pu.Q.hk) (ob := Pu.Q.ob) (M := 20000) (loose := Pu.Q.loose) (d := HandSHeadRun.topDef (OpenLaw.row PySem.Challenge.rw_discwarden_k07_whole_rules_compared).prog 45) (kwd := []) Pu.Q.ob_eq
    (by kernel_rfl) (fun s => by kernel_rfl) Pu.Q.run (by kernel_rfl) (by kernel_rfl) (by kernel_rfl) (by rfl) (by first | assumption | decide +kernel) (by decide +kernel) ⟨rfl, rfl, rfl, rfl, rfl, by decide +kernel⟩ ?hw ?hc
  case hw => w_witness2
  case hc =>
    refine Pu.walk_goes (l := PySem.Challenge.rw_discwarden_k07_whole_rules_compared) (n := 63) (k := 106) (x := "_law_script") rfl (by decide) (by kernel_rfl) ⟨rfl, by decide, by decide⟩ ?F
    intro w mg fa h Y G hmg0
    obtain ⟨K, KX, c, te⟩ := Y
    have hmg : mg ("law" : PySem.Str) = some (.ref fa) := by
      have e : (HandSHeadRun.topDef (OpenLaw.row PySem.Challenge.rw_discwarden_k07_whole_rules_compared).prog 45).name = ("law" : PySem.Str) := by kernel_rfl
      rw [← e]
      exact hmg0
    have here := Pu.Q.law_at KX G c
    have e := hmg.symm.trans here
    cases e
    obtain ⟨fd, F⟩ := c.a.def_ Pu.Q.fnLaw (d := Pu.Q.d_law_k07) rfl
    have b := L2.FunD.bindsA (ps := ["_law_script"]) F fun _ _ _ _ _ _ us hl => match us, hl with | [_], _ => rfl
    refine ⟨K, fd, Pu.Q.den_law_k07, KX, c.nl, te, fun s v => b s [v] rfl, good, fun base _ _ tb => ?_⟩
    obtain ⟨fd2, F2, G2⟩ := (Pu.Q.all_ok (P := PySem.Challenge.rw_discwarden_k07_whole_rules_compared.prog) (w := w) (base := base) KX G c te.one tb).ex
    have same := Pu.funD_fd F F2
    subst same
    exact G2
theorem PySem.Challenge.cw_discwarden_k07_whole_rules_compared_holds : PySem.Challenge.rw_discwarden_k07_whole_rules_compared.Holds := by
  exact Pu.Q.holds_of Pu.Q.good_k07
