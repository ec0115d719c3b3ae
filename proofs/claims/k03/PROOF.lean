import PyProof.Rows.All
import Wide.All
import OpenK.AllK
import Wide.FinOn
import HandS.ForMost
import HandS.ForExc
import HandS.HeadHook1
import HandS.HeadHook2
import HandS.Lambda
import HandS.HotCalls
import HandS.ExcCtx
import HandS.Wide
import HandS.IsInst
import HandS.TupAny
import HandS.RaiseMore
import HandS.Walk
import HandS.Style
import HandS.TryOnly
import HandS.Property
import KE.KStateDown
import HandS.Ends
import HandS.HeadEnd
import HandS.Head2
import HandS.HeadNt
import HandS.HeadHook4
import HandS.EndTab
import HandS.WideBits
import HandS.Flt
import KE.GoesEnum
import KE.GoesMore
import KE.GoesZip
import HandS.Star
import HandS.Defaults
import HandS.SetFor
import HandS.Strs
import HandS.SortInts
import HandS.Conv
import HandS.OwnEq
import HandS.ExcValue
import HandS.TupMul
import HandS.FStr
import HandS.ClsMeth
import HandS.HeadHook3
import HandS.ExcInit
import HandS.ExcIs
import HandS.ExcField
import HandS.Evl
import KE.GoesComp
import KE.KUnpack
import KE.KExcIs
import KE.KExcInit
import HandS.Iter
import HandS.Dict
import KE.KDictZip
import HandS.SortOrd
import HandS.SortRule
import PyProof.Rows.SortKeyStr
import PyProof.InstSpecial
import PyProof.InstNe
import OpenK.KWalk
import PyProof.Rows.Range3
import HandS.Small
import KE.SortKeyHeap
import HandS.SortKw
import OpenK.KMeth
import PyProof.StrBlock2
import HandS.DictComp
import HandS.JoinGen
import HandS.ListItems
import HandS.DictEq
import KE.KItemsList
import KE.KPairComp
import PySem.Challenge.RW_discwarden_k03_whole_texts_of_rules
set_option Elab.async false
set_option linter.all false
set_option maxRecDepth 100000
namespace Pu
open PySem PySem.Spec PyProof.Rows L2
abbrev Sig := L2.St
inductive Val where
  | non | bl (b : Bool) | int (i : Int) | str (x : Str) | ty (n : String) | glo (x : Str)
  | tup (xs : List Val) | lst (xs : List Val) | obj (C : Str) (fs : List Str) (vs : List Val) | dct (ks : List Key) (vs : List Val)
mutual
inductive VR (K : PySem.W.Frag) (F : Hp) : Val → V → Prop
  | non : VR K F .non .non
  | bl (b : Bool) : VR K F (.bl b) (.bl b)
  | int (i : Int) : VR K F (.int i) (.int i)
  | str (x : Str) : VR K F (.str x) (.str x)
  | ty (n : String) : VR K F (.ty n) (.ty n)
  | glo (x : Str) : VR K F (.glo x) (.ref (He.ga K x))
  | tup {a : Addr} {us : List V} {xs : List Val} : SqT K F a us → VRs K F xs us → VR K F (.tup xs) (.ref a)
  | lst {a : Addr} {us : List V} {xs : List Val} : Rd F a (.lst us) → VRs K F xs us → VR K F (.lst xs) (.ref a)
  | obj {a dx : Addr} {C : Str} {fs : List Str} {us : List V} {vs : List Val} : F a = some (.ins (He.ga K C) dx (fs.zip us)) → fs.length = us.length → VRs K F vs us → VR K F (.obj C fs vs) (.ref a)
  | dct {a : Addr} {ks : List Key} {us : List V} {vs : List Val} : F a = some (.dK (ks.zip us)) → ks.length = us.length → VRs K F vs us → VR K F (.dct ks vs) (.ref a)
inductive VRs (K : PySem.W.Frag) (F : Hp) : List Val → List V → Prop
  | nil : VRs K F [] []
  | cons {v : Val} {u : V} {vs : List Val} {us : List V} : VR K F v u → VRs K F vs us → VRs K F (v :: vs) (u :: us)
end
section
variable {K : PySem.W.Frag} {F F' H H' : Hp}
theorem sqT_mono {a : Addr} {us : List V} (e : Same F F') (h : SqT K F a us) : SqT K F' a us := by
  rcases h with (h | ⟨o, h⟩) | h
  · exact .inl (.inl (e _ _ h))
  · exact .inl (.inr ⟨o, e _ _ h⟩)
  · exact .inr h
theorem rd_mono {a : Addr} {o : HO} (e : Same F F') (h : Rd F a o) : Rd F' a o := by
  rcases h with h | ⟨o, h⟩
  · exact .inl (e _ _ h)
  · exact .inr ⟨o, e _ _ h⟩
theorem VR.mono {v : Val} {u : V} (e : Same F F') (h : VR K F v u) : VR K F' v u :=
  VR.rec (motive_1 := fun v u _ => VR K F' v u) (motive_2 := fun vs us _ => VRs K F' vs us)
    .non (fun b => .bl b) (fun i => .int i) (fun x => .str x) (fun n => .ty n) (fun x => .glo x)
    (fun s _ ih => .tup (sqT_mono e s) ih) (fun s _ ih => .lst (rd_mono e s) ih) (fun s l _ ih => .obj (e _ _ s) l ih) (fun s l _ ih => .dct (e _ _ s) l ih) .nil (fun _ _ i1 i2 => .cons i1 i2) h
theorem VRs.mono {vs : List Val} {us : List V} (e : Same F F') (h : VRs K F vs us) : VRs K F' vs us :=
  VRs.rec (motive_1 := fun v u _ => VR K F' v u) (motive_2 := fun vs us _ => VRs K F' vs us)
    .non (fun b => .bl b) (fun i => .int i) (fun x => .str x) (fun n => .ty n) (fun x => .glo x)
    (fun s _ ih => .tup (sqT_mono e s) ih) (fun s _ ih => .lst (rd_mono e s) ih) (fun s l _ ih => .obj (e _ _ s) l ih) (fun s l _ ih => .dct (e _ _ s) l ih) .nil (fun _ _ i1 i2 => .cons i1 i2) h
theorem VRs.length {vs : List Val} {us : List V} : VRs K F vs us → vs.length = us.length
  | .nil => rfl
  | .cons _ t => congrArg Nat.succ t.length
theorem VRs.get {vs : List Val} {us : List V} : VRs K F vs us → ∀ {i : Nat} {v : Val}, vs[i]? = some v → ∃ u, us[i]? = some u ∧ VR K F v u
  | .nil, i, v, h => by simp at h
  | .cons r t, 0, v, h => by simp at h; subst h; exact ⟨_, rfl, r⟩
  | .cons r t, i + 1, v, h => by
    obtain ⟨u, h1, h2⟩ := t.get (i := i) (v := v) (by simpa using h)
    exact ⟨u, by simpa using h1, h2⟩
theorem VRs.set {vs : List Val} {us : List V} {v : Val} {u : V} (q : VR K F v u) : VRs K F vs us → ∀ (i : Nat), VRs K F (vs.set i v) (us.set i u)
  | .nil, _ => .nil
  | .cons r t, 0 => .cons q t
  | .cons r t, i + 1 => .cons r (VRs.set q t i)
theorem VRs.append {vs ws : List Val} {us xs : List V} : VRs K F vs us → VRs K F ws xs → VRs K F (vs ++ ws) (us ++ xs)
  | .nil, h => h
  | .cons r t, h => .cons r (VRs.append t h)
theorem VRs.take {vs : List Val} {us : List V} (h : VRs K F vs us) : ∀ (n : Nat), VRs K F (vs.take n) (us.take n) := by
  intro n
  induction n generalizing vs us with
  | zero => exact .nil
  | succ n ih => cases h with
    | nil => exact .nil
    | cons r t => exact .cons r (ih t)
theorem VRs.drop {vs : List Val} {us : List V} (h : VRs K F vs us) : ∀ (n : Nat), VRs K F (vs.drop n) (us.drop n) := by
  intro n
  induction n generalizing vs us with
  | zero => exact h
  | succ n ih => cases h with
    | nil => exact .nil
    | cons r t => exact ih t
end
def tabOf (K : PySem.W.Frag) (p : Addr × Obj) : Option (Addr × Addr × Str) := match p.2.data with
  | .func fd => match fd.code with
    | .ref c => match K.lookup c with
      | some oc => match oc.data with
        | .fields vs => match (vs[11]? : Option Value) with
          | some (.ref P) => some (c, P, fd.qualname ++ ".<locals>." ++ "<lambda>")
          | _ => none
        | _ => none
      | none => none
    | _ => none
  | _ => none
def tabs3 (K : PySem.W.Frag) : List (Addr × Addr × Str) := K.filterMap (tabOf K)
def tabsOf (K : PySem.W.Frag) : List (Addr × Str) := (tabs3 K).map (·.2)
def plainO : HO → Bool
  | .tbl _ => false
  | .ext _ => false
  | _ => true
theorem plainO_tbl {o : HO} (h : plainO o = true) (ps : Array Value) : o ≠ .tbl ps := fun z => by subst z; cases h
inductive Slot where
  | un | dat (v : Val) | own (v : Val)
abbrev Ev := List Slot
inductive RV where
  | dat (v : Val) | tmp (v : Val) | bor (i : Nat)
inductive Res (α : Type) where
  | ok (a : α) (e : Ev) | rs (x : Val) (e : Ev) | bad
abbrev M (α : Type) := Ev → Res α
def M.bind {α β : Type} (m : M α) (f : α → M β) : M β := fun e => match m e with
  | .ok a e' => f a e'
  | .rs x e' => .rs x e'
  | .bad => .bad
def M.ret {α : Type} (a : α) : M α := fun e => .ok a e
def M.bad {α : Type} : M α := fun _ => .bad
def CellR (K : PySem.W.Frag) (F H : Hp) : Val → Addr → Prop
  | .lst xs, a => ∃ us, H a = some (.lst us) ∧ VRs K F xs us
  | .obj C fs vs, a => ∃ dx us, H a = some (.ins (He.ga K C) dx (fs.zip us)) ∧ fs.length = us.length ∧ VRs K F vs us
  | .dct ks vs, a => ∃ us, H a = some (.dK (ks.zip us)) ∧ ks.length = us.length ∧ VRs K F vs us
  | _, _ => False
def SlotR (K : PySem.W.Frag) (F H : Hp) : Slot → Option V → Prop
  | .un, _ => True
  | .dat v, o => ∃ u, o = some u ∧ VR K F v u
  | .own v, o => ∃ a, o = some (.ref a) ∧ F a = none ∧ CellR K F H v a
def Own (e : Ev) (σ : Sig) (a : Addr) : Prop := ∃ (i : Nat) (v : Val), e[i]? = some (.own v) ∧ σ[i]? = some (some (.ref a))
structure Rel (K : PySem.W.Frag) (F H : Hp) (e : Ev) (σ : Sig) : Prop where
  sub : Same F H
  len : e.length = σ.length
  slot : ∀ (i : Nat) (s : Slot) (o : Option V), e[i]? = some s → σ[i]? = some o → SlotR K F H s o
  inj : ∀ (i j : Nat) (v w : Val) (a : Addr), e[i]? = some (.own v) → e[j]? = some (.own w) → σ[i]? = some (some (.ref a)) → σ[j]? = some (some (.ref a)) → i = j
  tb : LamX.Tabs (tabsOf K) H
  nt : ∀ a ps, F a ≠ some (.tbl ps)
structure Bg where
  O : Addr → Prop
  F : Hp
  H : Hp
  /-- so many of the first names are the parameters; what they were, and stood for -/
  np : Nat
  ev : Ev
  sg : Sig
def Bg.mine (B : Bg) (a : Addr) : Prop := B.O a ∨ B.H a = none
structure Post (B : Bg) (F H : Hp) : Prop where
  sub : Same B.F F
  fr : ∀ a o, B.H a = some o → ¬ B.O a → (∀ ps, o ≠ .tbl ps) → H a = some o
  nw : ∀ a, F a ≠ none → B.F a ≠ none ∨ B.mine a
  kp : ∀ a, H a = none → B.H a = none
structure Cur (K : PySem.W.Frag) (B : Bg) (F H : Hp) (e : Ev) (σ : Sig) : Prop where
  post : Post B F H
  rel : Rel K F H e σ
  own : ∀ a, Own e σ a → B.mine a
  ln : e.length = B.ev.length
  par : ∀ (i : Nat) (v : Val), i < B.np → e[i]? = some (.own v) → σ[i]? = B.sg[i]? ∧ ∃ w, B.ev[i]? = some (.own w)
def bg (np : Nat) (F H : Hp) (e : Ev) (σ : Sig) : Bg := ⟨Own e σ, F, H, np, e, σ⟩
section
variable {K : PySem.W.Frag} {B : Bg} {F F' H H' : Hp} {e e' : Ev} {σ σ' : Sig}
theorem Post.refl {np : Nat} : Post (bg np F H e σ) F H := ⟨Same.refl _, fun _ _ h _ _ => h, fun _ h => .inl h, fun _ h => h⟩
theorem Cur.refl {np : Nat} (R : Rel K F H e σ) : Cur K (bg np F H e σ) F H e σ := ⟨Post.refl, R, fun _ h => .inl h, rfl, fun _ v _ h => ⟨rfl, v, h⟩⟩
theorem Cur.post_trans (C : Cur K B F H e σ) (p : Post (bg B.np F H e σ) F' H') : Post B F' H' where
  sub := C.post.sub.trans p.sub
  fr := fun a o h n t => p.fr a o (C.post.fr a o h n t) (fun q => by
    rcases C.own a q with z | z
    · exact n z
    · rw [z] at h; cases h) t
  nw := fun a h => by
    rcases p.nw a h with z | z
    · exact C.post.nw a z
    · rcases z with z | z
      · exact .inr (C.own a z)
      · exact .inr (.inr (C.post.kp a z))
  kp := fun a h => C.post.kp a (p.kp a h)
theorem Cur.mine_of (C : Cur K B F H e σ) {a : Addr} {np : Nat} (h : (bg np F H e σ).mine a) : B.mine a := by
  rcases h with z | z
  · exact C.own a z
  · exact .inr (C.post.kp a z)
theorem Cur.trans (C : Cur K B F H e σ) (p : Cur K (bg B.np F H e σ) F' H' e' σ') : Cur K B F' H' e' σ' := ⟨C.post_trans p.post, p.rel, fun a h => C.mine_of (p.own a h), p.ln.trans C.ln, fun i v hi h => by
  obtain ⟨h1, w, h2⟩ := p.par i v hi h
  obtain ⟨h3, h4⟩ := C.par i w hi h2
  exact ⟨h1.trans h3, h4⟩⟩
end
def RR (K : PySem.W.Frag) (B : Bg) (F H : Hp) (e : Ev) (σ : Sig) : RV → V → Prop
  | .dat v, u => VR K F v u
  | .tmp v, u => ∃ t, u = .ref t ∧ F t = none ∧ CellR K F H v t ∧ ¬ Own e σ t ∧ B.mine t
  | .bor i, u => σ[i]? = some (some u)
inductive RRs (K : PySem.W.Frag) (B : Bg) (F H : Hp) (e : Ev) (σ : Sig) : List RV → List V → Prop
  | nil : RRs K B F H e σ [] []
  | cons {r : RV} {u : V} {rs : List RV} {us : List V} : RR K B F H e σ r u → (∀ v, r = .tmp v → ∀ (j : Nat) w, rs[j]? = some (.tmp w) → us[j]? ≠ some u) → RRs K B F H e σ rs us → RRs K B F H e σ (r :: rs) (u :: us)
def XR (K : PySem.W.Frag) (F H : Hp) : Val → Value → Option Addr → Prop
  | .obj C fs vs, cls, d => cls = .ref (He.ga K C) ∧ ((fs = [] ∧ vs = [] ∧ d = none) ∨ ∃ dx us, d = some dx ∧ H dx = some (.xd (fs.zip us)) ∧ fs.length = us.length ∧ VRs K F vs us)
  | _, _, _ => False
def At {α β : Type} (K : PySem.W.Frag) (W : WX) (R : Bg → Hp → Hp → Ev → Sig → α → β → Prop) (B : Bg) (m : M α) (F : Hp) (e : Ev) (σ : Sig) (H : Hp) (Q : β → Hp → Prop) : Prop :=
  match m e with
  | .ok r e' => ∀ F' H' u, Cur K B F' H' e' σ → R B F' H' e' σ r u → Q u H'
  | .rs x e' => ∀ F' H' cls d, Cur K B F' H' e' σ → XR K F' H' x cls d → W cls d σ H'
  | .bad => False
class Carry {α β : Type} (K : PySem.W.Frag) (R : Bg → Hp → Hp → Ev → Sig → α → β → Prop) : Prop where
  out : ∀ {B : Bg} {F0 H0 F H : Hp} {e0 e : Ev} {σ : Sig} {a : α} {b : β}, Cur K B F0 H0 e0 σ → R (bg B.np F0 H0 e0 σ) F H e σ a b → R B F H e σ a b
theorem RR.out {K : PySem.W.Frag} {B : Bg} {F0 H0 F H : Hp} {e0 e : Ev} {σ0 σ : Sig} {r : RV} {u : V} {np : Nat} (C : Cur K B F0 H0 e0 σ0) (h : RR K (bg np F0 H0 e0 σ0) F H e σ r u) : RR K B F H e σ r u := by
  cases r with
  | dat v => exact h
  | bor i => exact h
  | tmp v =>
    obtain ⟨t, h1, h2, h3, h4, h5⟩ := h
    exact ⟨t, h1, h2, h3, h4, C.mine_of h5⟩
instance {K : PySem.W.Frag} : Carry K (RR K) := ⟨RR.out⟩
instance {K : PySem.W.Frag} : Carry K (RRs K) := ⟨fun C h => by
  induction h with
  | nil => exact .nil
  | cons r d _ ih => exact .cons (r.out C) d ih⟩
instance {K : PySem.W.Frag} : Carry K (fun _ _ _ _ _ (b c : Bool) => b = c) := ⟨fun _ h => h⟩
end Pu
set_option Elab.async false
set_option linter.all false
set_option maxRecDepth 100000
namespace Pu
open PySem PySem.Spec PyProof.Rows L2
end Pu
set_option Elab.async false
set_option linter.all false
set_option maxRecDepth 100000
namespace Pu
open PySem PySem.Spec PyProof.Rows L2
theorem Slot.dat_ne {v : Val} : ∀ w, Slot.dat v ≠ .own w := fun _ z => nomatch z
def RdR (K : PySem.W.Frag) (F H : Hp) (v : Val) (u : V) : Prop := VR K F v u ∨ ∃ t, u = .ref t ∧ CellR K F H v t
inductive RdRs (K : PySem.W.Frag) (F H : Hp) : List Val → List V → Prop
  | nil : RdRs K F H [] []
  | cons {v : Val} {u : V} {vs : List Val} {us : List V} : RdR K F H v u → RdRs K F H vs us → RdRs K F H (v :: vs) (u :: us)
def rd (r : RV) (e : Ev) : Option Val := match r with
  | .dat v => some v
  | .tmp v => some v
  | .bor i => match e[i]? with
    | some (.own v) => some v
    | some (.dat v) => some v
    | _ => none
def M.rd (r : RV) : M Val := fun e => match Pu.rd r e with
  | some v => .ok v e
  | none => .bad
def M.rds : List RV → M (List Val)
  | [] => M.ret []
  | r :: rs => (M.rd r).bind fun v => (M.rds rs).bind fun vs => M.ret (v :: vs)
def M.dt (r : RV) : M Val := fun e => match r with
  | .dat v => .ok v e
  | .tmp v => .ok v e
  | .bor i => match e[i]? with
    | some (.own v) => .ok v (e.set i (.dat v))
    | some (.dat v) => .ok v e
    | _ => .bad
def M.dts : List RV → M (List Val)
  | [] => M.ret []
  | r :: rs => (M.dt r).bind fun v => (M.dts rs).bind fun vs => M.ret (v :: vs)
theorem M.bind_assoc {α β γ : Type} (m : M α) (f : α → M β) (g : β → M γ) : (m.bind f).bind g = m.bind fun x => (f x).bind g := by
  funext e
  unfold M.bind
  cases m e <;> rfl
section
variable {K : PySem.W.Frag} {W : WX} {B : Bg} {F F' H H' : Hp} {e : Ev} {σ : Sig}
theorem CellR.vr {v : Val} {t : Addr} (h : CellR K F H v t) (s : Same F F') (a : F' t = H t) : VR K F' v (.ref t) := by
  cases v with
  | lst xs =>
    obtain ⟨us, h1, h2⟩ := h
    exact .lst (.inl (a.trans h1)) (h2.mono s)
  | obj C fs vs =>
    obtain ⟨dx, us, h1, h2, h3⟩ := h
    exact .obj (a.trans h1) h2 (h3.mono s)
  | dct ks vs =>
    obtain ⟨us, h1, h2, h3⟩ := h
    exact .dct (a.trans h1) h2 (h3.mono s)
  | _ => exact h.elim
theorem CellR.mono {v : Val} {t : Addr} (h : CellR K F H v t) (s : Same F F') (a : H' t = H t) : CellR K F' H' v t := by
  cases v with
  | lst xs =>
    obtain ⟨us, h1, h2⟩ := h
    exact ⟨us, a.trans h1, h2.mono s⟩
  | obj C fs vs =>
    obtain ⟨dx, us, h1, h2, h3⟩ := h
    exact ⟨dx, us, a.trans h1, h2, h3.mono s⟩
  | dct ks vs =>
    obtain ⟨us, h1, h2, h3⟩ := h
    exact ⟨us, a.trans h1, h2, h3.mono s⟩
  | _ => exact h.elim
theorem CellR.some {v : Val} {t : Addr} (h : CellR K F H v t) : ∃ o, H t = some o := by
  cases v with
  | lst xs =>
    obtain ⟨us, h1, h2⟩ := h
    exact ⟨_, h1⟩
  | obj C fs vs =>
    obtain ⟨dx, us, h1, h2, h3⟩ := h
    exact ⟨_, h1⟩
  | dct ks vs =>
    obtain ⟨us, h1, h2, h3⟩ := h
    exact ⟨_, h1⟩
  | _ => exact h.elim
theorem CellR.someP {v : Val} {t : Addr} (h : CellR K F H v t) : ∃ o, H t = Option.some o ∧ plainO o = true := by
  cases v with
  | lst xs =>
    obtain ⟨us, h1, h2⟩ := h
    exact ⟨_, h1, rfl⟩
  | obj C fs vs =>
    obtain ⟨dx, us, h1, h2, h3⟩ := h
    exact ⟨_, h1, rfl⟩
  | dct ks vs =>
    obtain ⟨us, h1, h2, h3⟩ := h
    exact ⟨_, h1, rfl⟩
  | _ => exact h.elim
theorem CellR.nt {v : Val} {t : Addr} (h : CellR K F H v t) (ps : Array Value) : H t ≠ Option.some (HO.tbl ps) := fun z => by
  obtain ⟨o, h1, h2⟩ := h.someP
  rw [z] at h1
  cases h1
  cases h2
theorem RR.rd {r : RV} {u : V} {v : Val} (R : Rel K F H e σ) (h : RR K B F H e σ r u) (q : Pu.rd r e = some v) : RdR K F H v u := by
  cases r with
  | dat w =>
    cases q
    exact .inl h
  | tmp w =>
    cases q
    obtain ⟨t, h1, h2, h3, _⟩ := h
    exact .inr ⟨t, h1, h3⟩
  | bor i =>
    have h' : σ[i]? = some (some u) := h
    unfold Pu.rd at q
    dsimp only at q
    cases hi : e[i]? with
    | none => rw [hi] at q; cases q
    | some s =>
      rw [hi] at q
      cases s with
      | un => cases q
      | own w =>
        cases q
        obtain ⟨a, h1, h2, h3⟩ := R.slot i _ _ hi h'
        exact .inr ⟨a, Option.some.inj h1, h3⟩
      | dat w =>
        cases q
        obtain ⟨a, h1, h2⟩ := R.slot i _ _ hi h'
        rw [Option.some.inj h1]
        exact .inl h2
def frz (F H : Hp) (t : Addr) : Hp := fun b => if b = t then H t else F b
theorem frz_same {t : Addr} : frz F H t t = H t := by unfold frz; rw [if_pos rfl]
theorem frz_ne {t b : Addr} (h : b ≠ t) : frz F H t b = F b := by unfold frz; rw [if_neg h]
theorem frz_sub {t : Addr} (h : F t = none) : Same F (frz F H t) := fun b o e => by
  by_cases hb : b = t
  · rw [hb, h] at e; cases e
  · rw [frz_ne hb]; exact e
theorem Cur.frz {t : Addr} (C : Cur K B F H e σ) (h1 : F t = none) (h2 : ¬ Own e σ t) (h3 : B.mine t) (h4 : ∀ ps, H t ≠ some (.tbl ps)) : Cur K B (frz F H t) H e σ := by
  refine ⟨⟨C.post.sub.trans (frz_sub h1), C.post.fr, fun a h => ?_, C.post.kp⟩, ⟨fun b o q => ?_, C.rel.len, fun i s o a1 a2 => ?_, C.rel.inj, C.rel.tb, fun b ps q => ?_⟩, C.own, C.ln, C.par⟩
  rotate_right
  · by_cases hb : b = t
    · rw [hb, frz_same] at q; exact h4 ps q
    · rw [frz_ne hb] at q; exact C.rel.nt b ps q
  · by_cases ha : a = t
    · rw [ha]; exact .inr h3
    · rw [frz_ne ha] at h; exact C.post.nw a h
  · by_cases hb : b = t
    · rw [hb, frz_same] at q; rw [hb]; exact q
    · rw [frz_ne hb] at q; exact C.rel.sub b o q
  · have q := C.rel.slot i s o a1 a2
    cases s with
    | un => trivial
    | dat v =>
      obtain ⟨u, e1, e2⟩ := q
      exact ⟨u, e1, e2.mono (frz_sub h1)⟩
    | own v =>
      obtain ⟨a, e1, e2, e3⟩ := q
      have ne : a ≠ t := fun z => h2 ⟨i, v, a1, by rw [a2, e1, z]⟩
      exact ⟨a, e1, by rw [frz_ne ne]; exact e2, e3.mono (frz_sub h1) rfl⟩
theorem getset {α : Type} {l : List α} {i j : Nat} {a b : α} (h : (l.set i a)[j]? = some b) : (i = j ∧ b = a ∧ i < l.length) ∨ (i ≠ j ∧ l[j]? = some b) := by
  by_cases hij : i = j
  · subst hij
    by_cases hl : i < l.length
    · rw [List.getElem?_set_self hl] at h
      exact .inl ⟨rfl, (Option.some.inj h).symm, hl⟩
    · rw [List.getElem?_eq_none (by rw [List.length_set]; omega)] at h
      cases h
  · rw [List.getElem?_set_ne hij] at h
    exact .inr ⟨hij, h⟩
theorem Own.unset1 {i : Nat} {s : Slot} {a : Addr} (hs : ∀ v, s ≠ .own v) (h : Own (e.set i s) σ a) : Own e σ a := by
  obtain ⟨j, v, h1, h2⟩ := h
  rcases getset h1 with ⟨_, z, _⟩ | ⟨z, h1⟩
  · exact absurd z.symm (hs v)
  · exact ⟨j, v, h1, h2⟩
theorem Cur.slot {i : Nat} {s : Slot} (C : Cur K B F H e σ) (hs : ∀ v, s ≠ .own v) (h : ∀ o, σ[i]? = some o → SlotR K F H s o) : Cur K B F H (e.set i s) σ := by
  refine ⟨C.post, ⟨C.rel.sub, by rw [List.length_set]; exact C.rel.len, fun j q o a1 a2 => ?_, fun j k v w a h1 h2 h3 h4 => ?_, C.rel.tb, C.rel.nt⟩, fun a q => C.own a (q.unset1 hs), by rw [List.length_set]; exact C.ln, fun j v hj h => ?_⟩
  · rcases getset a1 with ⟨z, z2, _⟩ | ⟨z, a1⟩
    · subst z z2; exact h o a2
    · exact C.rel.slot j q o a1 a2
  · rcases getset h1 with ⟨_, z, _⟩ | ⟨_, h1⟩
    · exact absurd z.symm (hs v)
    · rcases getset h2 with ⟨_, z, _⟩ | ⟨_, h2⟩
      · exact absurd z.symm (hs w)
      · exact C.rel.inj j k v w a h1 h2 h3 h4
  · rcases getset h with ⟨_, z, _⟩ | ⟨_, h⟩
    · exact absurd z.symm (hs v)
    · exact C.par j v hj h
theorem Cur.forget {i : Nat} (C : Cur K B F H e σ) : Cur K B F H (e.set i .un) σ := C.slot (fun _ z => nomatch z) fun _ _ => trivial
theorem RR.carry {F0 H0 : Hp} {e0 : Ev} {r : RV} {u : V} (h : RR K B F0 H0 e0 σ r u) {np : Nat} (c : Cur K (bg np F0 H0 e0 σ) F H e σ) : RR K B F H e σ r u := by
  cases r with
  | dat v => exact VR.mono c.post.sub h
  | bor i => exact h
  | tmp v =>
    obtain ⟨t, h1, h2, h3, h4, h5⟩ := h
    obtain ⟨o, ho, hp⟩ := h3.someP
    have no : ¬ (bg np F0 H0 e0 σ).mine t := fun z => by
      rcases z with z | z
      · exact h4 z
      · have z' : H0 t = none := z
        rw [ho] at z'; cases z'
    have hF : F t = none := by
      cases q : F t with
      | none => rfl
      | some x =>
        rcases c.post.nw t (by rw [q]; simp) with z | z
        · exact absurd h2 z
        · exact absurd z no
    exact ⟨t, h1, hF, h3.mono c.post.sub ((c.post.fr t o ho h4 (plainO_tbl hp)).trans ho.symm), fun z => no (c.own t z), h5⟩
theorem At.rd {α β : Type} {R : Bg → Hp → Hp → Ev → Sig → α → β → Prop} {r : RV} {u : V} {f : Val → M α} {Q : β → Hp → Prop} (R0 : Rel K F H e σ) (h : RR K B F H e σ r u) (q : At K W R B ((M.rd r).bind f) F e σ H Q) :
    ∃ v, RdR K F H v u ∧ At K W R B (f v) F e σ H Q := by
  cases z : Pu.rd r e with
  | none =>
    unfold At M.bind M.rd at q
    rw [z] at q
    exact q.elim
  | some v =>
    refine ⟨v, h.rd R0 z, ?_⟩
    unfold At M.bind M.rd at q
    rw [z] at q
    exact q
theorem At.rds {α β : Type} {R : Bg → Hp → Hp → Ev → Sig → α → β → Prop} (R0 : Rel K F H e σ) {Q : β → Hp → Prop} : ∀ {rs : List RV} {us : List V} {f : List Val → M α}, RRs K B F H e σ rs us → At K W R B ((M.rds rs).bind f) F e σ H Q →
    ∃ vs, RdRs K F H vs us ∧ At K W R B (f vs) F e σ H Q
  | _, _, f, .nil, q => ⟨[], .nil, q⟩
  | _, _, f, .cons (rs := rs) r _ t, q => by
    unfold M.rds at q
    rw [M.bind_assoc] at q
    obtain ⟨v, h1, q⟩ := At.rd R0 r q
    rw [M.bind_assoc] at q
    obtain ⟨vs, h2, q⟩ := At.rds R0 t q
    exact ⟨v :: vs, .cons h1 h2, q⟩
theorem dt_go {r : RV} {u : V} {v : Val} {e' : Ev} (C : Cur K B F H e σ) (h : RR K B F H e σ r u) (q : M.dt r e = .ok v e') :
    ∃ F', Cur K B F' H e' σ ∧ Same F F' ∧ VR K F' v u ∧ (∀ r' u', RR K B F H e σ r' u' → (∀ v w, r = .tmp v → r' = .tmp w → u' ≠ u) → RR K B F' H e' σ r' u') := by
  cases r with
  | dat w =>
    cases q
    exact ⟨F, C, Same.refl _, h, fun _ _ z _ => z⟩
  | tmp w =>
    cases q
    obtain ⟨t, h1, h2, h3, h4, h5⟩ := h
    subst h1
    refine ⟨frz F H t, C.frz h2 h4 h5 h3.nt, frz_sub h2, h3.vr (frz_sub h2) frz_same, fun r' u' z d => ?_⟩
    cases r' with
    | dat v => exact VR.mono (frz_sub h2) z
    | bor i => exact z
    | tmp w' =>
      obtain ⟨t', a1, a2, a3, a4, a5⟩ := z
      have ne : t' ≠ t := fun z => d v w' rfl rfl (by rw [a1, z])
      exact ⟨t', a1, by rw [frz_ne ne]; exact a2, a3.mono (frz_sub h2) rfl, a4, a5⟩
  | bor i =>
    have h' : σ[i]? = some (some u) := h
    unfold M.dt at q
    cases z : e[i]? with
    | none => simp only [z] at q; cases q
    | some s =>
      cases s with
      | un => simp only [z] at q; cases q
      | dat w =>
        simp only [z] at q
        cases q
        refine ⟨F, C, Same.refl _, ?_, fun _ _ z _ => z⟩
        obtain ⟨x, h1, h2⟩ := C.rel.slot i _ _ z h'
        rw [Option.some.inj h1]; exact h2
      | own w =>
        simp only [z] at q
        cases q
        obtain ⟨t, h1, h2, h3⟩ := C.rel.slot i _ _ z h'
        have eu : u = .ref t := Option.some.inj h1
        subst eu
        have no : ∀ {a}, Own (e.set i .un) σ a → a ≠ t := fun {a} ⟨j, w, b1, b2⟩ z2 => by
          rcases getset b1 with ⟨_, z3, _⟩ | ⟨z3, b1⟩
          · cases z3
          · rw [z2] at b2
            exact z3 (C.rel.inj i j v w t z b1 h' b2)
        have C1 : Cur K B F H (e.set i .un) σ := C.forget
        have C2 := C1.frz h2 (fun z2 => no z2 rfl) (C.own t ⟨i, v, z, h'⟩) h3.nt
        have C3 : Cur K B (Pu.frz F H t) H ((e.set i .un).set i (.dat v)) σ := C2.slot (fun _ z => nomatch z) fun o ho => by
          rw [h'] at ho; cases ho
          exact ⟨_, rfl, h3.vr (frz_sub h2) frz_same⟩
        rw [List.set_set] at C3
        refine ⟨_, C3, frz_sub h2, h3.vr (frz_sub h2) frz_same, fun r' u' zz d => ?_⟩
        cases r' with
        | dat v => exact VR.mono (frz_sub h2) zz
        | bor i => exact zz
        | tmp w =>
          obtain ⟨t', a1, a2, a3, a4, a5⟩ := zz
          have ne : t' ≠ t := fun z3 => a4 (by rw [z3]; exact ⟨i, v, z, h'⟩)
          exact ⟨t', a1, by rw [frz_ne ne]; exact a2, a3.mono (frz_sub h2) rfl, fun z4 => a4 (z4.unset1 Slot.dat_ne), a5⟩
theorem dt_some {r : RV} : ∀ (x : Val) (e' : Ev), M.dt r e ≠ .rs x e' := by
  intro x e' z
  cases r with
  | dat v => cases z
  | tmp v => cases z
  | bor i =>
    unfold M.dt at z
    dsimp only at z
    split at z <;> cases z
theorem At.dt {α β : Type} {R : Bg → Hp → Hp → Ev → Sig → α → β → Prop} {r : RV} {u : V} {f : Val → M α} {Q : β → Hp → Prop} (C : Cur K B F H e σ) (h : RR K B F H e σ r u) (q : At K W R B ((M.dt r).bind f) F e σ H Q) :
    ∃ F' e' v, Cur K B F' H e' σ ∧ Same F F' ∧ VR K F' v u ∧ At K W R B (f v) F' e' σ H Q ∧
      (∀ r' u', RR K B F H e σ r' u' → (∀ v w, r = .tmp v → r' = .tmp w → u' ≠ u) → RR K B F' H e' σ r' u') := by
  cases z : M.dt r e with
  | rs x e' => exact (dt_some _ _ z).elim
  | bad =>
    unfold At M.bind at q
    rw [z] at q
    exact q.elim
  | ok v e' =>
    obtain ⟨F', C', s, r1, keep⟩ := dt_go C h z
    refine ⟨F', e', v, C', s, r1, ?_, keep⟩
    unfold At M.bind at q
    rw [z] at q
    exact q
theorem At.dts {α β : Type} {R : Bg → Hp → Hp → Ev → Sig → α → β → Prop} {Q : β → Hp → Prop} : ∀ {rs : List RV} {us : List V} {f : List Val → M α} {F : Hp} {e : Ev}, Cur K B F H e σ → RRs K B F H e σ rs us → At K W R B ((M.dts rs).bind f) F e σ H Q →
    ∃ F' e' vs, Cur K B F' H e' σ ∧ Same F F' ∧ VRs K F' vs us ∧ At K W R B (f vs) F' e' σ H Q
  | _, _, f, F, e, C, .nil, q => ⟨F, e, [], C, Same.refl _, .nil, q⟩
  | _, _, f, F, e, C, .cons (r := r) (u := u) (rs := rs) (us := us) h d t, q => by
    unfold M.dts at q
    rw [M.bind_assoc] at q
    obtain ⟨F1, e1, v, C1, s1, h1, q, keep⟩ := At.dt C h q
    rw [M.bind_assoc] at q
    have t1 : RRs K B F1 H e1 σ rs us := by
      have go : ∀ {rs : List RV} {us : List V}, RRs K B F H e σ rs us → (∀ v, r = .tmp v → ∀ (j : Nat) w, rs[j]? = some (.tmp w) → us[j]? ≠ some u) → RRs K B F1 H e1 σ rs us := fun {rs us} z => by
        induction z with
        | nil => intro _; exact .nil
        | cons a b c ih =>
          intro d
          refine .cons (keep _ _ a fun v w e1 e2 e3 => d v e1 0 w (by rw [e2]; rfl) (by rw [e3]; rfl)) b (ih fun v e1 j w e2 => ?_)
          exact d v e1 (j + 1) w (by simpa using e2)
      exact go t d
    obtain ⟨F2, e2, vs, C2, s2, h2, q⟩ := At.dts C1 t1 q
    exact ⟨F2, e2, v :: vs, C2, s1.trans s2, .cons (h1.mono s2) h2, q⟩
end
end Pu
set_option Elab.async false
set_option linter.all false
set_option maxRecDepth 100000
namespace Pu
open PySem PySem.Spec PyProof.Rows L2
section
variable {K : PySem.W.Frag} {W : WX} {B : Bg} {F F' H H' : Hp} {e : Ev} {σ : Sig} {u : V}
theorem RdR.non (h : RdR K F H .non u) : u = .non := by
  rcases h with h | ⟨_, _, h⟩
  · cases h; rfl
  · exact h.elim
theorem RdR.bl {b : Bool} (h : RdR K F H (.bl b) u) : u = .bl b := by
  rcases h with h | ⟨_, _, h⟩
  · cases h; rfl
  · exact h.elim
theorem RdR.int {i : Int} (h : RdR K F H (.int i) u) : u = .int i := by
  rcases h with h | ⟨_, _, h⟩
  · cases h; rfl
  · exact h.elim
theorem RdR.str {x : Str} (h : RdR K F H (.str x) u) : u = .str x := by
  rcases h with h | ⟨_, _, h⟩
  · cases h; rfl
  · exact h.elim
theorem RdR.ty {n : String} (h : RdR K F H (.ty n) u) : u = .ty n := by
  rcases h with h | ⟨_, _, h⟩
  · cases h; rfl
  · exact h.elim
theorem RdR.glo {x : Str} (h : RdR K F H (.glo x) u) : u = .ref (He.ga K x) := by
  rcases h with h | ⟨_, _, h⟩
  · cases h; rfl
  · exact h.elim
theorem RdR.lst {xs : List Val} (s : Same F H) (h : RdR K F H (.lst xs) u) : ∃ a us, u = .ref a ∧ Rd H a (.lst us) ∧ VRs K F xs us := by
  rcases h with h | ⟨t, e, us, h1, h2⟩
  · cases h with
    | lst h1 h2 => exact ⟨_, _, rfl, rd_mono s h1, h2⟩
  · exact ⟨t, us, e, .inl h1, h2⟩
theorem RdR.tup {xs : List Val} (s : Same F H) (h : RdR K F H (.tup xs) u) : ∃ a us, u = .ref a ∧ SqT K H a us ∧ VRs K F xs us := by
  rcases h with h | ⟨_, _, h⟩
  · cases h with
    | tup h1 h2 => exact ⟨_, _, rfl, sqT_mono s h1, h2⟩
  · exact h.elim
theorem RdR.obj {C : Str} {fs : List Str} {vs : List Val} (s : Same F H) (h : RdR K F H (.obj C fs vs) u) : ∃ a dx us, u = .ref a ∧ H a = some (.ins (He.ga K C) dx (fs.zip us)) ∧ fs.length = us.length ∧ VRs K F vs us := by
  rcases h with h | ⟨t, e, dx, us, h1, h2, h3⟩
  · cases h with
    | obj h1 h2 h3 => exact ⟨_, _, _, rfl, s _ _ h1, h2, h3⟩
  · exact ⟨t, dx, us, e, h1, h2, h3⟩
theorem RdR.dct {ks : List Key} {vs : List Val} (s : Same F H) (h : RdR K F H (.dct ks vs) u) : ∃ a us, u = .ref a ∧ H a = some (.dK (ks.zip us)) ∧ ks.length = us.length ∧ VRs K F vs us := by
  rcases h with h | ⟨t, e, us, h1, h2, h3⟩
  · cases h with
    | dct h1 h2 h3 => exact ⟨_, _, rfl, s _ _ h1, h2, h3⟩
  · exact ⟨t, us, e, h1, h2, h3⟩
theorem At.ok {α β : Type} {R : Bg → Hp → Hp → Ev → Sig → α → β → Prop} {m : M α} {Q : β → Hp → Prop} {r : α} {e' : Ev} {x : β} (h : At K W R B m F e σ H Q) (hm : m e = .ok r e') (C : Cur K B F' H' e' σ) (q : R B F' H' e' σ r x) : Q x H' := by
  unfold At at h
  rw [hm] at h
  exact h F' H' x C q
end
def mVar (i : Nat) : M RV := fun e => match e[i]? with
  | some (.dat v) => .ok (.dat v) e
  | some (.own _) => .ok (.bor i) e
  | _ => .bad
def mV (v : Val) : M RV := M.ret (.dat v)
def mBin (f : Val → Val → M RV) (a b : M RV) : M RV := a.bind fun r => b.bind fun s => (M.rd r).bind fun v => (M.rd s).bind fun w => f v w
section
variable {X : Cx} {W : WX} {a b c : Expr} {ma mb mc : M RV} {pos : Pos} {f g : Val → Val → M RV} {r : R2}
def truV (v : Val) : M Bool := fun e => match v with
  | .bl b => .ok b e
  | .int i => .ok (i != 0) e
  | .non => .ok false e
  | .str x => if x.length ≤ sizeLine then .ok ((x.length : Int) != 0) e else .bad
  | .lst xs => .ok (!xs.isEmpty) e
  | .tup xs => .ok (!xs.isEmpty) e
  | _ => .bad
def mTru (m : M RV) : M Bool := m.bind fun r => (M.rd r).bind fun v => truV v
theorem VRs.empty {K : PySem.W.Frag} {F : Hp} {vs : List Val} {us : List V} (h : VRs K F vs us) : us.isEmpty = vs.isEmpty := by cases h <;> rfl
end
def mAnd (a b : M Bool) : M Bool := a.bind fun c => if c = true then b else M.ret false
def mOr (a b : M Bool) : M Bool := a.bind fun c => if c = true then M.ret true else b
def mNot (a : M Bool) : M Bool := a.bind fun c => M.ret (!c)
def mIfE (c : M Bool) (a b : M RV) : M RV := c.bind fun k => if k = true then a else b
def mAndV (a b : M RV) : M RV := a.bind fun r => (M.rd r).bind fun v => match v with
  | .bl c => if c = true then b else mV (.bl false)
  | _ => M.bad
def mNotV (a : M RV) : M RV := a.bind fun r => (M.rd r).bind fun v => match v with
  | .bl c => mV (.bl (!c))
  | _ => M.bad
def mNil : M (List RV) := M.ret []
def mCons (a : M RV) (r : M (List RV)) : M (List RV) := a.bind fun x => r.bind fun xs => M.ret (x :: xs)
def mTup (r : M (List RV)) : M RV := r.bind fun rs => (M.dts rs).bind fun vs => if vs.length ≤ sizeLine then M.ret (.dat (.tup vs)) else M.bad
def mLst (r : M (List RV)) : M RV := r.bind fun rs => (M.dts rs).bind fun vs => if vs.length ≤ sizeLine then M.ret (.tmp (.lst vs)) else M.bad
section
variable {X : Cx} {W : WX} {a : Expr} {es : List Expr} {ma : M RV} {mr : M (List RV)} {pos : Pos}
theorem RRs.mem_tmp {K : PySem.W.Frag} {B : Bg} {F H : Hp} {e : Ev} {σ : Sig} {rs : List RV} {us : List V} (h : RRs K B F H e σ rs us) : ∀ {j : Nat} {w : Val} {u : V}, rs[j]? = some (.tmp w) → us[j]? = some u → RR K B F H e σ (.tmp w) u := by
  induction h with
  | nil => intro j w u a; simp at a
  | cons r d t ih =>
    intro j w u a b
    cases j with
    | zero => simp at a b; subst a b; exact r
    | succ j => exact ih (by simpa using a) (by simpa using b)
end
end Pu
set_option Elab.async false
set_option linter.all false
set_option maxRecDepth 100000
namespace Pu
open PySem PySem.Spec PyProof.Rows L2
def oI (g : Int → Int → Val) (x y : Val) : M RV := match x, y with
  | .int i, .int j => mV (g i j)
  | _, _ => M.bad
def oIC (c : Int → Int → Prop) [∀ i j, Decidable (c i j)] (g : Int → Int → Val) (x y : Val) : M RV := match x, y with
  | .int i, .int j => if c i j then mV (g i j) else M.bad
  | _, _ => M.bad
def cMul (i j : Int) : Prop := (-18446744073709551616 < i ∧ i < 18446744073709551616) ∨ (-18446744073709551616 < j ∧ j < 18446744073709551616) ∨ ((-1606938044258990275541962092341162602522202993782792835301376 < i ∧ i < 1606938044258990275541962092341162602522202993782792835301376) ∧ -1606938044258990275541962092341162602522202993782792835301376 < j ∧ j < 1606938044258990275541962092341162602522202993782792835301376)
def cDiv (_ j : Int) : Prop := 0 < j ∧ j < 1606938044258990275541962092341162602522202993782792835301376
def cMod (_ j : Int) : Prop := 0 < j
def cPow (i j : Int) : Prop := 0 ≤ j ∧ j ≤ 1000 ∧ -18446744073709551616 < i ∧ i < 18446744073709551616
instance : ∀ i j, Decidable (cMul i j) := fun i j => by unfold cMul; infer_instance
instance : ∀ i j, Decidable (cDiv i j) := fun i j => by unfold cDiv; infer_instance
instance : ∀ i j, Decidable (cMod i j) := fun i j => by unfold cMod; infer_instance
instance : ∀ i j, Decidable (cPow i j) := fun i j => by unfold cPow; infer_instance
section
variable {K : PySem.W.Frag} {W : WX}
def oMul := oIC cMul fun i j => .int (i * j)
def oDiv := oIC cDiv fun i j => .int (i / j)
def oMod := oIC cMod fun i j => .int (i % j)
def oPow := oIC cPow fun i j => .int (i ^ j.toNat)
def oLt := oI fun i j => .bl (decide (i < j))
def oLe := oI fun i j => .bl (decide (i ≤ j))
def oGt := oI fun i j => .bl (decide (j < i))
def oGe := oI fun i j => .bl (decide (j ≤ i))
def oAdd (x y : Val) : M RV := match x, y with
  | .int i, .int j => mV (.int (i + j))
  | .str a, .str b => if a.length + b.length ≤ sizeLine then mV (.str (a ++ b)) else M.bad
  | .lst a, .lst b => if a.length + b.length ≤ sizeLine then M.ret (.tmp (.lst (a ++ b))) else M.bad
  | .tup a, .tup b => if a.length + b.length ≤ sizeLine then mV (.tup (a ++ b)) else M.bad
  | _, _ => M.bad
theorem VRs.ne {F : Hp} {vs : List Val} {us : List V} (h : VRs K F vs us) : us = [] ↔ vs = [] := by cases h <;> simp
end
end Pu
set_option Elab.async false
set_option linter.all false
set_option maxRecDepth 100000
namespace Pu
open PySem PySem.Spec PyProof.Rows L2
def kvI : List Key → List Val → List (PyData × PyData)
  | [.inl i], [.int j] => [(.int i, .int j)]
  | _, _ => []
mutual
def toP : Val → PyData
  | .non => .none
  | .bl b => .bool b
  | .int i => .int i
  | .str x => .str x
  | .tup xs => .tuple (toPs xs)
  | .lst xs => .list (toPs xs)
  | .ty _ => .none
  | .glo _ => .none
  | .obj _ _ _ => .none
  | .dct ks vs => .dict (kvI ks vs)
def toPs : List Val → List PyData
  | [] => []
  | x :: xs => toP x :: toPs xs
end
mutual
def isD : Val → Bool
  | .non => true
  | .bl _ => true
  | .int _ => true
  | .str x => PyData.strOk x
  | .tup xs => isDs xs
  | .lst xs => isDs xs
  | .ty _ => false
  | .glo _ => false
  | .obj _ _ _ => false
  | .dct _ _ => false
def isDs : List Val → Bool
  | [] => true
  | x :: xs => isD x && isDs xs
end
mutual
def dep : Val → Nat
  | .tup xs => deps xs + 1
  | .lst xs => deps xs + 1
  | .non => 0
  | .bl _ => 0
  | .int _ => 0
  | .str _ => 0
  | .ty _ => 0
  | .glo _ => 0
  | .obj _ _ _ => 0
  | .dct _ _ => 1
def deps : List Val → Nat
  | [] => 0
  | x :: xs => max (dep x) (deps xs)
end
mutual
def iOk : Val → Bool
  | .int i => decide (-1606938044258990275541962092341162602522202993782792835301376 < i ∧ i < 1606938044258990275541962092341162602522202993782792835301376)
  | .tup xs => iOks xs
  | .lst xs => iOks xs
  | .non => true
  | .bl _ => true
  | .str _ => true
  | .ty _ => true
  | .glo _ => true
  | .obj _ _ _ => true
  | .dct _ _ => true
def iOks : List Val → Bool
  | [] => true
  | x :: xs => iOk x && iOks xs
end
mutual
def rsz : Val → Nat
  | .non => 4
  | .bl _ => 5
  | .int _ => 202
  | .str x => 10 * x.length + 2
  | .tup xs => rszs xs + 3
  | .lst xs => rszs xs + 3
  | .ty _ => 4
  | .glo _ => 4
  | .obj _ _ _ => 4
  | .dct ks _ => 4 + 420 * ks.length
def rszs : List Val → Nat
  | [] => 0
  | x :: xs => rsz x + 2 + rszs xs
end
section
variable {K : PySem.W.Frag} {W : WX} {B : Bg} {F H : Hp} {e : Ev} {σ : Sig}
def veq (x y : Val) : Bool := PyData.eqv (toP x) (toP y)
def dOk (v : Val) : Bool := isD v && decide (dep v ≤ 60)
def oEq (x y : Val) : M RV := match x, y with
  | .str a, .str b => mV (.bl (decide (a = b)))
  | x, y => if dOk x && dOk y then mV (.bl (veq x y)) else M.bad
def oNe (x y : Val) : M RV := match x, y with
  | .str a, .str b => mV (.bl (!decide (a = b)))
  | x, y => if dOk x && dOk y then mV (.bl (!veq x y)) else M.bad
def flat : Val → Bool
  | .non => true
  | .bl _ => true
  | .int _ => true
  | .str _ => true
  | _ => false
def inF (x : Val) (xs : List Val) : Bool := xs.any fun y => veq y x
def oInG (n : Bool) (x y : Val) : M RV := match y with
  | .lst xs => if flat x && xs.all flat then mV (.bl (if n then !inF x xs else inF x xs)) else M.bad
  | .tup xs => if flat x && xs.all flat then mV (.bl (if n then !inF x xs else inF x xs)) else M.bad
  | _ => M.bad
theorem RdR.flat {v : Val} {u : V} (h : RdR K F H v u) (f : Pu.flat v = true) : VR K F v u := by
  rcases h with h | ⟨t, e, h⟩
  · exact h
  · cases v with
    | lst xs => cases f
    | tup xs => cases f
    | obj _ _ _ => cases f
    | dct _ _ => cases f
    | ty _ => cases f
    | glo _ => cases f
    | non => exact h.elim
    | bl _ => exact h.elim
    | int _ => exact h.elim
    | str _ => exact h.elim
def oIx (x y : Val) : M RV := match x, y with
  | .lst xs, .int i => match atI xs i with
    | some v => mV v
    | none => M.bad
  | .tup xs, .int i => match atI xs i with
    | some v => mV v
    | none => M.bad
  | .str z, .int i => if z.length ≤ sizeLine then (match atI z.cps.toList i with
    | some c => mV (.str ⟨#[c]⟩)
    | none => M.bad) else M.bad
  | _, _ => M.bad
end
end Pu
set_option Elab.async false
set_option linter.all false
set_option maxRecDepth 100000
namespace Pu
open PySem PySem.Spec PyProof.Rows L2
def mCB (f : List Val → M RV) (ms : M (List RV)) : M RV := ms.bind fun rs => (M.rds rs).bind fun vs => f vs
def fLen (vs : List Val) : M RV := match vs with
  | [.lst xs] => mV (.int xs.length)
  | [.tup xs] => mV (.int xs.length)
  | [.str x] => if x.length ≤ sizeLine then mV (.int x.length) else M.bad
  | _ => M.bad
def fAbs (vs : List Val) : M RV := match vs with
  | [.int i] => mV (.int (if i < 0 then -i else i))
  | _ => M.bad
def fInt (vs : List Val) : M RV := match vs with
  | [.int i] => mV (.int i)
  | [.bl b] => mV (.int (if b then 1 else 0))
  | _ => M.bad
def fMax2 (vs : List Val) : M RV := match vs with
  | [.int i, .int j] => mV (.int (if j > i then j else i))
  | _ => M.bad
def fMin2 (vs : List Val) : M RV := match vs with
  | [.int i, .int j] => mV (.int (if j < i then j else i))
  | _ => M.bad
def bls? : List Val → Option (List Bool)
  | [] => some []
  | .bl i :: r => match bls? r with
    | some is => some (i :: is)
    | none => none
  | _ :: _ => none
def fAll (vs : List Val) : M RV := match vs with
  | [.lst xs] => match bls? xs with
    | some bs => mV (.bl (bs.all id))
    | _ => M.bad
  | _ => M.bad
def shownV (v : Val) : Str := (toP v).shown
def rOk (v : Val) : Bool := isD v && decide (dep v ≤ 60) && iOk v && decide (rsz v ≤ 16000000)
def fRepr (vs : List Val) : M RV := match vs with
  | [v] => if rOk v then mV (.str (shownV v)) else M.bad
  | _ => M.bad
section
variable {K : PySem.W.Frag} {W : WX}
theorem RdRs.one {F H : Hp} {v : Val} {us : List V} (h : RdRs K F H [v] us) : ∃ u, us = [u] ∧ RdR K F H v u := by
  cases h with
  | cons a b => cases b; exact ⟨_, rfl, a⟩
end
end Pu
set_option Elab.async false
set_option linter.all false
set_option maxRecDepth 100000
namespace Pu
open PySem PySem.Spec PyProof.Rows L2
inductive Out where
  | nx | bk | ct | rt (r : RV)
abbrev S := M Out
def AtS (K : PySem.W.Frag) (W : WX) (B : Bg) (m : S) (F : Hp) (e : Ev) (σ : Sig) (H : Hp) (D : Ends) : Prop :=
  match m e with
  | .ok .nx e' => ∀ F' H' σ', Cur K B F' H' e' σ' → D.nx σ' H'
  | .ok .bk e' => ∀ F' H' σ', Cur K B F' H' e' σ' → D.bk σ' H'
  | .ok .ct e' => ∀ F' H' σ', Cur K B F' H' e' σ' → D.ct σ' H'
  | .ok (.rt r) e' => ∀ F' H' σ' u, Cur K B F' H' e' σ' → RR K B F' H' e' σ' r u → D.rt u H'
  | .rs x e' => ∀ F' H' σ' cls d, Cur K B F' H' e' σ' → XR K F' H' x cls d → W cls d σ' H'
  | .bad => False
section
variable {K : PySem.W.Frag} {W : WX} {α β : Type} {R1 : Bg → Hp → Hp → Ev → Sig → α → β → Prop} {B : Bg} {F F' H H' : Hp} {e e' : Ev} {σ σ' : Sig} {D : Ends}
theorem AtS.base {m : S} (C : Cur K B F H e σ) (h : AtS K W B m F e σ H D) : AtS K W (bg B.np F H e σ) m F e σ H D := by
  unfold AtS at h ⊢
  cases hm : m e with
  | bad => rw [hm] at h; exact h
  | rs x e' => rw [hm] at h; exact fun F' H' σ' cls d C' X' => h F' H' σ' cls d (C.trans C') X'
  | ok o e' =>
    rw [hm] at h
    cases o with
    | nx => exact fun F' H' σ' C' => h F' H' σ' (C.trans C')
    | bk => exact fun F' H' σ' C' => h F' H' σ' (C.trans C')
    | ct => exact fun F' H' σ' C' => h F' H' σ' (C.trans C')
    | rt r => exact fun F' H' σ' u C' r' => h F' H' σ' u (C.trans C') (r'.out C)
theorem AtS.rd {r : RV} {u : V} {f : Val → S} (R0 : Rel K F H e σ) (h : RR K B F H e σ r u) (q : AtS K W B ((M.rd r).bind f) F e σ H D) : ∃ v, RdR K F H v u ∧ AtS K W B (f v) F e σ H D := by
  cases z : Pu.rd r e with
  | none =>
    unfold AtS M.bind M.rd at q
    rw [z] at q
    exact q.elim
  | some v =>
    refine ⟨v, h.rd R0 z, ?_⟩
    unfold AtS M.bind M.rd at q
    rw [z] at q
    exact q
theorem AtS.dt {r : RV} {u : V} {f : Val → S} (C : Cur K B F H e σ) (h : RR K B F H e σ r u) (q : AtS K W B ((M.dt r).bind f) F e σ H D) :
    ∃ F' e' v, Cur K B F' H e' σ ∧ Same F F' ∧ VR K F' v u ∧ AtS K W B (f v) F' e' σ H D ∧
      (∀ r' u', RR K B F H e σ r' u' → (∀ v w, r = .tmp v → r' = .tmp w → u' ≠ u) → RR K B F' H e' σ r' u') := by
  cases z : M.dt r e with
  | rs x e' => exact (dt_some _ _ z).elim
  | bad =>
    unfold AtS M.bind at q
    rw [z] at q
    exact q.elim
  | ok v e' =>
    obtain ⟨F', C', s, r1, keep⟩ := dt_go C h z
    refine ⟨F', e', v, C', s, r1, ?_, keep⟩
    unfold AtS M.bind at q
    rw [z] at q
    exact q
end
end Pu
set_option Elab.async false
set_option linter.all false
set_option maxRecDepth 100000
namespace Pu
open PySem PySem.Spec PyProof.Rows L2
def mSeq (a b : S) : S := fun e => match a e with
  | .ok .nx e' => b e'
  | .ok .bk e' => .ok .bk e'
  | .ok .ct e' => .ok .ct e'
  | .ok (.rt r) e' => .ok (.rt r) e'
  | .rs x e' => .rs x e'
  | .bad => .bad
def mSkip : S := fun e => .ok .nx e
def mEx (m : M RV) : S := m.bind fun _ => mSkip
def mRet (m : M RV) : S := m.bind fun r => fun e => .ok (.rt r) e
def mIf (c : M Bool) (a b : S) : S := c.bind fun k => if k = true then a else b
def stR (i : Nat) (r : RV) : S := match r with
  | .dat v => fun e => .ok .nx (e.set i (.dat v))
  | .tmp v => fun e => .ok .nx (e.set i (.own v))
  | .bor j => (M.dt (.bor j)).bind fun v => fun e => .ok .nx (e.set i (.dat v))
def mSet (i : Nat) (m : M RV) : S := m.bind (stR i)
section
variable {K : PySem.W.Frag} {W : WX} {B : Bg} {F F' H H' : Hp} {e e' : Ev} {σ σ' : Sig} {D : Ends}
theorem AtS.nx {m : S} (h : AtS K W B m F e σ H D) (hm : m e = .ok .nx e') (C : Cur K B F' H' e' σ') : D.nx σ' H' := by
  unfold AtS at h
  rw [hm] at h
  exact h F' H' σ' C
theorem AtS.rt {m : S} {r : RV} {u : V} (h : AtS K W B m F e σ H D) (hm : m e = .ok (.rt r) e') (C : Cur K B F' H' e' σ') (q : RR K B F' H' e' σ' r u) : D.rt u H' := by
  unfold AtS at h
  rw [hm] at h
  exact h F' H' σ' u C q
end
def Upd (ws : List Nat) (σ σ' : Sig) : Prop := σ'.length = σ.length ∧ ∀ i, i ∉ ws → σ'[i]? = σ[i]?
theorem Upd.refl {ws : List Nat} {σ : Sig} : Upd ws σ σ := ⟨rfl, fun _ _ => rfl⟩
theorem Upd.trans {ws : List Nat} {σ σ1 σ2 : Sig} (a : Upd ws σ σ1) (b : Upd ws σ1 σ2) : Upd ws σ σ2 := ⟨b.1.trans a.1, fun i h => (b.2 i h).trans (a.2 i h)⟩
theorem Upd.set {ws : List Nat} {σ : Sig} {i : Nat} {o : Option V} (h : i ∈ ws) : Upd ws σ (σ.set i o) := ⟨List.length_set, fun j hj => List.getElem?_set_ne (fun z => hj (by rw [← z]; exact h))⟩
theorem Upd.mono {ws ws' : List Nat} {σ σ' : Sig} (h : ∀ i ∈ ws, i ∈ ws') (a : Upd ws σ σ') : Upd ws' σ σ' := ⟨a.1, fun i q => a.2 i fun z => q (h i z)⟩
def AtG (K : PySem.W.Frag) (W : WX) (ws : List Nat) (B : Bg) (m : M Unit) (e : Ev) (σ : Sig) (Q : Sig → Hp → Prop) : Prop :=
  match m e with
  | .ok _ e' => ∀ F' H' σ', Cur K B F' H' e' σ' → Upd ws σ σ' → Q σ' H'
  | .rs x e' => ∀ F' H' σ' cls d, Cur K B F' H' e' σ' → XR K F' H' x cls d → W cls d σ' H'
  | .bad => False
def gN (i : Nat) (v : Val) : M Unit := fun e => .ok () (e.set i (.dat v))
section
variable {K : PySem.W.Frag} {W : WX} {ws : List Nat} {B : Bg} {F F' H H' : Hp} {e e' : Ev} {σ σ' : Sig}
theorem AtG.go {m : M Unit} {Q : Sig → Hp → Prop} (h : AtG K W ws B m e σ Q) (hm : m e = .ok () e') (C : Cur K B F' H' e' σ') (u : Upd ws σ σ') : Q σ' H' := by
  unfold AtG at h
  rw [hm] at h
  exact h F' H' σ' C u
end
section
variable {X : Cx} {W : WX} {ws : List Nat} {np k : Nat} {x : Expr} {es : List Expr} {mg : Val → M Unit} {ms : List Val → M Unit} {pos : Pos} {m : M RV}
def mAsg (mg : Val → M Unit) (m : M RV) : S := m.bind fun r => (M.dt r).bind fun v => (mg v).bind fun _ => mSkip
end
def loopS (mt : Val → M Unit) (mb : S) : List Val → S
  | [] => mSkip
  | v :: r => fun e => match mt v e with
    | .ok _ e1 => match mb e1 with
      | .ok .nx e2 => loopS mt mb r e2
      | .ok .ct e2 => loopS mt mb r e2
      | .ok .bk e2 => .ok .nx e2
      | .ok (.rt x) e2 => .ok (.rt x) e2
      | .rs x e2 => .rs x e2
      | .bad => .bad
    | .rs x e1 => .rs x e1
    | .bad => .bad
def mFor (mi : M (List Val)) (mt : Val → M Unit) (mb : S) : S := mi.bind fun vs => loopS mt mb vs
end Pu
set_option Elab.async false
set_option linter.all false
set_option maxRecDepth 100000
namespace Pu
open PySem PySem.Spec PyProof.Rows L2
def itemsV (v : Val) : M (List Val) := match v with
  | .lst xs => M.ret xs
  | .tup xs => M.ret xs
  | _ => M.bad
def mItems (m : M RV) : M (List Val) := m.bind fun r => (M.dt r).bind itemsV
def rangeV (lo hi : Int) : List Val := (List.range (hi - lo).toNat).map fun i => .int (lo + (i : Nat))
def mRng1 (m : M RV) : M (List Val) := m.bind fun r => (M.rd r).bind fun v => match v with
  | .int j => if -4611686018427387904 ≤ j ∧ j < 4611686018427387904 then M.ret (rangeV 0 j) else M.bad
  | _ => M.bad
end Pu
set_option Elab.async false
set_option linter.all false
set_option maxRecDepth 100000
namespace Pu
open PySem PySem.Spec PyProof.Rows L2
def wipeE (e : Ev) : List Nat → Ev
  | [] => e
  | v :: vs => (wipeE e vs).set v .un
def compS (ws : List Nat) (mt : Val → M Unit) (mc : M Bool) (me : M RV) : List Val → List Val → M (List Val)
  | [], acc => M.ret acc
  | v :: r, acc => fun e => match mt v e with
    | .ok _ e1 => match mc e1 with
      | .ok true e2 => match me e2 with
        | .ok x e3 => match M.dt x e3 with
          | .ok w e4 => if acc.length < sizeLine then compS ws mt mc me r (acc ++ [w]) (wipeE e4 ws) else .bad
          | _ => .bad
        | _ => .bad
      | .ok false e2 => compS ws mt mc me r acc (wipeE e2 ws)
      | _ => .bad
    | _ => .bad
def mComp (ws : List Nat) (mi : M (List Val)) (mt : Val → M Unit) (mc : M Bool) (me : M RV) : M RV := mi.bind fun vs => fun e => match compS ws mt mc me vs [] (wipeE e ws) with
  | .ok acc e1 => .ok (.tmp (.lst acc)) e1
  | .rs x e1 => .rs x e1
  | .bad => .bad
def mYes : M Bool := M.ret true
end Pu
set_option Elab.async false
set_option linter.all false
set_option maxRecDepth 100000
namespace Pu
open PySem PySem.Spec PyProof.Rows L2
def outE : Ev → Ev
  | [] => []
  | .own v :: r => .own v :: outE r
  | .un :: r => .un :: outE r
  | .dat _ :: r => .un :: outE r
def retV (n : Nat) (r : RV) (e : Ev) : Res RV := match r with
  | .dat v => .ok (.dat v) (outE (e.take n))
  | .tmp v => .ok (.tmp v) (outE (e.take n))
  | .bor i => match e[i]? with
    | some (.own v) => .ok (.tmp v) (outE ((e.set i .un).take n))
    | some (.dat v) => .ok (.dat v) (outE (e.take n))
    | _ => .bad
def fnDen (n nn : Nat) (body : S) : M RV := fun e => if e.length = n then (match body (e ++ List.replicate (nn - n) Slot.un) with
  | .ok .nx e' => .ok (.dat .non) (outE (e'.take n))
  | .ok (.rt r) e' => retV n r e'
  | .rs x e' => .rs x (outE (e'.take n))
  | _ => .bad) else .bad
end Pu
set_option Elab.async false
set_option linter.all false
set_option maxRecDepth 100000
namespace Pu
open PySem PySem.Spec PyProof.Rows L2
def argsE : List Bool → List RV → Ev → Option (Ev × Ev)
  | [], [], e => some ([], e)
  | false :: ms, r :: rs, e => match M.dt r e with
    | .ok v e' => match argsE ms rs e' with
      | some (p, e2) => some (.dat v :: p, e2)
      | none => none
    | _ => none
  | true :: ms, .dat v :: rs, e => match argsE ms rs e with
    | some (p, e2) => some (.dat v :: p, e2)
    | none => none
  | true :: ms, .tmp v :: rs, e => match argsE ms rs e with
    | some (p, e2) => some (.own v :: p, e2)
    | none => none
  | true :: ms, .bor i :: rs, e => match e[i]? with
    | some (.own v) => match argsE ms rs (e.set i .un) with
      | some (p, e2) => some (.own v :: p, e2)
      | none => none
    | _ => none
  | _, _, _ => none
def backE : List Bool → List RV → Ev → Ev → Ev
  | true :: ms, .bor i :: rs, .own v :: p, e => backE ms rs p (e.set i (.own v))
  | _ :: ms, _ :: rs, _ :: p, e => backE ms rs p e
  | _, _, _, e => e
section
variable {K : PySem.W.Frag} {W : WX} {B : Bg} {H : Hp} {σ : Sig}
theorem RRs.tail_keep {F F1 : Hp} {e e1 : Ev} {r : RV} {u : V} (keep : ∀ r' u', RR K B F H e σ r' u' → (∀ v w, r = .tmp v → r' = .tmp w → u' ≠ u) → RR K B F1 H e1 σ r' u') :
    ∀ {rs : List RV} {us : List V}, RRs K B F H e σ rs us → (∀ v, r = .tmp v → ∀ (j : Nat) w, rs[j]? = some (.tmp w) → us[j]? ≠ some u) → RRs K B F1 H e1 σ rs us := fun {rs us} z => by
  induction z with
  | nil => intro _; exact .nil
  | cons a b c ih =>
    intro d
    refine .cons (keep _ _ a fun v w e1 e2 e3 => d v e1 0 w (by rw [e2]; rfl) (by rw [e3]; rfl)) b (ih fun v e1 j w e2 => ?_)
    exact d v e1 (j + 1) w (by simpa using e2)
end
def runF (ms : List Bool) (f : M RV) (rs : List RV) : M RV := fun e => match argsE ms rs e with
  | some (p, e1) => match f p with
    | .ok (.dat v) p' => .ok (.dat v) (backE ms rs p' e1)
    | .ok (.tmp v) p' => .ok (.tmp v) (backE ms rs p' e1)
    | .ok (.bor _) _ => .bad
    | .rs x p' => .rs x (backE ms rs p' e1)
    | .bad => .bad
  | none => .bad
end Pu
set_option Elab.async false
set_option linter.all false
set_option maxRecDepth 100000
namespace Pu
open PySem PySem.Spec PyProof.Rows L2
def VC (K : PySem.W.Frag) (ds : List Val) (dvs : List V) : Prop := ∀ F, VRs K F ds dvs
theorem VC.nil {K : PySem.W.Frag} : VC K [] [] := fun _ => .nil
def mCall (ms : List Bool) (f : M RV) (as : M (List RV)) (ds : List Val) : M RV := as.bind fun rs => runF ms f (rs ++ ds.map .dat)
section
variable {K : PySem.W.Frag} {W : WX} {B : Bg} {F H : Hp} {σ : Sig} {e : Ev}
theorem RRs.length {rs : List RV} {us : List V} (h : RRs K B F H e σ rs us) : rs.length = us.length := by
  induction h with
  | nil => rfl
  | cons _ _ _ i => simp [i]
end
section
variable {X : Cx} {W : WX} {k n : Nat} {f C : Addr} {fd : FuncData} {ps : List Str} {x m : Str} {p pos apos : Pos} {e o : Expr} {es : List Expr} {mf mo : M RV} {mr : M (List RV)} {dvs : List V} {ds : List Value} {dl : List Val}
def runMk (C : Str) (ms : List Bool) (f : M RV) (rs : List RV) : M RV := fun e => match argsE (true :: ms) (.tmp (.obj C [] []) :: rs) e with
  | some (p, e1) => match f p with
    | .ok (.dat .non) p' => match p'[0]? with
      | some (Slot.own v) => .ok (.tmp v) (backE (true :: ms) (.tmp (.obj C [] []) :: rs) p' e1)
      | _ => .bad
    | .ok _ _ => .bad
    | .rs x p' => .rs x (backE (true :: ms) (.tmp (.obj C [] []) :: rs) p' e1)
    | .bad => .bad
  | none => .bad
def mMake (C : Str) (ms : List Bool) (f : M RV) (as : M (List RV)) (ds : List Val) : M RV := as.bind fun rs => runMk C ms f (rs ++ ds.map .dat)
end
end Pu
set_option Elab.async false
set_option linter.all false
set_option maxRecDepth 100000
namespace Pu
open PySem PySem.Spec PyProof.Rows L2
section
variable {K : PySem.W.Frag} {W : WX} {α β : Type} {R1 : Bg → Hp → Hp → Ev → Sig → α → β → Prop} {B : Bg} {F F' H H' : Hp} {e e' : Ev} {σ σ' : Sig} {ws : List Nat}
theorem AtG.rd {r : RV} {u : V} {f : Val → M Unit} {Q : Sig → Hp → Prop} (R0 : Rel K F H e σ) (h : RR K B F H e σ r u) (q : AtG K W ws B ((M.rd r).bind f) e σ Q) : ∃ v, RdR K F H v u ∧ AtG K W ws B (f v) e σ Q := by
  cases z : Pu.rd r e with
  | none =>
    unfold AtG M.bind M.rd at q
    rw [z] at q
    exact q.elim
  | some v =>
    refine ⟨v, h.rd R0 z, ?_⟩
    unfold AtG M.bind M.rd at q
    rw [z] at q
    exact q
end
def gSb (mo mi : M RV) (v : Val) : M Unit := mo.bind fun r => mi.bind fun s => (M.rd s).bind fun k => match r, k with
  | .bor j, .int k => fun e => match e[j]? with
    | some (Slot.own (.lst xs)) => match ixN xs.length k with
      | some n => .ok () (e.set j (.own (.lst (xs.set n v))))
      | none => .bad
    | _ => .bad
  | _, _ => M.bad
def lookV (f : Str) : List Str → List Val → Option Val
  | g :: fs, v :: vs => if g = f then some v else lookV f fs vs
  | _, _ => none
def mGet (C f : Str) (mo : M RV) : M RV := mo.bind fun r => (M.rd r).bind fun v => match v with
  | .obj C' fs vs => if C' = C then (match lookV f fs vs with
    | some w => mV w
    | none => M.bad) else M.bad
  | _ => M.bad
def noRs {α : Type} (m : M α) : M α := fun e => match m e with
  | .ok a e' => .ok a e'
  | _ => .bad
def mProp (C : Str) (f : M RV) (mo : M RV) : M RV := mo.bind fun r => (M.rd r).bind fun v => match v with
  | .obj C' _ _ => if C' = C then noRs (runF [true] f [r]) else M.bad
  | _ => M.bad
def putFs (f : Str) : List Str → List Str
  | [] => [f]
  | g :: fs => if g = f then g :: fs else g :: putFs f fs
def putVs (f : Str) (v : Val) : List Str → List Val → List Val
  | g :: fs, x :: vs => if g = f then v :: vs else x :: putVs f v fs vs
  | _, _ => [v]
def mPut (C f : Str) (mo mv : M RV) : S := mv.bind fun r0 => (M.dt r0).bind fun v => mo.bind fun r => match r with
  | .bor i => fun e => match e[i]? with
    | some (Slot.own (.obj C' fs vs)) => if C' = C ∧ fs.length < 1000 then .ok .nx (e.set i (.own (.obj C (putFs f fs) (putVs f v fs vs)))) else .bad
    | _ => .bad
  | _ => M.bad
end Pu
set_option Elab.async false
set_option linter.all false
set_option maxRecDepth 100000
namespace Pu
open PySem PySem.Spec PyProof.Rows L2
def sel {α : Type} : List Nat → List α → List α
  | [], _ => []
  | i :: g, xs => match xs[i]? with
    | some a => a :: sel g xs
    | none => sel g xs
section
variable {K : PySem.W.Frag} {W : WX} {B : Bg} {F H : Hp} {σ : Sig} {e : Ev}
theorem sel_rel {α β : Type} {xs : List α} {ys : List β} (hl : xs.length = ys.length) : ∀ {g : List Nat} {j : Nat} {a : α}, (sel g xs)[j]? = some a → ∃ i ∈ g, xs[i]? = some a ∧ (sel g ys)[j]? = ys[i]?
  | [], j, a, h => by simp [sel] at h
  | i :: g, j, a, h => by
    unfold sel at h ⊢
    cases hx : xs[i]? with
    | none =>
      have hy : ys[i]? = none := List.getElem?_eq_none (by rw [← hl]; exact List.getElem?_eq_none_iff.mp hx)
      simp only [hx] at h
      simp only [hy]
      obtain ⟨i', h1, h2, h3⟩ := sel_rel hl h
      exact ⟨i', List.mem_cons_of_mem _ h1, h2, h3⟩
    | some b =>
      have il : i < ys.length := by rw [← hl]; exact (List.getElem?_eq_some_iff.mp hx).1
      have hy : ys[i]? = some ys[i] := List.getElem?_eq_getElem il
      simp only [hx] at h
      simp only [hy]
      cases j with
      | zero => exact ⟨i, List.mem_cons_self .., by rw [hx]; simpa using h, by rw [hy]; rfl⟩
      | succ j =>
        obtain ⟨i', h1, h2, h3⟩ := sel_rel hl (j := j) (by simpa using h)
        exact ⟨i', List.mem_cons_of_mem _ h1, h2, by simpa using h3⟩
theorem RRs.pair {rs : List RV} {us : List V} (h : RRs K B F H e σ rs us) : ∀ {i j : Nat} {v w : Val} {u : V}, i ≠ j → rs[i]? = some (.tmp v) → rs[j]? = some (.tmp w) → us[i]? = some u → us[j]? ≠ some u := by
  induction h with
  | nil => intro i j v w u _ h; simp at h
  | cons r d t ih =>
    intro i j v w u ne h1 h2 h3 h4
    cases i with
    | zero => cases j with
      | zero => exact ne rfl
      | succ j =>
        simp at h1 h3
        exact d v h1 j w (by simpa using h2) (by rw [h3]; simpa using h4)
    | succ i => cases j with
      | zero =>
        simp at h2 h4
        exact d w h2 i v (by simpa using h1) (by rw [h4]; simpa using h3)
      | succ j => exact ih (fun z => ne (congrArg Nat.succ z)) (by simpa using h1) (by simpa using h2) (by simpa using h3) (by simpa using h4)
theorem RRs.get {rs : List RV} {us : List V} (h : RRs K B F H e σ rs us) : ∀ {i : Nat} {r : RV} {u : V}, rs[i]? = some r → us[i]? = some u → RR K B F H e σ r u := by
  induction h with
  | nil => intro i r u a; simp at a
  | cons r d t ih =>
    intro i r' u a b
    cases i with
    | zero => simp at a b; subst a b; exact r
    | succ i => exact ih (by simpa using a) (by simpa using b)
theorem RRs.sel {rs : List RV} {us : List V} (h : RRs K B F H e σ rs us) : ∀ {g : List Nat}, g.Nodup → RRs K B F H e σ (Pu.sel g rs) (Pu.sel g us)
  | [], _ => .nil
  | i :: g, nd => by
    have hl := h.length
    obtain ⟨n1, n2⟩ := List.nodup_cons.mp nd
    unfold Pu.sel
    cases hx : rs[i]? with
    | none =>
      have hy : us[i]? = none := List.getElem?_eq_none (by rw [← hl]; exact List.getElem?_eq_none_iff.mp hx)
      simp only [hy]
      exact RRs.sel h n2
    | some r =>
      have il : i < us.length := by rw [← hl]; exact (List.getElem?_eq_some_iff.mp hx).1
      have hy : us[i]? = some us[i] := List.getElem?_eq_getElem il
      simp only [hy]
      refine .cons (h.get hx hy) (fun v z j w z2 z3 => ?_) (RRs.sel h n2)
      obtain ⟨i', m1, m2, m3⟩ := sel_rel hl z2
      rw [m3] at z3
      exact h.pair (fun z => n1 (by rw [z]; exact m1)) (by rw [hx, z]) m2 hy z3
theorem RRs.join {F1 H1 F2 H2 : Hp} {e1 e2 : Ev} (C1 : Cur K B F1 H1 e1 σ) (c2 : Cur K (bg B.np F1 H1 e1 σ) F2 H2 e2 σ) {zs : List RV} {xs : List V} (q2 : RRs K (bg B.np F1 H1 e1 σ) F2 H2 e2 σ zs xs) {rs : List RV} {us : List V} (q1 : RRs K B F1 H1 e1 σ rs us) :
    RRs K B F2 H2 e2 σ (rs ++ zs) (us ++ xs) := by
  induction q1 with
  | nil => exact Carry.out C1 q2
  | cons r d t ih =>
    rename_i r' u' rs us
    refine .cons (r.carry c2) (fun v z j w h1 h2 => ?_) ih
    replace h1 : (rs ++ zs)[j]? = some (.tmp w) := h1
    replace h2 : (us ++ xs)[j]? = some u' := h2
    have tl := t.length
    by_cases hj : j < rs.length
    · rw [List.getElem?_append_left hj] at h1
      rw [List.getElem?_append_left (by omega)] at h2
      exact d v z j w h1 h2
    · rw [List.getElem?_append_right (by omega)] at h1 h2
      subst z
      obtain ⟨t0, z1, z2, z3, z4, z5⟩ := r
      obtain ⟨o, z6⟩ := z3.some
      subst z1
      rw [← tl] at h2
      obtain ⟨t', y1, y2, y3, y4, y5⟩ := q2.mem_tmp h1 h2
      cases y1
      rcases y5 with y5 | y5
      · exact z4 y5
      · have y6 : H1 t0 = none := y5
        rw [z6] at y6; cases y6
end
end Pu
set_option Elab.async false
set_option linter.all false
set_option maxRecDepth 100000
namespace Pu
open PySem PySem.Spec PyProof.Rows L2
def mNeg (a : M RV) : M RV := a.bind fun r => (M.rd r).bind fun v => match v with
  | .int i => mV (.int (-i))
  | _ => M.bad
def mChain (f g : Val → Val → M RV) (a b c : M RV) : M RV := a.bind fun r => b.bind fun s => (M.rd r).bind fun v => (M.rd s).bind fun w => (f v w).bind fun z => (M.rd z).bind fun k => match k with
  | .bl true => c.bind fun t => (M.rd s).bind fun w' => (M.rd t).bind fun x => g w' x
  | .bl false => mV (.bl false)
  | _ => M.bad
def cutA {α : Type} (xs : List α) (lo hi : Option Int) : List α := (xs.drop (HT.sIx xs.length 0 lo)).take (HT.sIx xs.length xs.length hi - HT.sIx xs.length 0 lo)
instance {K : PySem.W.Frag} : Carry K (fun _ _ _ _ _ (b c : Option Int) => b = c) := ⟨fun _ h => h⟩
def mNoP : M (Option Int) := M.ret none
def mPt (a : M RV) : M (Option Int) := a.bind fun r => (M.rd r).bind fun v => match v with
  | .int i => M.ret (some i)
  | _ => M.bad
def slV (v : Val) (lo hi : Option Int) : M RV := match v with
  | .lst xs => M.ret (.tmp (.lst (cutA xs lo hi)))
  | .tup xs => M.ret (.dat (.tup (cutA xs lo hi)))
  | .str z => if z.length ≤ sizeLine then M.ret (.dat (.str (cutS z lo hi))) else M.bad
  | _ => M.bad
def mSl (a : M RV) (lo hi : M (Option Int)) : M RV := a.bind fun r => lo.bind fun l => hi.bind fun u => (M.rd r).bind fun v => slV v l u
end Pu
set_option Elab.async false
set_option linter.all false
set_option maxRecDepth 100000
namespace Pu
open PySem PySem.Spec PyProof.Rows L2
def noBor : List RV → Bool
  | [] => true
  | .bor _ :: _ => false
  | _ :: rs => noBor rs
def slotOf : RV → Slot
  | .dat v => .dat v
  | .tmp v => .own v
  | .bor _ => .un
def setsE : List Nat → List RV → Ev → Ev
  | i :: is, r :: rs, e => setsE is rs (e.set i (slotOf r))
  | _, _, e => e
def mPar (p : Bool) (is : List Nat) (as : M (List RV)) : S := as.bind fun rs => if rs.length = is.length then (if noBor rs = true ∧ p = false then fun e => .ok .nx (setsE is rs e) else (M.dts rs).bind fun vs => fun e => .ok .nx (setsE is (vs.map .dat) e)) else M.bad
section
variable {K : PySem.W.Frag} {W : WX} {B : Bg} {F H : Hp} {D : Ends}
theorem AtS.dts : ∀ {rs : List RV} {us : List V} {f : List Val → S} {F : Hp} {e : Ev} {σ : Sig}, Cur K B F H e σ → RRs K B F H e σ rs us → AtS K W B ((M.dts rs).bind f) F e σ H D →
    ∃ F' e' vs, Cur K B F' H e' σ ∧ Same F F' ∧ VRs K F' vs us ∧ AtS K W B (f vs) F' e' σ H D
  | _, _, f, F, e, σ, C, .nil, q => ⟨F, e, [], C, Same.refl _, .nil, q⟩
  | _, _, f, F, e, σ, C, .cons (r := r) (u := u) (rs := rs) (us := us) h d t, q => by
    unfold M.dts at q
    rw [M.bind_assoc] at q
    obtain ⟨F1, e1, v, C1, s1, h1, q, keep⟩ := AtS.dt C h q
    rw [M.bind_assoc] at q
    obtain ⟨F2, e2, vs, C2, s2, h2, q⟩ := AtS.dts C1 (RRs.tail_keep keep t d) q
    exact ⟨F2, e2, v :: vs, C2, s1.trans s2, .cons (h1.mono s2) h2, q⟩
end
abbrev Tg := String ⊕ Str
def tagV : Val → Option Tg
  | .non => some (.inl "NoneType")
  | .bl _ => some (.inl "bool")
  | .int _ => some (.inl "int")
  | .str _ => some (.inl "str")
  | .lst _ => some (.inl "list")
  | .tup _ => some (.inl "tuple")
  | .obj C _ _ => some (.inr C)
  | .dct _ _ => some (.inl "dict")
  | _ => none
def tagC : Val → Option Tg
  | .ty n => some (.inl n)
  | .glo C => some (.inr C)
  | _ => none
def tagT (K : PySem.W.Frag) : Tg → Value
  | .inl n => .type n
  | .inr C => .ref (He.ga K C)
def fIsi (T : List (Tg × Tg × Bool)) (vs : List Val) : M RV := match vs with
  | [v, c] => match tagV v, tagC c with
    | some a, some b => match T.find? fun e => decide (e.1 = a ∧ e.2.1 = b) with
      | some e => mV (.bl e.2.2)
      | none => M.bad
    | _, _ => M.bad
  | _ => M.bad
end Pu
set_option Elab.async false
set_option linter.all false
set_option maxRecDepth 100000
set_option maxHeartbeats 2000000
namespace Pu
open PySem PySem.Spec PyProof.Rows L2
def TabOne (K : PySem.W.Frag) : Prop := ∀ p ∈ tabs3 K, ∀ q ∈ tabs3 K, p.2.1 = q.2.1 → p.2.2 = q.2.2
structure TabsE (K : PySem.W.Frag) (h : Heap) : Prop where
  hd : ∀ p ∈ tabs3 K, PySem.W.codeHdIn K p.1 p.2.1 = true
  out : ∀ p ∈ tabs3 K, K.lookup p.2.1 = none
  empty : ∀ p ∈ tabs3 K, h.get? p.2.1 = some { cls := .none, data := .fields #[] }
  one : TabOne K
inductive Fy where
  | prop (C f : Str)
  | isi (C : Str)
  | kit (a b : Tg) (r : Bool)
  | tup (x : Str) (vs : List He.Dv)
  | gen (f : PySem.W.Frag → Bool)
def gA (K : PySem.W.Frag) (C f : Str) : Addr := match PySem.W.recIn K (He.ma K (He.ga K C) f) "property" with
  | some (.ref g :: _) => g
  | _ => 0
def Fy.ok (K : PySem.W.Frag) : Fy → Bool
  | .prop C f => He.eqO (PySem.W.findIn K (.ref (He.ga K C)) f) (some (some (.ref (He.ma K (He.ga K C) f)))) && (He.eqO (PySem.W.specialIn K (.ref (He.ma K (He.ga K C) f)) "__get__") (some (some (.builtin "property.__get__"))) && (decide (PySem.W.takesIn K (.ref (He.ma K (He.ga K C) f)) = some true) &&
      match PySem.W.recIn K (He.ma K (He.ga K C) f) "property" with
      | some (.ref _ :: _) => true
      | _ => false))
  | .isi C => He.eqO (PySem.W.findIn K (.ref (He.ga K C)) "__class__") (some (some (.builtin "object.__class__"))) && (He.eqO (PySem.W.specialIn K (.builtin "object.__class__") "__get__") (some (some (.builtin "getset_descriptor.__get__"))) &&
      (decide (PySem.W.takesIn K (.builtin "object.__class__") = some true) && (decide (PySem.W.mroIn K (He.ga K C) (.type "object") = some true) && (He.Fa.cls C).ok K)))
  | .kit a b r => decide (PySem.W.kitOne K (tagT K a) (tagT K b) = some r)
  | .tup x vs => He.tupB K x vs
  | .gen f => f K
def noLists (K : PySem.W.Frag) : Bool := K.all fun q => match q.2.cls with
  | .type c => c != "list"
  | _ => true
def seenT : Nat → List (Addr × Addr × Str) → Bool
  | _, [] => true
  | bs, p :: r => !(bs.testBit p.2.1) && seenT (bs ||| (1 <<< p.2.1)) r
theorem seenT_ok : ∀ {l : List (Addr × Addr × Str)} {bs : Nat}, seenT bs l = true → (∀ p ∈ l, bs.testBit p.2.1 = false) ∧ ∀ p ∈ l, ∀ q ∈ l, p.2.1 = q.2.1 → p = q
  | [], bs, _ => ⟨fun p hp => absurd hp List.not_mem_nil, fun p hp => absurd hp List.not_mem_nil⟩
  | a :: r, bs, h => by
    unfold seenT at h
    rw [Bool.and_eq_true, Bool.not_eq_true'] at h
    obtain ⟨i1, i2⟩ := seenT_ok h.2
    have no : ∀ q ∈ r, bs.testBit q.2.1 = false ∧ q.2.1 ≠ a.2.1 := fun q hq => by
      have z := i1 q hq
      rw [Nat.testBit_or, Bool.or_eq_false_iff] at z
      refine ⟨z.1, fun e => ?_⟩
      have z2 := z.2
      rw [e, Nat.testBit_shiftLeft] at z2
      simp at z2
    refine ⟨fun p hp => ?_, fun p hp q hq e => ?_⟩
    · rcases List.mem_cons.mp hp with e1 | p1
      · rw [e1]; exact h.1
      · exact (no p p1).1
    · rcases List.mem_cons.mp hp with e1 | p1
      · rcases List.mem_cons.mp hq with e2 | q1
        · rw [e1, e2]
        · rw [e1] at e; exact absurd e.symm (no q q1).2
      · rcases List.mem_cons.mp hq with e2 | q1
        · rw [e2] at e; exact absurd e (no p p1).2
        · exact i2 p p1 q q1 e
def tabsChk (g : Addr → Option Obj) (K : PySem.W.Frag) : Bool := ((tabs3 K).all fun p => PySem.W.codeHdIn K p.1 p.2.1 && (match g p.2.1 with
  | some o => He.emptyTab o
  | none => false)) && seenT 0 (tabs3 K)
theorem tabsChk_ok {as : List Addr} {h : Heap} (c : tabsChk h.get? (He.frT h.get? as) = true) : TabsE (He.frT h.get? as) h := by
  unfold tabsChk at c
  obtain ⟨c1, c2⟩ := Bool.and_eq_true_iff.mp c
  have key : ∀ p ∈ tabs3 (He.frT h.get? as), PySem.W.codeHdIn (He.frT h.get? as) p.1 p.2.1 = true ∧ ∃ o, h.get? p.2.1 = some o ∧ He.emptyTab o = true := fun p hp => by
    obtain ⟨h3, h4⟩ := Bool.and_eq_true_iff.mp (List.all_eq_true.mp c1 p hp)
    refine ⟨h3, ?_⟩
    cases q : h.get? p.2.1 with
    | none => rw [q] at h4; cases h4
    | some o => rw [q] at h4; exact ⟨o, rfl, h4⟩
  refine ⟨fun p hp => (key p hp).1, fun p hp => ?_, fun p hp => ?_, fun p hp q hq e => ?_⟩
  · obtain ⟨_, o, q, z⟩ := key p hp
    exact He.frT_none q z
  · obtain ⟨_, o, q, z⟩ := key p hp
    rw [q, He.emptyTab_eq z]
  · rw [(seenT_ok c2).2 p hp q hq e]
abbrev AlP : Type := He.AlD × Bool
def lvlB : List Addr → Nat → List Addr → (Nat → List Addr → List Addr) → List Addr
  | [], v, acc, k => k v acc
  | a :: r, v, acc, k => match v.testBit a with
    | true => lvlB r v acc k
    | false => lvlB r (v ||| (1 <<< a)) (a :: acc) k
def refsB (g : Addr → Option Obj) (a : Addr) : List Addr := match g a with
  | some o => He.refsD o
  | none => []
def asB (g : Addr → Option Obj) : Nat → Nat → List Addr → List Addr
  | 0, _, fr => fr
  | n + 1, v, fr => fr ++ lvlB (fr.flatMap (refsB g)) v [] (asB g n)
def frP (n : Nat) (g : Addr → Option Obj) : PySem.W.Frag := He.frT g (asB g n (1 <<< mainGlobals) [mainGlobals] ++ [cStatics, sysModules])
def obsP (n : Nat) (fa : List He.Fa) (fn : List He5.DefA) (fy : List Fy) (g : Addr → Option Obj) : AlP := (He5.obsA fa fn (frP n g), (fy.all fun f => f.ok (frP n g)) && (noLists (frP n g) && tabsChk g (frP n g)))
structure SaysP (fa : List He.Fa) (fn : List He5.DefA) (fy : List Fy) (K : PySem.W.Frag) : Prop where
  a : He5.SaysA fa fn K
  y : ∀ f ∈ fy, f.ok K = true
  nl : noLists K = true
def hookP (n : Nat) (fa : List He.Fa) (fn : List He5.DefA) (fy : List Fy) : PySem.W.Hook where
  α := AlP
  obs := fun s => obsP n fa fn fy s.heap.get?
  val := fun _ => (He5.valA fn, true)
  says := fun _ h => ∃ K : PySem.W.Frag, K.In h ∧ SaysP fa fn fy K ∧ TabsE K h
  of := fun _ h e => by
    have e1 := congrArg (fun z : AlP => z.1) e
    have e2 := Bool.and_eq_true_iff.mp (congrArg (fun z : AlP => z.2) e)
    have e3 := Bool.and_eq_true_iff.mp e2.2
    exact ⟨_, He.frT_in, ⟨e1, List.all_eq_true.mp e2.1, e3.1⟩, tabsChk_ok e3.2⟩
  keeps := fun _ _ _ q kp => by
    obtain ⟨K, inK, c, t⟩ := q
    exact ⟨K, PySem.W.Frag.In.keeps inK kp, c, ⟨t.hd, t.out, fun p hp => kp _ _ (t.empty p hp), t.one⟩⟩
theorem obsP_eq {n : Nat} {fa : List He.Fa} {fn : List He5.DefA} {fy : List Fy} {g : Addr → Option Obj} {s : Shared} (h : ∀ a, g a = s.heap.get? a) : obsP n fa fn fy g = (hookP n fa fn fy).obs s := by
  obtain rfl : g = s.heap.get? := funext h
  rfl
end Pu
set_option Elab.async false
set_option linter.all false
set_option maxRecDepth 100000
namespace Pu
open PySem PySem.Spec PyProof.Rows L2
section
variable {X : Cx} {W : WX} {x : Str} {pos : Pos}
def gv : Val → He.Dv
  | .non => .non
  | .bl b => .bl b
  | .int i => .int i
  | .str x => .str x
  | .ty n => .ty n
  | .glo x => .glo x
  | _ => .non
end
end Pu
set_option Elab.async false
set_option linter.all false
set_option maxRecDepth 100000
namespace Pu.O
open PySem PySem.Spec PyProof.Rows L2 Pu
def Ok {α : Type} (m : M α) (e : Ev) (Q : α → Ev → Prop) : Prop := match m e with
  | .ok a e' => Q a e'
  | _ => False
section
variable {α β : Type} {m : M α} {e : Ev} {Q Q' : α → Ev → Prop} {R : β → Ev → Prop}
theorem Ok.mono (h : Ok m e Q) (k : ∀ a e', Q a e' → Q' a e') : Ok m e Q' := by
  unfold Ok at h ⊢
  cases q : m e with
  | ok a e' => rw [q] at h; exact k _ _ h
  | _ => rw [q] at h; exact h.elim
theorem ok_ret {a : α} : Ok (M.ret a) e Q ↔ Q a e := Iff.rfl
end
variable {e : Ev}
theorem ok_compS0 {ws : List Nat} {mt : Val → M Unit} {mc : M Bool} {me : M RV} {acc : List Val} {Q : List Val → Ev → Prop} : Ok (compS ws mt mc me [] acc) e Q ↔ Q acc e := Iff.rfl
theorem ok_compSC {ws : List Nat} {mt : Val → M Unit} {mc : M Bool} {me : M RV} {v : Val} {vs acc : List Val} {Q : List Val → Ev → Prop} : Ok (compS ws mt mc me (v :: vs) acc) e Q ↔ Ok (mt v) e fun _ e1 => Ok mc e1 fun k e2 =>
    (k = true → Ok me e2 fun x e3 => Ok (M.dt x) e3 fun w e4 => acc.length < sizeLine ∧ Ok (compS ws mt mc me vs (acc ++ [w])) (wipeE e4 ws) Q) ∧ (¬ k = true → Ok (compS ws mt mc me vs acc) (wipeE e2 ws) Q) := by
  unfold Ok
  conv => lhs; unfold compS
  cases mt v e with
  | ok u e1 =>
    dsimp only
    cases mc e1 with
    | ok k e2 => cases k with
      | true =>
        dsimp only
        simp only [true_implies, not_true_eq_false, false_implies, and_true]
        cases me e2 with
        | ok x e3 =>
          dsimp only
          cases M.dt x e3 with
          | ok w e4 =>
            dsimp only
            by_cases h : acc.length < sizeLine <;> simp [h]
          | _ => exact Iff.rfl
        | _ => exact Iff.rfl
      | false => simp
    | _ => exact Iff.rfl
  | _ => exact Iff.rfl
theorem Ok.compS {ws : List Nat} {mt : Val → M Unit} {me : M RV} (I : Ev → Prop) (P : Val → Val → Prop) : ∀ {vs acc : List Val} {e : Ev}, I e → acc.length + vs.length ≤ sizeLine →
    (∀ (v : Val) (e : Ev), v ∈ vs → I e → Ok (mt v) e fun _ e1 => Ok me e1 fun x e3 => Ok (M.dt x) e3 fun w e4 => P v w ∧ I (wipeE e4 ws)) →
    Ok (Pu.compS ws mt mYes me vs acc) e fun r e' => I e' ∧ ∃ rs, r = acc ++ rs ∧ rs.length = vs.length ∧ ∀ (j : Nat) (v w : Val), vs[j]? = some v → rs[j]? = some w → P v w
  | [], acc, e, h, _, _ => by
    rw [ok_compS0]
    exact ⟨h, [], by simp, rfl, fun j v w z => by simp at z⟩
  | v :: vs, acc, e, h, hl, st => by
    rw [ok_compSC]
    refine Ok.mono (st v e (List.mem_cons_self ..) h) fun _ e1 h1 => ?_
    show Ok (M.ret true) e1 _
    rw [ok_ret]
    refine ⟨fun _ => ?_, fun z => absurd rfl z⟩
    refine Ok.mono h1 fun x e3 h3 => Ok.mono h3 fun w e4 h4 => ?_
    rw [List.length_cons] at hl
    refine ⟨by omega, Ok.mono (Ok.compS I P (vs := vs) h4.2 (by simp; omega) fun v' e' m => st v' e' (List.mem_cons_of_mem _ m)) fun r e' q => ?_⟩
    obtain ⟨q1, rs, rfl, q3, q4⟩ := q
    refine ⟨q1, w :: rs, by simp, by simp [q3], fun j v' w' z1 z2 => ?_⟩
    cases j with
    | zero => simp at z1 z2; subst z1 z2; exact h4.1
    | succ j => exact q4 j v' w' (by simpa using z1) (by simpa using z2)
end Pu.O
namespace Pu
open PySem PySem.Spec PyProof.Rows L2
inductive Tag {α : Type} (Q : α → Ev → Prop) : Type where
  | tag
def Ok {α : Type} (m : M α) (e : Ev) (Q : α → Ev → Prop) (_u : Tag Q := .tag) : Prop := O.Ok m e Q
section
variable {α β : Type} {m : M α} {e : Ev} {Q Q' : α → Ev → Prop} {R : β → Ev → Prop}
theorem Ok.mono (h : Ok m e Q) (k : ∀ a e', Q a e' → Q' a e') : Ok m e Q' := O.Ok.mono h k
theorem ok_ret {a : α} : Ok (M.ret a) e Q ↔ Q a e := O.ok_ret
end
variable {e : Ev}
theorem ok_compS0 {ws : List Nat} {mt : Val → M Unit} {mc : M Bool} {me : M RV} {acc : List Val} {Q : List Val → Ev → Prop} : Ok (compS ws mt mc me [] acc) e Q ↔ Q acc e := O.ok_compS0
theorem ok_compSC {ws : List Nat} {mt : Val → M Unit} {mc : M Bool} {me : M RV} {v : Val} {vs acc : List Val} {Q : List Val → Ev → Prop} : Ok (compS ws mt mc me (v :: vs) acc) e Q ↔ Ok (mt v) e fun _ e1 => Ok mc e1 fun k e2 =>
    (k = true → Ok me e2 fun x e3 => Ok (M.dt x) e3 fun w e4 => acc.length < sizeLine ∧ Ok (compS ws mt mc me vs (acc ++ [w])) (wipeE e4 ws) Q) ∧ (¬ k = true → Ok (compS ws mt mc me vs acc) (wipeE e2 ws) Q) := O.ok_compSC
theorem Ok.compS {ws : List Nat} {mt : Val → M Unit} {me : M RV} (I : Ev → Prop) (P : Val → Val → Prop) : ∀ {vs acc : List Val} {e : Ev}, I e → acc.length + vs.length ≤ sizeLine →
    (∀ (v : Val) (e : Ev), v ∈ vs → I e → Ok (mt v) e fun _ e1 => Ok me e1 fun x e3 => Ok (M.dt x) e3 fun w e4 => P v w ∧ I (wipeE e4 ws)) →
    Ok (Pu.compS ws mt mYes me vs acc) e fun r e' => I e' ∧ ∃ rs, r = acc ++ rs ∧ rs.length = vs.length ∧ ∀ (j : Nat) (v w : Val), vs[j]? = some v → rs[j]? = some w → P v w := O.Ok.compS I P
end Pu
set_option Elab.async false
set_option linter.all false
set_option maxRecDepth 100000
namespace Pu
open PySem PySem.Spec PyProof.Rows L2
end Pu
set_option Elab.async false
set_option linter.all false
set_option maxRecDepth 100000
namespace Pu
open PySem PySem.Spec PyProof.Rows L2
end Pu
set_option Elab.async false
set_option linter.all false
set_option maxRecDepth 100000
set_option maxHeartbeats 2000000
namespace Pu
open PySem PySem.Spec PyProof.Rows L2
def ItB : Bool → Heap → Addr → Addr → Nat → Prop
  | true, h, it, a, i => h.IsListIter it a i
  | false, h, it, a, i => h.IsTupleIter it a i
theorem ItB.at {b : Bool} {h h' : Heap} {it a : Addr} {i : Nat} (x : ItB b h it a i) (e : ∀ o, h.get? it = some o → h'.get? it = some o) : ItB b h' it a i := by
  cases b
  · exact Heap.IsTupleIter.at x e
  · exact Heap.IsListIter.at x e
theorem ItB.obj {b : Bool} {h : Heap} {it a : Addr} {i : Nat} (x : ItB b h it a i) : ∃ o, h.get? it = some o ∧ ∀ v, o.data ≠ .cell v := by
  cases b <;> (obtain ⟨o, ho, hc, hd⟩ := x; exact ⟨o, ho, fun v q => by rw [hd] at q; cases q⟩)
end Pu
set_option Elab.async false
set_option linter.all false
set_option maxRecDepth 100000
set_option maxHeartbeats 2000000
namespace Pu
open PySem PySem.Spec PyProof.Rows L2
end Pu
set_option Elab.async false
set_option linter.all false
set_option maxRecDepth 100000
set_option maxHeartbeats 3200000
namespace Pu
open PySem PySem.Spec PyProof.Rows L2
end Pu
set_option Elab.async false
set_option linter.all false
set_option maxRecDepth 100000
set_option maxHeartbeats 2000000
namespace Pu
open PySem PySem.Spec PyProof.Rows L2
end Pu
set_option Elab.async false
set_option linter.all false
set_option maxRecDepth 100000
namespace Pu
open PySem PySem.Spec PyProof.Rows L2
end Pu
set_option Elab.async false
set_option linter.all false
set_option maxRecDepth 100000
set_option maxHeartbeats 2000000
namespace Pu
open PySem PySem.Spec PyProof.Rows L2
def noOwnE (e : Ev) : Bool := e.all fun s => match s with
  | .own _ => false
  | _ => true
inductive InR (K : PySem.W.Frag) (B : Bg) (F H : Hp) : List (List Val) → List Addr → Prop
  | nil : InR K B F H [] []
  | cons {ys : List Val} {b : Addr} {us : List V} {xs : List (List Val)} {bs : List Addr} : H b = some (.lst us) → VRs K F ys us → F b = none → B.mine b → InR K B F H xs bs → InR K B F H (ys :: xs) (b :: bs)
structure NX (K : PySem.W.Frag) (B : Bg) (iF : Nat) (A : Addr) (bs : List Addr) (xs : List (List Val)) (F H : Hp) (e : Ev) (σ : Sig) : Prop where
  cur : Cur K B F H (e.set iF .un) σ
  no : noOwnE e = true
  x1 : e[iF]? = some (.dat (.lst (xs.map .lst)))
  x2 : σ[iF]? = some (some (.ref A))
  x3 : H A = some (.lst (bs.map .ref))
  x4 : F A = none
  x5 : B.mine A
  x6 : (A :: bs).Nodup
  x7 : InR K B F H xs bs
def NR (K : PySem.W.Frag) (B : Bg) (iF : Nat) (F H : Hp) (e : Ev) (σ : Sig) : Prop := ∃ (A : Addr) (bs : List Addr) (xs : List (List Val)), NX K B iF A bs xs F H e σ
section
variable {K : PySem.W.Frag} {W : WX} {B : Bg} {F F1 H H1 : Hp} {e e' : Ev} {σ : Sig} {iF : Nat} {A : Addr} {bs : List Addr} {xs : List (List Val)}
theorem InR.len {xs : List (List Val)} {bs : List Addr} (h : InR K B F H xs bs) : xs.length = bs.length := by
  induction h with
  | nil => rfl
  | cons _ _ _ _ _ ih => simp [ih]
theorem InR.at {xs : List (List Val)} {bs : List Addr} (h : InR K B F H xs bs) : ∀ b ∈ bs, F b = none ∧ B.mine b ∧ ∃ us, H b = some (.lst us) := by
  induction h with
  | nil => intro b hb; simp at hb
  | cons h1 h2 h3 h4 _ ih =>
    intro c hc
    rcases List.mem_cons.mp hc with rfl | hc
    · exact ⟨h3, h4, _, h1⟩
    · exact ih c hc
theorem InR.get {xs : List (List Val)} {bs : List Addr} (h : InR K B F H xs bs) : ∀ {n : Nat} {ys : List Val}, xs[n]? = some ys → ∃ b us, bs[n]? = some b ∧ H b = some (.lst us) ∧ VRs K F ys us := by
  induction h with
  | nil => intro n ys h; simp at h
  | cons h1 h2 h3 h4 _ ih =>
    intro n zs h
    cases n with
    | zero => simp at h; subst h; exact ⟨_, _, rfl, h1, h2⟩
    | succ n => simpa using ih (n := n) (by simpa using h)
theorem InR.go {xs : List (List Val)} {bs : List Addr} (h : InR K B F H xs bs) (s : Same F F1) (hH : ∀ b ∈ bs, H1 b = H b) (hF : ∀ b ∈ bs, F1 b = none) : InR K B F1 H1 xs bs := by
  induction h with
  | nil => exact .nil
  | cons h1 h2 h3 h4 _ ih => exact .cons ((hH _ List.mem_cons_self).trans h1) (h2.mono s) (hF _ List.mem_cons_self) h4 (ih (fun b hb => hH b (List.mem_cons_of_mem _ hb)) fun b hb => hF b (List.mem_cons_of_mem _ hb))
theorem InR.set {xs : List (List Val)} {bs : List Addr} (h : InR K B F H xs bs) : ∀ {n : Nat} {b : Addr} {ys : List Val} {us : List V}, bs.Nodup → bs[n]? = some b → VRs K F ys us → InR K B F (upd H b (.lst us)) (xs.set n ys) bs := by
  induction h with
  | nil => intro n b ys us _ h; simp at h
  | @cons ys0 b0 us0 xs0 bs0 h1 h2 h3 h4 t ih =>
    intro n b ys us nd h r
    obtain ⟨n1, n2⟩ := List.nodup_cons.mp nd
    cases n with
    | zero =>
      simp at h
      subst h
      exact .cons upd_same r h3 h4 (t.go (Same.refl _) (fun c hc => upd_ne fun z => n1 (by rw [← z]; exact hc)) fun c hc => (t.at c hc).1)
    | succ n =>
      have hb : bs0[n]? = some b := by simpa using h
      exact .cons ((upd_ne fun z => n1 (by rw [z]; exact List.mem_of_getElem? hb)).trans h1) h2 h3 h4 (ih n2 hb r)
theorem NX.mine (N : NX K B iF A bs xs F H e σ) : ∀ a ∈ A :: bs, B.mine a := fun a ha => by
  rcases List.mem_cons.mp ha with rfl | ha
  · exact N.x5
  · exact (N.x7.at a ha).2.1
end
end Pu
set_option Elab.async false
set_option linter.all false
set_option maxRecDepth 100000
set_option maxHeartbeats 2000000
namespace Pu
open PySem PySem.Spec PyProof.Rows L2
def AtN (K : PySem.W.Frag) (B : Bg) (iF : Nat) (F : Hp) (m : S) (e : Ev) (D : Ends) : Prop := match m e with
  | .ok .nx e' => ∀ F' H' σ', Same F F' → NR K B iF F' H' e' σ' → D.nx σ' H'
  | .ok (.rt (.dat .non)) e' => ∀ F' H' σ', Same F F' → NR K B iF F' H' e' σ' → D.rt .non H'
  | _ => False
section
variable {K : PySem.W.Frag} {B : Bg} {F H : Hp} {e e' : Ev} {σ : Sig} {iF : Nat} {D : Ends}
theorem AtN.nx {m : S} (h : AtN K B iF F m e D) (hm : m e = .ok .nx e') {σ' : Sig} {F' H' : Hp} (s : Same F F') (N : NR K B iF F' H' e' σ') : D.nx σ' H' := by
  unfold AtN at h
  rw [hm] at h
  exact h _ _ _ s N
theorem AtN.mono {m : S} {F1 : Hp} (h : AtN K B iF F m e D) (s : Same F F1) : AtN K B iF F1 m e D := by
  unfold AtN at h ⊢
  split at h
  · rename_i q; exact fun F' H' σ' s' => h F' H' σ' (s.trans s')
  · rename_i q; exact fun F' H' σ' s' => h F' H' σ' (s.trans s')
  · exact h.elim
end
end Pu
set_option Elab.async false
set_option linter.all false
set_option maxRecDepth 100000
namespace Pu
open PySem PySem.Spec PyProof.Rows L2
namespace EE
open PySem.SeqAt MeetsSeq MeetsSeq2 MeetsSeq3 SeqRoads2
end EE
end Pu
set_option Elab.async false
set_option linter.all false
set_option maxRecDepth 100000
set_option maxHeartbeats 2000000
namespace Pu
open PySem PySem.Spec PyProof.Rows L2
def mDct0 : M RV := M.ret (.tmp (.dct [] []))
end Pu
set_option Elab.async false
set_option linter.all false
set_option maxRecDepth 100000
set_option maxHeartbeats 2000000
namespace Pu
open PySem PySem.Spec PyProof.Rows L2
def dI1 : List Key → List Val → Bool
  | [.inl i], [.int j] => iOk (.int i) && iOk (.int j)
  | _, _ => false
mutual
def isR : Val → Bool
  | .non => true
  | .bl _ => true
  | .int _ => true
  | .str x => PyData.strOk x
  | .tup xs => isRs xs
  | .lst xs => isRs xs
  | .dct ks vs => (ks.isEmpty && vs.isEmpty) || dI1 ks vs
  | .ty _ => false
  | .glo _ => false
  | .obj _ _ _ => false
def isRs : List Val → Bool
  | [] => true
  | x :: xs => isR x && isRs xs
end
mutual
inductive Dr (K : PySem.W.Frag) (H : Hp) : V → PyData → Prop
  | non : Dr K H .non .none
  | bl (b : Bool) : Dr K H (.bl b) (.bool b)
  | int (i : Int) : Dr K H (.int i) (.int i)
  | str (x : Str) : Dr K H (.str x) (.str x)
  | lst {t : Addr} {us : List V} {ps : List PyData} : SqL K H t us → Drs K H us ps → Dr K H (.ref t) (.list ps)
  | tup {t : Addr} {us : List V} {ps : List PyData} : SqT K H t us → Drs K H us ps → Dr K H (.ref t) (.tuple ps)
  | dct {t : Addr} : H t = some (.dK []) → Dr K H (.ref t) (.dict [])
  | dct1 {t : Addr} {i j : Int} : H t = some (.dK [(.inl i, .int j)]) → Dr K H (.ref t) (.dict [(.int i, .int j)])
inductive Drs (K : PySem.W.Frag) (H : Hp) : List V → List PyData → Prop
  | nil : Drs K H [] []
  | cons {u : V} {us : List V} {q : PyData} {ps : List PyData} : Dr K H u q → Drs K H us ps → Drs K H (u :: us) (q :: ps)
end
def rkOk (v : Val) : Bool := isR v && decide (dep v ≤ 60) && iOk v && decide (rsz v ≤ 16000000)
def fReprR (vs : List Val) : M RV := match vs with
  | [v] => if rkOk v then mV (.str (shownV v)) else M.bad
  | _ => M.bad
def sysB (K : PySem.W.Frag) : Bool := match K.lookup sysModules with
  | some o => (match o.cls with
    | .type n => n == "dict"
    | _ => false)
  | none => false
end Pu
set_option Elab.async false
set_option linter.all false
set_option maxRecDepth 100000
set_option maxHeartbeats 2000000
namespace Pu
open PySem PySem.Spec PyProof.Rows L2
end Pu
set_option Elab.async false
set_option linter.all false
set_option maxRecDepth 100000
set_option maxHeartbeats 2000000
namespace Pu
open PySem PySem.Spec PyProof.Rows L2
end Pu
set_option Elab.async false
set_option linter.all false
set_option maxRecDepth 100000
set_option maxHeartbeats 2000000
namespace Pu
open PySem PySem.Spec PyProof.Rows L2
section
variable {K : PySem.W.Frag} {W : WX}
def fIntS (vs : List Val) : M RV := match vs with
  | [.str a] => (match PySem.intText? a with
    | some n => if a.length ≤ 640 then mV (.int n) else M.bad
    | none => M.bad)
  | _ => M.bad
def inS (i j : Str) : Bool := !(Builtin.Str.occurrences j i 0 j.length 1).isEmpty
def oInS (x y : Val) : M RV := match x, y with
  | .str i, .str j => mV (.bl (inS i j))
  | _, _ => M.bad
end
def signs (x : Str) : List Val := x.cps.toList.map fun c => .str ⟨#[c]⟩
def mItemsS (a : M RV) : M (List Val) := a.bind fun r => (M.rd r).bind fun v => match v with
  | .str x => M.ret (signs x)
  | _ => M.bad
def strs? : List Val → Option (List Str)
  | [] => some []
  | .str x :: r => (match strs? r with
    | some xs => some (x :: xs)
    | none => none)
  | _ :: _ => none
def spl (a b : Str) : List Val := (Txt.split a b).map .str
def mSplit (mo ma : M RV) : M RV := mo.bind fun r => (M.rd r).bind fun v => match v with
  | .str a => ma.bind fun s => (M.rd s).bind fun w => match w with
    | .str b => if (b.length == 0) = false ∧ a.length + 2 ≤ sizeLine then M.ret (.tmp (.lst (spl a b))) else M.bad
    | _ => M.bad
  | _ => M.bad
def joinOk (a : Str) (ys : List Str) : Prop := (ys.map (·.length)).sum + ys.length * a.length ≤ 16777216
instance {a : Str} {ys : List Str} : Decidable (joinOk a ys) := by unfold joinOk; infer_instance
def mJoin (mo ma : M RV) : M RV := mo.bind fun r => (M.rd r).bind fun v => match v with
  | .str a => ma.bind fun s => (M.rd s).bind fun w => match w with
    | .lst vs => (match strs? vs with
      | some ys => if joinOk a ys then mV (.str (Txt.join a ys)) else M.bad
      | none => M.bad)
    | .tup vs => (match strs? vs with
      | some ys => if joinOk a ys then mV (.str (Txt.join a ys)) else M.bad
      | none => M.bad)
    | _ => M.bad
  | _ => M.bad
end Pu
set_option Elab.async false
set_option linter.all false
set_option maxRecDepth 100000
set_option maxHeartbeats 2000000
namespace Pu
open PySem PySem.Spec PyProof.Rows L2
def gC (K : PySem.W.Frag) (C m : Str) : Addr := match PySem.W.recIn K (He.ma K (He.ga K C) m) "classmethod" with
  | some (.ref a :: _) => a
  | _ => 0
def cmB (K : PySem.W.Frag) (C m : Str) : Bool := PySem.W.readsIn K (He.ga K C) (.type "type") && (He.eqO (PySem.W.specialIn K (.ref (He.ga K C)) "__getattribute__") (some (some (.builtin "type.__getattribute__"))) && ((match PySem.W.findCls K (.ref (He.ga K C)) (.type "type") m with
    | some (.get (.builtin b) (.ref p) .none (.ref c)) => b == "classmethod.__get__" && (p == He.ma K (He.ga K C) m && c == He.ga K C)
    | _ => false) && ((match PySem.W.recIn K (He.ma K (He.ga K C) m) "classmethod" with
    | some (.ref _ :: _) => true
    | _ => false) && PySem.W.fnIn K (gC K C m))))
def mCM (C : Str) (ms : List Bool) (mf mo : M RV) (mr : M (List RV)) : M RV := mo.bind fun r => (M.rd r).bind fun v => match v with
  | .glo x => if x = C then mr.bind fun rs => runF ms mf (.dat (.glo C) :: rs) else M.bad
  | _ => M.bad
def mMakeV (C : Str) (ms : List Bool) (mf mo : M RV) (mr : M (List RV)) : M RV := mo.bind fun r => (M.rd r).bind fun v => match v with
  | .glo x => if x = C then mr.bind fun rs => runMk C ms mf rs else M.bad
  | _ => M.bad
end Pu
set_option Elab.async false
set_option linter.all false
set_option maxRecDepth 100000
set_option maxHeartbeats 2000000
namespace Pu
open PySem PySem.Spec PyProof.Rows L2
def fmtV (v : Val) : M Str := fun e => match v with
  | .str y => if y.length ≤ sizeLine then .ok y e else .bad
  | .int i => if i.natAbs.log2 < 1920 then .ok (toString i) e else .bad
  | _ => .bad
def mFmt (m : M RV) : M RV := m.bind fun r => (M.rd r).bind fun v => (fmtV v).bind fun y => mV (.str y)
def mJs : List (M RV) → Str → M Str
  | [], acc => M.ret acc
  | m :: ms, acc => m.bind fun r => (M.rd r).bind fun v => match v with
    | .str y => if (acc ++ y).length ≤ sizeLine then mJs ms (acc ++ y) else M.bad
    | _ => M.bad
def mFs (ms : List (M RV)) : M RV := (mJs ms Str.empty).bind fun y => mV (.str y)
end Pu
set_option Elab.async false
set_option linter.all false
set_option maxRecDepth 100000
set_option maxHeartbeats 2000000
namespace Pu
open PySem PySem.Spec PyProof.Rows L2
end Pu
set_option Elab.async false
set_option linter.all false
set_option maxRecDepth 100000
set_option maxHeartbeats 2000000
namespace Pu
open PySem PySem.Spec PyProof.Rows L2
structure Hh (X : Cx) (a : Addr) (cls : Value) (d : Option Addr) : Prop where
  hd : X.A.handled = some (.ref a)
  pin : ∃ oe vs, (a, oe) ∈ X.pn ∧ L2N.Zn cls d oe ∧ oe.data = .fields vs
section
variable {X : Cx} {a : Addr} {cls : Value} {d : Option Addr} {pins : List (Addr × Obj)} {σ : Sig} {H : Hp} {s : Shared}
theorem Hh.get (h : Hh X a cls d) (I : Inv X pins σ H s) : ∃ oe vs, s.heap.get? a = some oe ∧ oe.data = .fields vs ∧ vs[2]? = some .none ∧ oe.cls = cls ∧ oe.dict = d ∧ H a = none := by
  obtain ⟨oe, vs, h1, h2, h3⟩ := h.pin
  obtain ⟨g1, g2, _⟩ := I.pin (a, oe) (List.mem_append_left _ h1)
  exact ⟨oe, vs, g1, h3, h2.2.2 vs h3, h2.1, h2.2.1, g2⟩
theorem Hh.at (h : Hh X a cls d) (I : Inv X pins σ H s) : HotX.HotAt X.A a s.heap := by
  obtain ⟨oe, vs, g1, g2, g3, _⟩ := h.get I
  exact ⟨h.hd, oe, vs, g1, g2, g3⟩
abbrev Row3 : Type := Addr × Str × Bool
end
end Pu
set_option Elab.async false
set_option linter.all false
set_option maxRecDepth 100000
set_option maxHeartbeats 2000000
namespace Pu
open PySem PySem.Spec PyProof.Rows L2
open Evl (Ex)
def errC (K : PySem.W.Frag) (C : Addr) : Bool := (PySem.W.clsIn K C).isSome && (He.eqO (PySem.W.findIn K (.ref C) "__getattribute__") (some (some (.builtin "BaseException.__getattribute__"))) && (He.eqO (PySem.W.findIn K (.ref C) "__getattr__") (some none) &&
  (decide (PySem.W.subIn K (.ref C) (.type "BaseException") = some true) && (He.eqO (PySem.W.findIn K (.ref C) "__class__") (some (some (.builtin "object.__class__"))) && (He.eqO (PySem.W.specialIn K (.builtin "object.__class__") "__get__") (some (some (.builtin "getset_descriptor.__get__"))) &&
  (decide (PySem.W.takesIn K (.builtin "object.__class__") = some true) && (decide (PySem.W.mroIn K C (.type "object") = some true) && PySem.W.hasDictIn K C)))))))
section
variable {X : Cx} {a D : Addr} {d : Option Addr} {pins : List (Addr × Obj)} {σ : Sig} {H : Hp} {s : Shared}
def DictAt (H : Hp) (d : Option Addr) : Prop := ∀ dx, d = some dx → ∃ fs, H dx = some (.xd fs)
theorem DictAt.ex {H H' : Hp} {d : Option Addr} (h : DictAt H d) (e : Ex H H') : DictAt H' d := fun dx z => by
  obtain ⟨fs, q⟩ := h dx z
  exact ⟨fs, e _ _ q⟩
end
end Pu
set_option Elab.async false
set_option linter.all false
set_option maxRecDepth 100000
set_option maxHeartbeats 2000000
namespace Pu
open PySem PySem.Spec PyProof.Rows L2
end Pu
set_option Elab.async false
set_option linter.all false
set_option maxRecDepth 100000
set_option maxHeartbeats 2000000
namespace Pu
open PySem PySem.Spec PyProof.Rows L2
open Evl (Ex Ev EvL EvA EvT)
def tblA : List (Str × Str) := [("text", "InvalidText"), ("number", "InvalidNumber"), ("setting", "InvalidSetting"), ("index", "InvalidIndex"), ("rule", "NotARule"), ("rounds", "NotRounds"), ("notes", "InvalidNotes"), ("times", "InvalidTimes"), ("offers", "InvalidOffers"), ("fines", "InvalidFines"), ("rules", "InvalidRules"), ("none", "NoFit"), ("many", "TooMany"), ("broken", "Broken")]
def famOf (C : Str) : Nat := if ([("InvalidText" : Str), ("InvalidNumber" : Str), ("InvalidName" : Str), ("InvalidIndex" : Str), ("InvalidSetting" : Str), ("InvalidNote" : Str), ("InvalidClaim" : Str), ("InvalidCommand" : Str), ("NotARule" : Str), ("NotRounds" : Str), ("InvalidNotes" : Str), ("InvalidTimes" : Str), ("InvalidOffers" : Str), ("InvalidFines" : Str), ("InvalidRules" : Str)] : List Str).contains C then 0
  else if ([("UnknownName" : Str), ("InUse" : Str), ("NothingToUndo" : Str)] : List Str).contains C then 1 else 2
def idxA : List Str := [("InvalidNotes" : Str), ("InvalidTimes" : Str), ("InvalidOffers" : Str), ("InvalidFines" : Str), ("InvalidRules" : Str), ("Broken" : Str)]
def fldA (C : Str) : Option Str := if idxA.contains C then some "index" else if C = ("NoFit" : Str) then none else if C = ("TooMany" : Str) then some "limit" else some "given"
def wordA (C : Str) : Str := match tblA.find? fun r => r.2 == C with
  | some r => r.1
  | none => "odd"
def kitB (K : PySem.W.Frag) (C : Str) (v : Value) (b : Bool) : Bool := decide (PySem.W.kitOne K (.ref (He.ga K C)) v = some b)
def fldNames : List Str := [("given" : Str), ("index" : Str), ("limit" : Str), ("shown" : Str)]
def chkA1 (K : PySem.W.Frag) (C : Str) : Bool := errC K (He.ga K C) && ((tblA.all fun q => kitB K C (.ref (He.ga K q.2)) (q.2 == C)) && (kitB K C (.ref (He.ga K "NotRight")) (famOf C == 0) && (kitB K C (.ref (He.ga K "NotKnown")) (famOf C == 1) && (kitB K C (.ref (He.ga K "NotPossible")) (famOf C == 2) &&
  (kitB K C (.type "ValueError") (famOf C == 0) && (kitB K C (.type "LookupError") (famOf C == 1) && (kitB K C (.type "ArithmeticError") (famOf C == 2) &&
  (decide (PySem.W.exmAny K (.ref (He.ga K C)) [.ref (He.ga K "NotRight"), .ref (He.ga K "NotKnown"), .ref (He.ga K "NotPossible")] = some true) && (decide (PySem.W.kitAny K (.ref (He.ga K C)) (idxA.map fun q => .ref (He.ga K q)) = some (idxA.contains C)) &&
  (fldNames.all fun f => He.eqO (PySem.W.findIn K (.ref (He.ga K C)) f) (some none)))))))))))
def chkA (K : PySem.W.Frag) (R : List Str) : Bool := R.all fun C => (tblA.map (·.2)).contains C && chkA1 K C
section
variable {K : PySem.W.Frag} {D a : Addr} {d : Option Addr} {σ : Sig} {H : Hp} {i : Nat}
def RowsAt (H : Hp) (l : Addr) (rows : List Row3) : Prop := H l = some (.lst (rows.map fun r => .ref r.1)) ∧ ∀ r ∈ rows, H r.1 = some (.lst [.str r.2.1, .bl r.2.2])
theorem RowsAt.ex {H' : Hp} {l : Addr} {rows : List Row3} (h : RowsAt H l rows) (e : Ex H H') : RowsAt H' l rows := ⟨e _ _ h.1, fun r hr => e _ _ (h.2 r hr)⟩
end
end Pu
set_option Elab.async false
set_option linter.all false
set_option maxRecDepth 100000
set_option maxHeartbeats 2000000
namespace Pu
open PySem PySem.Spec PyProof.Rows L2
open Evl (Ex EvL EvA EvT)
def FieldAt (H : Hp) (d : Option Addr) (f : Option Str) (u : V) : Prop := match f with
  | none => u = .non
  | some f => ∃ (dd : Addr) (fs : List (Str × V)), d = some dd ∧ H dd = some (.xd fs) ∧ fs.lookup f = some u
theorem FieldAt.ex {H H' : Hp} {d : Option Addr} {f : Option Str} {u : V} (h : FieldAt H d f u) (e : Ex H H') : FieldAt H' d f u := by
  cases f with
  | none => exact h
  | some f =>
    obtain ⟨dd, fs, h1, h2, h3⟩ := h
    exact ⟨dd, fs, h1, e _ _ h2, h3⟩
end Pu
set_option Elab.async false
set_option linter.all false
set_option maxRecDepth 100000
set_option maxHeartbeats 2000000
namespace Pu
open PySem PySem.Spec PyProof.Rows L2
open Evl (Ex EvL EvA EvT)
end Pu
set_option Elab.async false
set_option linter.all false
set_option maxRecDepth 100000
set_option maxHeartbeats 2000000
namespace Pu
open PySem PySem.Spec PyProof.Rows L2
open Evl (Ex EvL EvA EvT)
section
variable {P : Program} {w : World} {K : PySem.W.Frag} {mg : Str → Option Value} {base : Heap}
def hasTab (K : PySem.W.Frag) (f : Addr) : Bool := match K.lookup f with
  | some o => (tabOf K (f, o)).isSome
  | none => false
end
def errV (R : List Str) (x : Val) : Option Val := match x with
  | .obj C fs vs => if R.contains C then match fldA C with
    | none => some (.lst [.str (wordA C), .non])
    | some f => ((fs.zip vs).lookup f).map fun v => .lst [.str (wordA C), v]
    else none
  | _ => none
def mErrA (R : List Str) (mb : M RV) : M RV := fun e => match (mb.bind M.dt) e with
  | .ok v e' => .ok (.tmp (.lst [.str "told", v])) e'
  | .rs x e' => match errV R x with
    | some v => .ok (.tmp v) e'
    | none => .bad
  | .bad => .bad
end Pu
set_option Elab.async false
set_option linter.all false
set_option maxRecDepth 100000
set_option maxHeartbeats 4000000
namespace PySem.PuX
open PySem PySem.W PySem.Calls PyProof.Rows PySem.HandSPX PySem.OEX
open Builtin Builtin.ObjectAttr
end PySem.PuX
namespace Pu
open PySem PySem.Spec PyProof.Rows L2
open Evl (Ex EvL EvA EvT)
end Pu
set_option Elab.async false
set_option linter.all false
set_option maxRecDepth 100000
set_option maxHeartbeats 4000000
namespace Pu
open PySem PySem.Spec PyProof.Rows L2
open Evl (Ex EvL EvA EvT)
def exNew (n : Nat) : String := match n with
  | 0 => "ValueError.__new__"
  | 1 => "LookupError.__new__"
  | _ => "ArithmeticError.__new__"
def exBm (n : Nat) : List Value := match n with
  | 0 => [.type "ValueError", .type "Exception", .type "BaseException", .type "object"]
  | 1 => [.type "LookupError", .type "Exception", .type "BaseException", .type "object"]
  | _ => [.type "ArithmeticError", .type "Exception", .type "BaseException", .type "object"]
def oexChk (K : PySem.W.Frag) (C : Addr) (n : Nat) : Bool := match K.lookup C with
  | some ⟨.type "type", _, .cls cd, sl⟩ => (match cd.mro, sl.toList with
    | .ref C' :: bm, [_, _, _, _, some (.builtin n'), _] => C' == C && n' == exNew n && !cd.hasDel && cd.hasDict && PySem.W.excTail (exBm n) bm
    | _, _ => false)
  | _ => false
def clsChk (K : PySem.W.Frag) (C : Addr) : Bool := decide (PySem.W.subIn K (.ref C) (.type "BaseException") = some true) && (decide (PySem.W.typeIn K (.ref C) = some (.type "type")) && PySem.W.keepIn K (.ref C))
def rsChk (K : PySem.W.Frag) (C : Str) (n : Nat) (fs : List Str) : Bool := oexChk K (He.ga K C) n && (clsChk K (He.ga K C) && (He.eqO (PySem.W.findIn K (.ref (He.ga K C)) "__setattr__") (some (some (.builtin "object.__setattr__"))) &&
  (He.eqO (PySem.W.findIn K (.ref (He.ga K C)) "__init__") (some (some (.ref (He.ma K (He.ga K C) "__init__")))) && (decide (PySem.W.typeIn K (.ref (He.ma K (He.ga K C) "__init__")) = some (.type "function")) && fs.all fun f => He.eqO (PySem.W.findIn K (.ref (He.ga K C)) f) (some none)))))
def mRaise (C : Str) (fs : List Str) (ms : M (List RV)) : S := ms.bind fun rs => (M.dts rs).bind fun vs e => if vs.length = fs.length then .rs (.obj C fs.reverse vs.reverse) e else .bad
end Pu
set_option Elab.async false
set_option linter.all false
set_option maxRecDepth 100000
set_option maxHeartbeats 4000000
namespace Pu
open PySem PySem.Spec PyProof.Rows L2
end Pu
set_option Elab.async false
set_option linter.all false
set_option maxRecDepth 100000
set_option maxHeartbeats 4000000
namespace Pu
open PySem PySem.Spec PyProof.Rows L2
end Pu
set_option Elab.async false
set_option linter.all false
set_option maxRecDepth 100000
set_option maxHeartbeats 4000000
namespace Pu
open PySem PySem.Spec PyProof.Rows L2
end Pu
set_option Elab.async false
set_option linter.all false
set_option maxRecDepth 100000
set_option maxHeartbeats 2000000
namespace Pu
open PySem PySem.Spec PyProof.Rows L2
open Evl (Ex Ev EvL EvA EvT)
end Pu
set_option Elab.async false
set_option linter.all false
set_option maxRecDepth 100000
set_option maxHeartbeats 2000000
namespace Pu
open PySem PySem.Spec PyProof.Rows L2
open Evl (Ex EvL EvA EvT)
def idxsG : List Str := [("InvalidNotes" : Str), ("InvalidTimes" : Str), ("InvalidOffers" : Str), ("InvalidFines" : Str), ("InvalidRules" : Str), ("InUse" : Str)]
def fldG (C : Str) : Option Str := if C = ("NothingToUndo" : Str) ∨ C = ("NoFit" : Str) then none else if C = ("TooMany" : Str) then some "limit" else if idxsG.contains C = true then some "index" else some "given"
def Shw (K : PySem.W.Frag) (H : Hp) (u : V) (x : Str) : Prop := ∃ q, Dr K H u q ∧ q.showable = true ∧ q.depth ≤ 60 ∧ q.shown.length ≤ sizeLine ∧ x = q.shown
def TextAt (K : PySem.W.Frag) (H : Hp) (d : Option Addr) (C : Str) (x : Str) : Prop := if C = ("Broken" : Str) then ∃ u v, FieldAt H d (some "index") u ∧ FieldAt H d (some "shown") v ∧ ∀ H' p, Ex H H' → H' p = some (.tup [u, v]) → Shw K H' (.ref p) x else match fldG C with
  | none => x = ""
  | some f => ∃ u, FieldAt H d (some f) u ∧ ∀ H', Ex H H' → Shw K H' u x
section
variable {K : PySem.W.Frag} {D a : Addr} {d : Option Addr} {σ : Sig} {H : Hp}
theorem TextAt.ex {C x : Str} {H' : Hp} (h : TextAt K H d C x) (e : Ex H H') : TextAt K H' d C x := by
  unfold TextAt at h ⊢
  by_cases hb : C = ("Broken" : Str)
  · rw [if_pos hb] at h ⊢
    obtain ⟨u, v, h1, h2, h3⟩ := h
    exact ⟨u, v, h1.ex e, h2.ex e, fun H2 p e2 g => h3 H2 p (e.trans e2) g⟩
  · rw [if_neg hb] at h ⊢
    have h2 := h
    cases z : fldG C with
    | none => rw [z] at h2; exact h2
    | some f =>
      rw [z] at h2
      obtain ⟨u, h3, h4⟩ := h2
      exact ⟨u, h3.ex e, fun H2 e2 => h4 H2 (e.trans e2)⟩
end
end Pu
set_option Elab.async false
set_option linter.all false
set_option maxRecDepth 100000
set_option maxHeartbeats 2000000
namespace Pu
open PySem PySem.Spec PyProof.Rows L2
open Evl (Ex EvL EvA EvT)
end Pu
set_option Elab.async false
set_option linter.all false
set_option maxRecDepth 100000
set_option maxHeartbeats 2000000
namespace Pu
open PySem PySem.Spec PyProof.Rows L2
open Evl (Ex EvL EvA EvT)
end Pu
set_option Elab.async false
set_option linter.all false
set_option maxRecDepth 100000
set_option maxHeartbeats 2000000
namespace Pu
open PySem PySem.Spec PyProof.Rows L2
open Evl (Ex EvL EvA EvT)
def TextB (K : PySem.W.Frag) (H : Hp) (d : Option Addr) (C : Str) (x : Str) : Prop :=
  if C = ("Broken" : Str) then ∃ u v, FieldAt H d (some "index") u ∧ FieldAt H d (some "shown") v ∧ ∀ H' p, Ex H H' → H' p = some (.lst [u, v]) → Shw K H' (.ref p) x
  else match fldG C with
  | none => x = ""
  | some f => ∃ u, FieldAt H d (some f) u ∧ ∀ H', Ex H H' → Shw K H' u x
section
variable {K : PySem.W.Frag} {D a : Addr} {d : Option Addr} {σ : Sig} {H : Hp}
theorem TextB.ex {C x : Str} {H' : Hp} (h : TextB K H d C x) (e : Ex H H') : TextB K H' d C x := by
  unfold TextB at h ⊢
  by_cases hb : C = ("Broken" : Str)
  · rw [if_pos hb] at h ⊢
    obtain ⟨u, v, h1, h2, h3⟩ := h
    exact ⟨u, v, h1.ex e, h2.ex e, fun H2 p e2 g => h3 H2 p (e.trans e2) g⟩
  · rw [if_neg hb] at h ⊢
    cases z : fldG C with
    | none => rw [z] at h; exact h
    | some f =>
      rw [z] at h
      obtain ⟨u, h3, h4⟩ := h
      exact ⟨u, h3.ex e, fun H2 e2 => h4 H2 (e.trans e2)⟩
end
end Pu
set_option Elab.async false
set_option linter.all false
set_option maxRecDepth 100000
set_option maxHeartbeats 4000000
namespace HT
open PySem PySem.Spec PyProof.Rows L2
end HT
namespace Pu
open PySem PySem.Spec PyProof.Rows L2
theorem VRs.reverse {K : PySem.W.Frag} {F : Hp} {vs : List Val} {us : List V} (h : VRs K F vs us) : VRs K F vs.reverse us.reverse := by
  induction vs generalizing us with
  | nil => cases h; exact VRs.nil
  | cons v r ih =>
    cases h with
    | cons a b =>
      rw [List.reverse_cons, List.reverse_cons]
      exact (ih b).append (VRs.cons a VRs.nil)
end Pu
set_option Elab.async false
set_option linter.all false
set_option maxRecDepth 100000
set_option maxHeartbeats 4000000
namespace L2
open PySem PySem.Spec PyProof.Rows
end L2
namespace Pu
open PySem PySem.Spec PyProof.Rows L2
end Pu
set_option Elab.async false
set_option linter.all false
set_option maxRecDepth 100000
set_option maxHeartbeats 4000000
namespace Pu
open PySem PySem.Spec PyProof.Rows L2
end Pu
set_option Elab.async false
set_option linter.all false
set_option maxRecDepth 100000
set_option maxHeartbeats 4000000
namespace Pu
open PySem PySem.Spec PyProof.Rows L2
end Pu
set_option Elab.async false
set_option linter.all false
set_option maxRecDepth 100000
set_option maxHeartbeats 2000000
namespace Pu
open PySem PySem.Spec PyProof.Rows L2
end Pu
set_option Elab.async false
set_option linter.all false
set_option maxRecDepth 100000
set_option maxHeartbeats 2000000
namespace Pu
open PySem PySem.Spec PyProof.Rows L2
end Pu
set_option Elab.async false
set_option linter.all false
set_option maxRecDepth 100000
set_option maxHeartbeats 4000000
namespace Pu
open PySem PySem.Spec PyProof.Rows L2
section
variable {prog : Program} {w : World} {A : Around} {E : Value → Shared → Prop} {s : Shared} {z TI TO T i1 i2 S : Addr} {f : Bool} {oT : Obj} {fp1 fp2 : List Addr} {n1 n2 i : Nat} {P1 P2 : Nat → Value → Prop} {St1 St2 : Nat → Heap → Prop}
def ZlSt (z TI TO i1 i2 S : Addr) (h : Heap) : Prop := IsTupOf2 h TI (.ref i1) (.ref i2) ∧
  ((IsZip h z TI TO .none ∧ ∃ a b, IsTupOf2 h TO a b) ∨ ∃ T f oT, IsZipHeld h z TI TO T f ∧ h.get? T = some oT ∧ T ≠ z ∧ T ≠ i1 ∧ T ≠ i2 ∧ T ≠ S)
theorem ZlSt.at {h h' : Heap} (st : ZlSt z TI TO i1 i2 S h) (h1 : TI ≠ S) (h2 : z ≠ S) (h3 : TO ≠ S) (k : ∀ b o, b ≠ S → h.get? b = some o → h'.get? b = some o) : ZlSt z TI TO i1 i2 S h' := by
  obtain ⟨hTI, ⟨hz, a, b, hTO⟩ | ⟨T, f, oT, hz, hT, e1, e2, e3, e4⟩⟩ := st
  · exact ⟨k _ _ h1 hTI, .inl ⟨k _ _ h2 hz, a, b, k _ _ h3 hTO⟩⟩
  · exact ⟨k _ _ h1 hTI, .inr ⟨T, f, oT, k _ _ h2 hz, k _ _ e4 hT, e1, e2, e3, e4⟩⟩
end
end Pu
set_option Elab.async false
set_option linter.all false
set_option maxRecDepth 100000
set_option maxHeartbeats 4000000
namespace Pu
open PySem PySem.Spec PyProof.Rows L2
def IsRowS (h : Heap) (v : Value) (x : Str) : Prop := ∃ (a : Addr) (o : Obj) (t : Tok) (r : List Value) (n : Nat), v = .ref a ∧ h.get? a = some o ∧ o.cls = .type "tuple" ∧ o.data = .seq (Value.str x t :: r).toArray n
theorem IsRowS.keeps {h h' : Heap} {v : Value} {x : Str} (r : IsRowS h v x) (k : ∀ b o, h.get? b = some o → o.cls = .type "tuple" → h'.get? b = some o) : IsRowS h' v x := by
  obtain ⟨a, o, t, rr, n, e, h1, h2, h3⟩ := r
  exact ⟨a, o, t, rr, n, e, k a o h1 h2, h2, h3⟩
inductive RwAt (K : PySem.W.Frag) (H : Hp) : List V → List Str → Prop
  | nil : RwAt K H [] []
  | cons {t : Addr} {x : Str} {r : List V} {xs : List V} {ks : List Str} : SqT K H t (.str x :: r) → RwAt K H xs ks → RwAt K H (.ref t :: xs) (x :: ks)
theorem RwAt.get {K : PySem.W.Frag} {H : Hp} {xs : List V} {ks : List Str} (h : RwAt K H xs ks) : ∀ {i : Nat} {x : V}, xs[i]? = some x → ∃ t k r, x = .ref t ∧ ks[i]? = some k ∧ SqT K H t (.str k :: r) := by
  induction h with
  | nil => intro i x h; simp at h
  | cons a b ih =>
    intro i x h
    cases i with
    | zero => cases h; exact ⟨_, _, _, rfl, rfl, a⟩
    | succ i => simpa using ih (by simpa using h)
theorem RwAt.length {K : PySem.W.Frag} {H : Hp} {xs : List V} {ks : List Str} (h : RwAt K H xs ks) : xs.length = ks.length := by
  induction h with
  | nil => rfl
  | cons a b ih => rw [List.length_cons, List.length_cons, ih]
section
open Classical in
end
end Pu
set_option Elab.async false
set_option linter.all false
set_option maxRecDepth 100000
set_option maxHeartbeats 2000000
namespace Pu
open PySem PySem.Spec PyProof.Rows L2
end Pu
set_option Elab.async false
set_option linter.all false
set_option maxRecDepth 100000
set_option maxHeartbeats 2000000
namespace Pu
open PySem PySem.Spec PyProof.Rows L2
def othV (C : Str) : Val → Bool
  | .obj C' _ _ => decide (C' = C)
  | .tup _ | .str _ | .non => true
  | _ => false
def blTo (ne : Bool) (m : M RV) : M Bool := (noRs m).bind fun y => (M.rd y).bind fun b => match b with
  | .bl b => M.ret (if ne then !b else b)
  | _ => M.bad
def mCmpT (ne : Bool) (C : Str) (f : M RV) (ma mb : M RV) : M Bool := ma.bind fun r => mb.bind fun s => (M.rd r).bind fun v => (M.rd s).bind fun w => match v with
  | .obj C' _ _ => if C' = C ∧ othV C w = true then blTo ne (runF [true, false] f [r, s]) else M.bad
  | _ => M.bad
def neB (K : PySem.W.Frag) (C : Str) : Bool := (match PySem.W.findIn K (.ref (He.ga K C)) "__ne__" with
    | some (some (.builtin id)) => id == "object.__ne__"
    | _ => false) && (match PySem.W.mroIn K (He.ga K C) (.type "object") with
    | some b => b
    | none => false)
end Pu
set_option Elab.async false
set_option linter.all false
set_option maxRecDepth 100000
set_option maxHeartbeats 2000000
namespace Pu
open PySem PySem.Spec PyProof.Rows L2
end Pu
namespace Pu
open PySem PySem.Spec PyProof.Rows L2
end Pu
set_option Elab.async false
set_option linter.all false
set_option maxRecDepth 100000
set_option maxHeartbeats 2000000
namespace Pu
open PySem PySem.Spec PyProof.Rows L2
section
variable {X : Cx} {W : WX} {np k : Nat} {st : Stmt} {rest a b : List Stmt} {ma mb : S} {x c tg : Expr} {m : M RV} {mc : M Bool} {mg : Val → M Unit} {pos : Pos}
structure Far (F H : Hp) (e : Ev) (σ : Sig) (p : Addr) (o : HO) : Prop where
  at_ : H p = some o
  nf : F p = none
  no : ¬ Own e σ p
theorem Far.go {K : PySem.W.Frag} {n : Nat} {F F' H H' : Hp} {e e' : Ev} {σ σ' : Sig} {p : Addr} {o : HO} (f : Far F H e σ p o) (ho : ∀ ps, o ≠ .tbl ps) (C : Cur K (bg n F H e σ) F' H' e' σ') : Far F' H' e' σ' p o := by
  have nm : ¬ (bg n F H e σ).mine p := fun z => by
    rcases z with z | z
    · exact f.no z
    · have z : H p = none := z
      rw [f.at_] at z; cases z
  refine ⟨C.post.fr p o f.at_ f.no ho, ?_, fun z => nm (C.own p z)⟩
  refine Classical.byContradiction fun q => ?_
  rcases C.post.nw p q with z | z
  · exact z f.nf
  · exact nm z
end
end Pu
set_option Elab.async false
set_option linter.all false
set_option maxRecDepth 100000
set_option maxHeartbeats 4000000
namespace Pu
open PySem PySem.Spec PyProof.Rows L2
end Pu
set_option Elab.async false
set_option linter.all false
set_option maxRecDepth 100000
set_option maxHeartbeats 4000000
namespace Pu
open PySem PySem.Spec PyProof.Rows L2
end Pu
set_option Elab.async false
set_option linter.all false
set_option maxRecDepth 100000
set_option maxHeartbeats 4000000
namespace Pu
open PySem PySem.Spec PyProof.Rows L2
end Pu
set_option Elab.async false
set_option linter.all false
set_option maxRecDepth 100000
set_option maxHeartbeats 2000000
namespace Pu
open PySem PySem.Spec PyProof.Rows L2
open Evl (Ex EvL EvA EvT)
end Pu
set_option Elab.async false
set_option linter.all false
set_option maxRecDepth 100000
set_option maxHeartbeats 4000000
namespace Pu
open PySem PySem.Spec PyProof.Rows L2
end Pu
set_option Elab.async false
set_option linter.all false
set_option maxRecDepth 100000
set_option maxHeartbeats 4000000
namespace Pu
open PySem PySem.Spec PyProof.Rows L2
end Pu
set_option Elab.async false
set_option linter.all false
set_option maxRecDepth 100000
set_option maxHeartbeats 4000000
namespace Pu
open PySem PySem.Spec PyProof.Rows L2
open Evl (Ex EvL EvA EvT)
end Pu
set_option Elab.async false
set_option linter.all false
set_option maxRecDepth 100000
set_option maxHeartbeats 4000000
namespace Pu
open PySem PySem.Spec PyProof.Rows L2
open Evl (Ex EvL EvA EvT)
end Pu
set_option Elab.async false
set_option linter.all false
set_option maxRecDepth 100000
set_option maxHeartbeats 4000000
namespace Pu
open PySem PySem.Spec PyProof.Rows L2
open Evl (Ex EvL EvA EvT)
end Pu
set_option Elab.async false
set_option linter.all false
set_option maxRecDepth 100000
set_option maxHeartbeats 4000000
namespace Pu
open PySem PySem.Spec PyProof.Rows L2
end Pu
set_option Elab.async false
set_option linter.all false
set_option maxRecDepth 100000
set_option maxHeartbeats 4000000
namespace Pu
open PySem PySem.Spec PyProof.Rows L2
end Pu
set_option Elab.async false
set_option linter.all false
set_option maxRecDepth 100000
set_option maxHeartbeats 4000000
namespace Pu
open PySem PySem.Spec PyProof.Rows L2
end Pu
set_option Elab.async false
set_option linter.all false
set_option maxRecDepth 100000
set_option maxHeartbeats 4000000
namespace Pu
open PySem PySem.Spec PyProof.Rows L2
open Evl (Ex EvL EvA EvT)
end Pu
set_option Elab.async false
set_option linter.all false
set_option maxRecDepth 100000
set_option maxHeartbeats 4000000
namespace Pu
open PySem PySem.Spec PyProof.Rows L2
structure ThingAt (h : Heap) (a C : Addr) (n : Int) : Prop where
  ex : ∃ dx mA t ob r k tk, ObjM h a dx C mA ∧ mA "parts" = some (.ref t) ∧ h.get? t = some ob ∧ ob.cls = .type "tuple" ∧ ob.data = .seq (Value.int n tk :: r).toArray k
theorem ThingAt.keeps {h h' : Heap} {a C : Addr} {n : Int} (T : ThingAt h a C n) (k : ∀ b o, h.get? b = some o → h'.get? b = some o) : ThingAt h' a C n := by
  obtain ⟨dx, mA, t, ob, r, j, tk, O, e, h1, h2, h3⟩ := T.ex
  exact ⟨dx, mA, t, ob, r, j, tk, ⟨k _ _ O.obj, O.ns.keeps k, O.ne⟩, e, k _ _ h1, h2, h3⟩
def preR : Str := "Rule with step "
def txR (n : Int) : Str := preR ++ Str.ofString (toString n)
def RuleAt (K : PySem.W.Frag) (H : Hp) (u : V) (n : Int) : Prop := ∃ o dx fs t us, u = .ref o ∧ H o = some (.ins (He.ga K "Rule") dx fs) ∧ fs.lookup ("parts" : Str) = some (V.ref t) ∧ SqT K H t (.int n :: us) ∧ n.natAbs.log2 < 1900 ∧ (txR n).length ≤ 10000
inductive ShwX (K : PySem.W.Frag) (H : Hp) : V → Str → Prop
  | own {u : V} {n : Int} : RuleAt K H u n → ShwX K H u (txR n)
  | lst {l : Addr} {u : V} {n : Int} : SqL K H l [u] → RuleAt K H u n → ShwX K H (.ref l) (listText [txR n])
  | tup {l : Addr} {u : V} {n : Int} : SqT K H l [u] → RuleAt K H u n → ShwX K H (.ref l) (tupleText [txR n])
def ShwS (K : PySem.W.Frag) (H : Hp) (u : V) (x : Str) : Prop := Shw K H u x ∨ ShwX K H u x
end Pu
set_option Elab.async false
set_option linter.all false
set_option maxRecDepth 100000
set_option maxHeartbeats 4000000
namespace Pu
open PySem PySem.Spec PyProof.Rows L2
open Evl (Ex Ev EvL EvA EvT)
def TextS (K : PySem.W.Frag) (H : Hp) (d : Option Addr) (C : Str) (x : Str) : Prop := if C = ("Broken" : Str) then ∃ u v, FieldAt H d (some "index") u ∧ FieldAt H d (some "shown") v ∧ ∀ H' p, Ex H H' → H' p = some (.tup [u, v]) → ShwS K H' (.ref p) x else match fldG C with
  | none => x = ""
  | some f => ∃ u, FieldAt H d (some f) u ∧ ∀ H', Ex H H' → ShwS K H' u x
section
variable {K : PySem.W.Frag} {D a : Addr} {d : Option Addr} {σ : Sig} {H : Hp}
theorem TextS.ex {C x : Str} {H' : Hp} (h : TextS K H d C x) (e : Ex H H') : TextS K H' d C x := by
  unfold TextS at h ⊢
  by_cases hb : C = ("Broken" : Str)
  · rw [if_pos hb] at h ⊢
    obtain ⟨u, v, h1, h2, h3⟩ := h
    exact ⟨u, v, h1.ex e, h2.ex e, fun H2 p e2 g => h3 H2 p (e.trans e2) g⟩
  · rw [if_neg hb] at h ⊢
    have h2 := h
    cases z : fldG C with
    | none => rw [z] at h2; exact h2
    | some f =>
      rw [z] at h2
      obtain ⟨u, h3, h4⟩ := h2
      exact ⟨u, h3.ex e, fun H2 e2 => h4 H2 (e.trans e2)⟩
end
end Pu
set_option Elab.async false
set_option linter.all false
set_option maxRecDepth 100000
set_option maxHeartbeats 4000000
namespace Pu
open PySem PySem.Spec PyProof.Rows L2
def IsLotV (h : Heap) (v : Value) (ns : List Int) : Prop := ∃ (a : Addr) (o : Obj) (vs : List Value) (n : Nat), v = .ref a ∧ h.get? a = some o ∧ o.cls = .type "tuple" ∧ o.data = .seq vs.toArray n ∧ ReadsAll h vs (ns.map .int) [] ∧ vs.length = ns.length ∧ vs.length ≤ sizeLine
theorem IsLotV.keeps {h h' : Heap} {v : Value} {ns : List Int} (r : IsLotV h v ns) (k : ∀ b o, h.get? b = some o → h'.get? b = some o) : IsLotV h' v ns := by
  obtain ⟨a, o, vs, n, e, h1, h2, h3, h4, h5, h6⟩ := r
  exact ⟨a, o, vs, n, e, k a o h1, h2, h3, ReadsAll.keeps k h4, h5, h6⟩
inductive LtAt (K : PySem.W.Frag) (H : Hp) : List V → List (List Int) → Prop where
  | nil : LtAt K H [] []
  | cons {t : Addr} {l : List Int} {us : List V} {ls : List (List Int)} (a : SqT K H t (l.map V.int)) (b : LtAt K H us ls) : LtAt K H (.ref t :: us) (l :: ls)
theorem LtAt.length {K : PySem.W.Frag} {H : Hp} : ∀ {us : List V} {ls : List (List Int)}, LtAt K H us ls → us.length = ls.length
  | _, _, .nil => rfl
  | _, _, .cons a b => by rw [List.length_cons, List.length_cons, b.length]
end Pu
set_option Elab.async false
set_option linter.all false
set_option maxRecDepth 100000
set_option maxHeartbeats 4000000
namespace Pu
open PySem PySem.Spec PyProof.Rows L2
end Pu
set_option Elab.async false
set_option linter.all false
set_option maxRecDepth 100000
set_option maxHeartbeats 4000000
namespace Pu
open PySem PySem.Spec PyProof.Rows L2
end Pu
set_option Elab.async false
set_option linter.all false
set_option maxRecDepth 100000
set_option maxHeartbeats 4000000
namespace Pu
open PySem PySem.Spec PyProof.Rows L2
def mCMK (C : Str) (ms : List Bool) (mf mo : M RV) (mk : M (List RV)) (n : Nat) (g : List Nat) : M RV := mo.bind fun r => (M.rd r).bind fun v => match v with
  | .glo x => if x = C then mk.bind fun zs => if zs.length = n then runF ms mf (.dat (.glo C) :: sel g zs) else M.bad else M.bad
  | _ => M.bad
def mUpper (mo : M RV) : M RV := mo.bind fun r => (M.rd r).bind fun v => match v with
  | .str z => if z.length ≤ 5592405 then mV (.str (Txt.upper z)) else M.bad
  | _ => M.bad
def oNotInS (x y : Val) : M RV := match x, y with
  | .str i, .str j => mV (.bl (!inS i j))
  | _, _ => M.bad
end Pu
set_option Elab.async false
set_option linter.all false
set_option maxRecDepth 100000
set_option maxHeartbeats 4000000
namespace Pu
open PySem PySem.Spec PyProof.Rows L2
end Pu
set_option Elab.async false
set_option linter.all false
set_option maxRecDepth 100000
set_option maxHeartbeats 4000000
namespace Pu
open PySem PySem.Spec PySem.Calls PyProof.Rows PyProof.V PySem.W
end Pu
namespace Pu
open PySem PySem.Spec PyProof.Rows L2
end Pu
namespace Pu
open PySem PySem.Spec PyProof.Rows L2
end Pu
set_option Elab.async false
set_option linter.all false
set_option maxRecDepth 100000
set_option maxHeartbeats 4000000
namespace Pu.Q
open PySem PySem.Spec PyProof.Rows L2 Pu
def mostTurns : Nat := 100000
def top (i : Nat) : Stmt := PySem.Challenge.pw_discwarden_k03_whole_texts_of_rules.main.body.getD i (.Pass ⟨0, 0, 0, 0⟩)
def sub (i j : Nat) : Stmt := match top i with
  | .ClassDef _ _ _ b _ _ _ _ _ _ _ => b.getD j (.Pass ⟨0, 0, 0, 0⟩)
  | _ => .Pass ⟨0, 0, 0, 0⟩
def isT : List (Tg × Tg × Bool) := [(.inl "NoneType", .inl "int", false), (.inl "bool", .inl "int", true), (.inl "int", .inl "int", true), (.inl "str", .inl "int", false), (.inl "list", .inl "int", false), (.inl "tuple", .inl "int", false), (.inl "dict", .inl "int", false), (.inr "Rule", .inl "int", false), (.inl "NoneType", .inl "str", false), (.inl "bool", .inl "str", false), (.inl "int", .inl "str", false), (.inl "str", .inl "str", true), (.inl "list", .inl "str", false), (.inl "tuple", .inl "str", false), (.inl "dict", .inl "str", false), (.inr "Rule", .inl "str", false), (.inl "NoneType", .inl "bool", false), (.inl "bool", .inl "bool", true), (.inl "int", .inl "bool", false), (.inl "str", .inl "bool", false), (.inl "list", .inl "bool", false), (.inl "tuple", .inl "bool", false), (.inl "dict", .inl "bool", false), (.inr "Rule", .inl "bool", false), (.inl "NoneType", .inr "Rule", false), (.inl "bool", .inr "Rule", false), (.inl "int", .inr "Rule", false), (.inl "str", .inr "Rule", false), (.inl "list", .inr "Rule", false), (.inl "tuple", .inr "Rule", false), (.inl "dict", .inr "Rule", false), (.inr "Rule", .inr "Rule", true)]
abbrev s_number_in : Stmt := top 26
def d_number_in : He5.DefA := ⟨fun K => He.ga K "number_in", "number_in", "number_in", defArgs s_number_in, defBody s_number_in, defScope s_number_in, [], []⟩
def b_number_in : S := (mSeq (mIf (mOr (mNot (mTru (mChain oLe oLe (mV (.int 1)) (mCB fLen (mCons (mVar 0) mNil)) (mV (.int 60))))) (mNot (mTru (mCB fAll (mCons (mComp [2] (mItemsS (mVar 0)) (gN 2) mYes (mBin oInS (mVar 2) (mV (.str "0123456789")))) mNil))))) (mRet (mV .non)) mSkip) (mSeq (mIf (mAnd (mTru (mBin oEq (mBin oIx (mVar 0) (mV (.int 0))) (mV (.str "0")))) (mTru (mBin oNe (mVar 0) (mV (.str "0"))))) (mRet (mV .non)) mSkip) (mRet (mIfE (mTru (mBin oLe (mCB fIntS (mCons (mVar 0) mNil)) (mVar 1))) (mCB fIntS (mCons (mVar 0) mNil)) (mV .non)))))
def den_number_in : M RV := fnDen 2 3 b_number_in
abbrev s_is_integer : Stmt := top 23
def d_is_integer : He5.DefA := ⟨fun K => He.ga K "is_integer", "is_integer", "is_integer", defArgs s_is_integer, defBody s_is_integer, defScope s_is_integer, [], []⟩
def b_is_integer : S := (mRet (mAndV (mCB (fIsi isT) (mCons (mVar 0) (mCons (mV (.ty "int")) mNil))) (mNotV (mCB (fIsi isT) (mCons (mVar 0) (mCons (mV (.ty "bool")) mNil))))))
def den_is_integer : M RV := fnDen 1 1 b_is_integer
abbrev s_is_between : Stmt := top 24
def d_is_between : He5.DefA := ⟨fun K => He.ga K "is_between", "is_between", "is_between", defArgs s_is_between, defBody s_is_between, defScope s_is_between, [], []⟩
def b_is_between : S := (mRet (mAndV (mCall [false] den_is_integer (mCons (mVar 0) mNil) []) (mChain oLe oLe (mVar 1) (mVar 0) (mVar 2))))
def den_is_between : M RV := fnDen 3 3 b_is_between
abbrev s_check_number_k02 : Stmt := top 25
def d_check_number_k02 : He5.DefA := ⟨fun K => He.ga K "check_number", "check_number", "check_number", defArgs s_check_number_k02, defBody s_check_number_k02, defScope s_check_number_k02, [], []⟩
def b_check_number_k02 : S := (mIf (mNot (mTru (mCall [false, false, false] den_is_between (mCons (mVar 0) (mCons (mVar 1) (mCons (mVar 2) mNil))) []))) (mRaise "InvalidNumber" ["given"] (mCons (mVar 0) mNil)) mSkip)
def den_check_number_k02 : M RV := fnDen 3 3 b_check_number_k02
abbrev s_Rule____init___k02 : Stmt := sub 30 0
def d_Rule____init___k02 : He5.DefA := ⟨fun K => He.ma K (He.ga K "Rule") "__init__", "__init__", "Rule.__init__", defArgs s_Rule____init___k02, defBody s_Rule____init___k02, defScope s_Rule____init___k02, [], []⟩
def b_Rule____init___k02 : S := (mSeq (mEx (mCall [false, false, false] den_check_number_k02 (mCons (mVar 1) (mCons (mV (.int 1)) (mCons (mV (.int 1000000000000)) mNil))) [])) (mSeq (mIf (mOr (mNot (mTru (mCB (fIsi isT) (mCons (mVar 2) (mCons (mV (.ty "str")) mNil))))) (mTru (mBin (oInG true) (mVar 2) (mV (.tup [(.str "next"), (.str "last"), (.str "near")]))))) (mRaise "InvalidSetting" ["given"] (mCons (mVar 2) mNil)) mSkip) (mSeq (mEx (mCall [false, false, false] den_check_number_k02 (mCons (mVar 3) (mCons (mVar 1) (mCons (mV (.int 1000000000000000000)) mNil))) [])) (mSeq (mEx (mCall [false, false, false] den_check_number_k02 (mCons (mVar 4) (mCons (mV (.int 1)) (mCons (mV (.int 1000000000000000000)) mNil))) [])) (mSeq (mPut "Rule" "limit" (mVar 0) (mVar 3)) (mPut "Rule" "parts" (mVar 0) (mTup (mCons (mVar 1) (mCons (mVar 2) (mCons (mVar 3) (mCons (mVar 4) mNil)))))))))))
def den_Rule____init___k02 : M RV := fnDen 5 5 b_Rule____init___k02
abbrev s_Rule__read : Stmt := sub 30 1
def d_Rule__read : He5.DefA := ⟨fun K => gC K "Rule" "read", "read", "Rule.read", defArgs s_Rule__read, defBody s_Rule__read, defScope s_Rule__read, [], []⟩
def b_Rule__read : S := (mSeq (mSet 2 (mIfE (mTru (mCB (fIsi isT) (mCons (mVar 1) (mCons (mV (.ty "str")) mNil)))) (mSplit (mVar 1) (mV (.str " "))) (mLst mNil))) (mSeq (mIf (mOr (mTru (mBin oNe (mCB fLen (mCons (mVar 2) mNil)) (mV (.int 7)))) (mTru (mBin oNe (mLst (mCons (mBin oIx (mVar 2) (mV (.int 0))) (mCons (mBin oIx (mVar 2) (mV (.int 3))) (mCons (mBin oIx (mVar 2) (mV (.int 5))) mNil)))) (mLst (mCons (mV (.str "step")) (mCons (mV (.str "limit")) (mCons (mV (.str "pause")) mNil))))))) (mRaise "InvalidText" ["given"] (mCons (mVar 1) mNil)) mSkip) (mSeq (mSet 3 (mLst (mCons (mCall [false, false] den_number_in (mCons (mBin oIx (mVar 2) (mV (.int 1))) (mCons (mV (.int 1000000000000)) mNil)) []) (mCons (mCall [false, false] den_number_in (mCons (mBin oIx (mVar 2) (mV (.int 4))) (mCons (mV (.int 1000000000000000000)) mNil)) []) (mCons (mCall [false, false] den_number_in (mCons (mBin oIx (mVar 2) (mV (.int 6))) (mCons (mV (.int 1000000000000000000)) mNil)) []) mNil))))) (mSeq (mIf (mOr (mTru (mBin (oInG false) (mV .non) (mVar 3))) (mOr (mTru (mBin (oInG true) (mBin oIx (mVar 2) (mV (.int 2))) (mV (.tup [(.str "next"), (.str "last"), (.str "near")])))) (mOr (mNot (mTru (mChain oLe oLe (mV (.int 1)) (mBin oIx (mVar 3) (mV (.int 0))) (mBin oIx (mVar 3) (mV (.int 1)))))) (mTru (mBin oLt (mBin oIx (mVar 3) (mV (.int 2))) (mV (.int 1))))))) (mRaise "InvalidText" ["given"] (mCons (mVar 1) mNil)) mSkip) (mRet (mMakeV "Rule" [false, false, false, false] den_Rule____init___k02 (mVar 0) (mCons (mBin oIx (mVar 3) (mV (.int 0))) (mCons (mBin oIx (mVar 2) (mV (.int 2))) (mCons (mBin oIx (mVar 3) (mV (.int 1))) (mCons (mBin oIx (mVar 3) (mV (.int 2))) mNil))))))))))
def den_Rule__read : M RV := fnDen 2 4 b_Rule__read
abbrev s_Rule__step : Stmt := sub 30 2
def d_Rule__step : He5.DefA := ⟨fun K => gA K "Rule" "step", "step", "Rule.step", defArgs s_Rule__step, defBody s_Rule__step, defScope s_Rule__step, [], []⟩
def b_Rule__step : S := (mRet (mBin oIx (mGet "Rule" "parts" (mVar 0)) (mV (.int 0))))
def den_Rule__step : M RV := fnDen 1 1 b_Rule__step
abbrev s_Rule__setting : Stmt := sub 30 3
def d_Rule__setting : He5.DefA := ⟨fun K => gA K "Rule" "setting", "setting", "Rule.setting", defArgs s_Rule__setting, defBody s_Rule__setting, defScope s_Rule__setting, [], []⟩
def b_Rule__setting : S := (mRet (mBin oIx (mGet "Rule" "parts" (mVar 0)) (mV (.int 1))))
def den_Rule__setting : M RV := fnDen 1 1 b_Rule__setting
abbrev s_Rule__pause : Stmt := sub 30 4
def d_Rule__pause : He5.DefA := ⟨fun K => gA K "Rule" "pause", "pause", "Rule.pause", defArgs s_Rule__pause, defBody s_Rule__pause, defScope s_Rule__pause, [], []⟩
def b_Rule__pause : S := (mRet (mBin oIx (mGet "Rule" "parts" (mVar 0)) (mV (.int 3))))
def den_Rule__pause : M RV := fnDen 1 1 b_Rule__pause
abbrev s_Rule__text : Stmt := sub 30 5
def d_Rule__text : He5.DefA := ⟨fun K => gA K "Rule" "text", "text", "Rule.text", defArgs s_Rule__text, defBody s_Rule__text, defScope s_Rule__text, [], []⟩
def b_Rule__text : S := (mRet (mFs [(mV (.str "step ")), (mFmt (mProp "Rule" den_Rule__step (mVar 0))), (mV (.str " ")), (mFmt (mProp "Rule" den_Rule__setting (mVar 0))), (mV (.str " limit ")), (mFmt (mGet "Rule" "limit" (mVar 0))), (mV (.str " pause ")), (mFmt (mProp "Rule" den_Rule__pause (mVar 0)))]))
def den_Rule__text : M RV := fnDen 1 1 b_Rule__text
abbrev s__law_figure : Stmt := top 42
def d__law_figure : He5.DefA := ⟨fun K => He.ga K "_law_figure", "_law_figure", "_law_figure", defArgs s__law_figure, defBody s__law_figure, defScope s__law_figure, [], []⟩
def b__law_figure : S := (mSeq (mIf (mOr (mTru (mBin oEq (mVar 0) (mV (.str "")))) (mOr (mTru (mBin oGt (mCB fLen (mCons (mVar 0) mNil)) (mV (.int 30)))) (mTru (mBin oNe (mComp [1] (mItemsS (mVar 0)) (gN 1) (mTru (mBin oNotInS (mVar 1) (mV (.str "0123456789")))) (mVar 1)) (mLst mNil))))) (mRet (mNeg (mV (.int 1)))) mSkip) (mRet (mIfE (mOr (mTru (mBin oEq (mVar 0) (mV (.str "0")))) (mTru (mBin oNe (mBin oIx (mVar 0) (mV (.int 0))) (mV (.str "0"))))) (mCB fIntS (mCons (mVar 0) mNil)) (mNeg (mV (.int 1))))))
def den__law_figure : M RV := fnDen 1 2 b__law_figure
abbrev s__law_read : Stmt := top 43
def d__law_read : He5.DefA := ⟨fun K => He.ga K "_law_read", "_law_read", "_law_read", defArgs s__law_read, defBody s__law_read, defScope s__law_read, [], []⟩
def b__law_read : S := (mSeq (mSet 1 (mIfE (mTru (mCB (fIsi isT) (mCons (mVar 0) (mCons (mV (.ty "str")) mNil)))) (mSplit (mVar 0) (mV (.str " "))) (mLst mNil))) (mSeq (mIf (mOr (mTru (mBin oNe (mCB fLen (mCons (mVar 1) mNil)) (mV (.int 7)))) (mTru (mBin oNe (mLst (mCons (mBin oIx (mVar 1) (mV (.int 0))) (mCons (mBin oIx (mVar 1) (mV (.int 3))) (mCons (mBin oIx (mVar 1) (mV (.int 5))) mNil)))) (mLst (mCons (mV (.str "step")) (mCons (mV (.str "limit")) (mCons (mV (.str "pause")) mNil))))))) (mRet (mLst mNil)) mSkip) (mSeq (mSet 2 (mLst (mCons (mCall [false] den__law_figure (mCons (mBin oIx (mVar 1) (mV (.int 1))) mNil) []) (mCons (mBin oIx (mVar 1) (mV (.int 2))) (mCons (mCall [false] den__law_figure (mCons (mBin oIx (mVar 1) (mV (.int 4))) mNil) []) (mCons (mCall [false] den__law_figure (mCons (mBin oIx (mVar 1) (mV (.int 6))) mNil) []) mNil)))))) (mSeq (mIf (mOr (mTru (mBin (oInG true) (mBin oIx (mVar 2) (mV (.int 1))) (mLst (mCons (mV (.str "next")) (mCons (mV (.str "last")) (mCons (mV (.str "near")) mNil)))))) (mNot (mTru (mChain oLe oLe (mV (.int 1)) (mBin oIx (mVar 2) (mV (.int 0))) (mBin oPow (mV (.int 10)) (mV (.int 12))))))) (mRet (mLst mNil)) mSkip) (mRet (mIfE (mAnd (mTru (mChain oLe oLe (mBin oIx (mVar 2) (mV (.int 0))) (mBin oIx (mVar 2) (mV (.int 2))) (mBin oPow (mV (.int 10)) (mV (.int 18))))) (mTru (mChain oLe oLe (mV (.int 1)) (mBin oIx (mVar 2) (mV (.int 3))) (mBin oPow (mV (.int 10)) (mV (.int 18)))))) (mVar 2) (mLst mNil)))))))
def den__law_read : M RV := fnDen 1 3 b__law_read
abbrev s__law_sip : Stmt := top 33
def d__law_sip : He5.DefA := ⟨fun K => He.ga K "_law_sip", "_law_sip", "_law_sip", defArgs s__law_sip, defBody s__law_sip, defScope s__law_sip, [], []⟩
def b__law_sip : S := (mSeq (mAsg (gSb (mVar 0) (mV (.int 2))) (mBin oAdd (mBin oIx (mVar 0) (mV (.int 2))) (mV (.int 1)))) (mSeq (mIf (mTru (mBin oGt (mBin oIx (mVar 0) (mV (.int 0))) (mV (.int 0)))) (mSeq (mSet 2 (mBin oMod (mCB fInt (mCons (mBin oIx (mVar 0) (mV (.int 0))) mNil)) (mVar 1))) (mSeq (mAsg (gSb (mVar 0) (mV (.int 0))) (mBin oDiv (mCB fInt (mCons (mBin oIx (mVar 0) (mV (.int 0))) mNil)) (mVar 1))) (mRet (mVar 2)))) mSkip) (mSeq (mAsg (gSb (mVar 0) (mV (.int 1))) (mBin oMod (mCB fInt (mCons (mBin oAdd (mBin oAdd (mBin oMul (mBin oIx (mVar 0) (mV (.int 1))) (mV (.int 40692))) (mBin oMul (mV (.int 1009)) (mBin oIx (mVar 0) (mV (.int 2))))) (mV (.int 37))) mNil)) (mV (.int 2147483399)))) (mRet (mBin oMod (mCB fInt (mCons (mBin oDiv (mBin oIx (mVar 0) (mV (.int 1))) (mV (.int 64))) mNil)) (mVar 1))))))
def den__law_sip : M RV := fnDen 2 3 b__law_sip
abbrev s__law_made_k03 : Stmt := top 37
def d__law_made_k03 : He5.DefA := ⟨fun K => He.ga K "_law_made", "_law_made", "_law_made", defArgs s__law_made_k03, defBody s__law_made_k03, defScope s__law_made_k03, [], []⟩
def b__law_made_k03 : S := (mRet (mMake "Rule" [false, false, false, false] den_Rule____init___k02 (mCons (mBin oIx (mVar 0) (mV (.int 0))) (mCons (mBin oIx (mVar 0) (mV (.int 1))) (mCons (mBin oIx (mVar 0) (mV (.int 2))) (mCons (mBin oIx (mVar 0) (mV (.int 3))) mNil)))) []))
def den__law_made_k03 : M RV := fnDen 1 1 b__law_made_k03
abbrev s__law_pick : Stmt := top 34
def d__law_pick : He5.DefA := ⟨fun K => He.ga K "_law_pick", "_law_pick", "_law_pick", defArgs s__law_pick, defBody s__law_pick, defScope s__law_pick, [], []⟩
def b__law_pick : S := (mRet (mBin oIx (mVar 1) (mCall [true, false] den__law_sip (mCons (mVar 0) (mCons (mCB fLen (mCons (mVar 1) mNil)) mNil)) [])))
def den__law_pick : M RV := fnDen 2 2 b__law_pick
abbrev s__law_odd : Stmt := top 38
def d__law_odd : He5.DefA := ⟨fun K => He.ga K "_law_odd", "_law_odd", "_law_odd", defArgs s__law_odd, defBody s__law_odd, defScope s__law_odd, [], []⟩
def b__law_odd : S := (mSeq (mSet 1 (mLst (mCons (mV .non) (mCons (mV (.bl true)) (mCons (mV (.bl false)) (mCons (mV (.int 0)) (mCons (mV (.int 1)) (mCons (mNeg (mV (.int 1))) (mCons (mV (.int 2)) (mCons (mBin oPow (mV (.int 10)) (mV (.int 30))) (mCons (mBin oAdd (mBin oPow (mV (.int 10)) (mV (.int 30))) (mV (.int 1))) (mCons (mV (.str "")) (mCons (mV (.str "next")) (mCons (mV (.str "step 1 next limit 1 pause 1")) (mCons (mTup mNil) (mCons (mTup (mCons (mV (.int 0)) mNil)) mNil)))))))))))))))) (mSeq (mSet 1 (mBin oAdd (mVar 1) (mLst (mCons (mTup (mCons (mV (.int 0)) (mCons (mV (.int 0)) (mCons (mV (.int 0)) mNil)))) (mCons (mTup (mCons (mV (.int 0)) (mCons (mV (.int 0)) (mCons (mV .non) mNil)))) (mCons (mTup (mCons (mV (.int 1)) (mCons (mV (.int 0)) (mCons (mV (.int 0)) mNil)))) (mCons (mLst (mCons (mV (.int 0)) (mCons (mV (.int 0)) (mCons (mV (.int 0)) mNil)))) (mCons mDct0 (mCons (mTup (mCons (mV (.int 0)) (mCons (mV (.int 0)) mNil))) (mCons (mTup (mCons (mV (.bl true)) (mCons (mV (.int 1)) (mCons (mV (.int 0)) mNil)))) (mCons (mTup (mCons (mV (.int 0)) (mCons (mV (.str "1")) (mCons (mV (.int 0)) mNil)))) (mCons (mTup (mCons (mV (.int 0)) (mCons (mV (.int 0)) (mCons (mV (.int 0)) (mCons (mV (.int 0)) mNil))))) (mCons (mTup (mCons (mTup (mCons (mV (.int 0)) (mCons (mV (.int 0)) (mCons (mV (.int 0)) mNil)))) mNil)) mNil))))))))))))) (mRet (mBin oIx (mVar 1) (mCall [true, false] den__law_sip (mCons (mVar 0) (mCons (mCB fLen (mCons (mVar 1) mNil)) mNil)) [])))))
def den__law_odd : M RV := fnDen 1 2 b__law_odd
abbrev s__law_bent_k03 : Stmt := top 44
def d__law_bent_k03 : He5.DefA := ⟨fun K => He.ga K "_law_bent", "_law_bent", "_law_bent", defArgs s__law_bent_k03, defBody s__law_bent_k03, defScope s__law_bent_k03, [], []⟩
def b__law_bent_k03 : S := (mSeq (mPar false [2, 3] (mCons (mProp "Rule" den_Rule__text (mCall [false] den__law_made_k03 (mCons (mVar 1) mNil) [])) (mCons (mCall [true, false] den__law_sip (mCons (mVar 0) (mCons (mV (.int 8)) mNil)) []) mNil))) (mSeq (mIf (mTru (mBin oLt (mVar 3) (mV (.int 3)))) (mSeq (mPar false [6, 7] (mCons (mCall [true, false] den__law_sip (mCons (mVar 0) (mCons (mBin oAdd (mCB fLen (mCons (mVar 2) mNil)) (mV (.int 1))) mNil)) []) (mCons (mCall [true, false] den__law_pick (mCons (mVar 0) (mCons (mV (.str " 0129p-\n,e")) mNil)) []) mNil))) (mRet (mBin oIx (mLst (mCons (mBin oAdd (mSl (mVar 2) mNoP (mPt (mVar 6))) (mSl (mVar 2) (mPt (mBin oAdd (mVar 6) (mV (.int 1)))) mNoP)) (mCons (mBin oAdd (mBin oAdd (mSl (mVar 2) mNoP (mPt (mVar 6))) (mVar 7)) (mSl (mVar 2) (mPt (mVar 6)) mNoP)) (mCons (mBin oAdd (mBin oAdd (mSl (mVar 2) mNoP (mPt (mVar 6))) (mVar 7)) (mSl (mVar 2) (mPt (mBin oAdd (mVar 6) (mV (.int 1)))) mNoP)) mNil)))) (mVar 3)))) mSkip) (mSeq (mIf (mTru (mBin oEq (mVar 3) (mV (.int 3)))) (mSeq (mSet 4 (mSplit (mVar 2) (mV (.str " ")))) (mSeq (mSet 5 (mCall [true, false] den__law_sip (mCons (mVar 0) (mCons (mCB fLen (mCons (mVar 4) mNil)) mNil)) [])) (mRet (mJoin (mV (.str " ")) (mIfE (mTru (mBin oEq (mCall [true, false] den__law_sip (mCons (mVar 0) (mCons (mV (.int 2)) mNil)) []) (mV (.int 0)))) (mBin oAdd (mSl (mVar 4) mNoP (mPt (mVar 5))) (mSl (mVar 4) (mPt (mBin oAdd (mVar 5) (mV (.int 1)))) mNoP)) (mBin oAdd (mBin oAdd (mSl (mVar 4) mNoP (mPt (mVar 5))) (mSl (mVar 4) (mPt (mVar 5)) (mPt (mBin oAdd (mVar 5) (mV (.int 1)))))) (mSl (mVar 4) (mPt (mVar 5)) mNoP))))))) mSkip) (mRet (mIfE (mTru (mBin oEq (mVar 3) (mV (.int 4)))) (mCall [true, false] den__law_pick (mCons (mVar 0) (mCons (mLst (mCons (mCall [true] den__law_odd (mCons (mVar 0) mNil) []) (mCons (mUpper (mVar 2)) (mCons (mBin oAdd (mV (.str " ")) (mVar 2)) (mCons (mBin oAdd (mVar 2) (mV (.str " "))) (mCons (mBin oAdd (mVar 2) (mV (.str "\n"))) (mCons (mBin oIx (mVar 1) (mV (.int 0))) mNil))))))) mNil)) []) (mVar 2))))))
def den__law_bent_k03 : M RV := fnDen 2 8 b__law_bent_k03
abbrev s__law_far : Stmt := top 35
def d__law_far : He5.DefA := ⟨fun K => He.ga K "_law_far", "_law_far", "_law_far", defArgs s__law_far, defBody s__law_far, defScope s__law_far, [], []⟩
def b__law_far : S := (mSeq (mIf (mTru (mBin oLe (mVar 1) (mBin oPow (mV (.int 10)) (mV (.int 6))))) (mRet (mBin oAdd (mV (.int 1)) (mCall [true, false] den__law_sip (mCons (mVar 0) (mCons (mVar 1) mNil)) []))) mSkip) (mSeq (mSet 2 (mCall [true, false] den__law_pick (mCons (mVar 0) (mCons (mLst (mCons (mV (.int 1)) (mCons (mV (.int 7)) (mCons (mBin oPow (mV (.int 10)) (mV (.int 3))) (mCons (mBin oPow (mV (.int 10)) (mV (.int 6))) (mCons (mBin oPow (mV (.int 10)) (mV (.int 9))) (mCons (mBin oPow (mV (.int 10)) (mV (.int 14))) (mCons (mBin oPow (mV (.int 10)) (mV (.int 21))) (mCons (mBin oPow (mV (.int 10)) (mV (.int 24))) mNil))))))))) mNil)) [])) (mRet (mBin oAdd (mV (.int 1)) (mBin oMod (mCB fInt (mCons (mBin oAdd (mBin oMul (mCall [true, false] den__law_sip (mCons (mVar 0) (mCons (mBin oPow (mV (.int 10)) (mV (.int 6))) mNil)) []) (mVar 2)) (mCall [true, false] den__law_sip (mCons (mVar 0) (mCons (mV (.int 997)) mNil)) [])) mNil)) (mVar 1))))))
def den__law_far : M RV := fnDen 2 3 b__law_far
abbrev s__law_plan : Stmt := top 36
def d__law_plan : He5.DefA := ⟨fun K => He.ga K "_law_plan", "_law_plan", "_law_plan", defArgs s__law_plan, defBody s__law_plan, defScope s__law_plan, [], []⟩
def b__law_plan : S := (mSeq (mSet 2 (mCall [true, false] den__law_pick (mCons (mVar 0) (mCons (mLst (mCons (mV (.int 1)) (mCons (mV (.int 2)) (mCons (mV (.int 3)) (mCons (mV (.int 5)) (mCons (mCall [true, false] den__law_far (mCons (mVar 0) (mCons (mVar 1) mNil)) []) mNil)))))) mNil)) [])) (mSeq (mSet 3 (mBin oAdd (mVar 2) (mCall [true, false] den__law_pick (mCons (mVar 0) (mCons (mLst (mCons (mV (.int 0)) (mCons (mV (.int 1)) (mCons (mV (.int 2)) (mCons (mV (.int 7)) (mCons (mCall [true, false] den__law_sip (mCons (mVar 0) (mCons (mBin oAdd (mBin oMul (mV (.int 3)) (mCB fMin2 (mCons (mVar 2) (mCons (mBin oPow (mV (.int 10)) (mV (.int 6))) mNil)))) (mV (.int 1))) mNil)) []) mNil)))))) mNil)) []))) (mRet (mLst (mCons (mVar 2) (mCons (mCall [true, false] den__law_pick (mCons (mVar 0) (mCons (mLst (mCons (mV (.str "next")) (mCons (mV (.str "last")) (mCons (mV (.str "near")) mNil)))) mNil)) []) (mCons (mVar 3) (mCons (mCall [true, false] den__law_pick (mCons (mVar 0) (mCons (mLst (mCons (mV (.int 1)) (mCons (mV (.int 1)) (mCons (mV (.int 2)) (mCons (mV (.int 3)) (mCons (mV (.int 8)) mNil)))))) mNil)) []) mNil))))))))
def den__law_plan : M RV := fnDen 2 4 b__law_plan
abbrev s_Rule____eq__ : Stmt := sub 30 6
def d_Rule____eq__ : He5.DefA := ⟨fun K => He.ma K (He.ga K "Rule") "__eq__", "__eq__", "Rule.__eq__", defArgs s_Rule____eq__, defBody s_Rule____eq__, defScope s_Rule____eq__, [], []⟩
def b_Rule____eq__ : S := (mRet (mAndV (mCB (fIsi isT) (mCons (mVar 1) (mCons (mV (.glo "Rule")) mNil))) (mBin oEq (mGet "Rule" "parts" (mVar 0)) (mGet "Rule" "parts" (mVar 1)))))
def den_Rule____eq__ : M RV := fnDen 2 2 b_Rule____eq__
abbrev s__law_right_k03 : Stmt := top 45
def d__law_right_k03 : He5.DefA := ⟨fun K => He.ga K "_law_right", "_law_right", "_law_right", defArgs s__law_right_k03, defBody s__law_right_k03, defScope s__law_right_k03, [], []⟩
def b__law_right_k03 : S := (mSeq (mFor (mRng1 (mV (.int 8))) (gN 1) (mSeq (mSet 2 (mCall [true, false] den__law_bent_k03 (mCons (mVar 0) (mCons (mCall [true, false] den__law_plan (mCons (mVar 0) (mCons (mBin oPow (mV (.int 10)) (mV (.int 12))) mNil)) []) mNil)) [])) (mSeq (mPar false [3, 4] (mCons (mErrA ["InvalidText", "InvalidNumber", "InvalidSetting"] (mCM "Rule" [false, false] den_Rule__read (mV (.glo "Rule")) (mCons (mVar 2) mNil))) (mCons (mCall [false] den__law_read (mCons (mVar 2) mNil) []) mNil))) (mSeq (mIf (mAnd (mTru (mBin oEq (mVar 4) (mLst mNil))) (mTru (mBin oNe (mCB fReprR (mCons (mVar 3) mNil)) (mCB fReprR (mCons (mLst (mCons (mV (.str "text")) (mCons (mVar 2) mNil))) mNil))))) (mRet (mV (.bl false))) mSkip) (mIf (mAnd (mTru (mBin oNe (mVar 4) (mLst mNil))) (mOr (mTru (mBin oNe (mBin oIx (mVar 3) (mV (.int 0))) (mV (.str "told")))) (mOr (mCmpT true "Rule" den_Rule____eq__ (mBin oIx (mVar 3) (mV (.int 1))) (mCall [false] den__law_made_k03 (mCons (mVar 4) mNil) [])) (mCmpT true "Rule" den_Rule____eq__ (mCMK "Rule" [false, false] den_Rule__read (mV (.glo "Rule")) (mCons (mVar 2) mNil) 1 [0]) (mCall [false] den__law_made_k03 (mCons (mVar 4) mNil) []))))) (mRet (mV (.bl false))) mSkip))))) (mRet (mV (.bl true))))
def den__law_right_k03 : M RV := fnDen 1 5 b__law_right_k03
abbrev s__law_flask : Stmt := top 32
def d__law_flask : He5.DefA := ⟨fun K => He.ga K "_law_flask", "_law_flask", "_law_flask", defArgs s__law_flask, defBody s__law_flask, defScope s__law_flask, [], []⟩
def b__law_flask : S := (mSeq (mSet 2 (mIfE (mTru (mBin oLt (mVar 1) (mCB fLen (mCons (mVar 0) mNil)))) (mCB fInt (mCons (mBin oIx (mVar 0) (mVar 1)) mNil)) (mBin oAdd (mBin oMul (mV (.int 67)) (mVar 1)) (mV (.int 19))))) (mSeq (mSet 3 (mBin oAdd (mV (.int 40009)) (mBin oMul (mV (.int 907)) (mVar 1)))) (mSeq (mFor (mItems (mSl (mVar 0) mNoP (mPt (mV (.int 8))))) (gN 4) (mSet 3 (mBin oMod (mCB fInt (mCons (mBin oAdd (mBin oAdd (mBin oMul (mVar 3) (mV (.int 40692))) (mBin oMod (mCB fInt (mCons (mVar 4) mNil)) (mV (.int 999953)))) (mVar 1)) mNil)) (mV (.int 2147483399))))) (mSeq (mSet 3 (mBin oMod (mCB fInt (mCons (mBin oAdd (mBin oMul (mVar 3) (mV (.int 40692))) (mBin oMod (mCB fInt (mCons (mVar 2) mNil)) (mV (.int 999953)))) mNil)) (mV (.int 2147483399)))) (mRet (mLst (mCons (mIfE (mTru (mBin oGe (mCB fAbs (mCons (mVar 2) mNil)) (mBin oPow (mV (.int 10)) (mV (.int 18))))) (mCB fAbs (mCons (mVar 2) mNil)) (mV (.int 0))) (mCons (mVar 3) (mCons (mV (.int 0)) mNil)))))))))
def den__law_flask : M RV := fnDen 2 5 b__law_flask
abbrev s_law_k03 : Stmt := top 46
def d_law_k03 : He5.DefA := ⟨fun K => He.ga K "law", "law", "law", defArgs s_law_k03, defBody s_law_k03, defScope s_law_k03, [], []⟩
def b_law_k03 : S := (mSeq (mSet 1 (mLst (mCons (mV (.str "step 1 next limit 1 pause 1")) (mCons (mV (.str "step 30 near limit 120 pause 15")) (mCons (mV (.str "step 1000000000000 last limit 1000000000000 pause 3")) mNil))))) (mSeq (mSet 2 (mLst (mCons (mV (.str "step 0 next limit 1 pause 1")) (mCons (mV (.str "step 30 next limit 29 pause 1")) (mCons (mV (.str "step 30 next limit 120 pause 0")) (mCons (mV (.str "step 030 next limit 120 pause 1")) (mCons (mV (.str "")) mNil))))))) (mSeq (mSet 2 (mBin oAdd (mVar 2) (mLst (mCons (mV (.str "step 30 soon limit 120 pause 1")) (mCons (mV (.str "step 30 next limit 120")) (mCons (mV (.str "step 30  next limit 120 pause 1")) (mCons (mV (.str "step 1 next limit -1 pause 1")) mNil))))))) (mSeq (mIf (mTru (mBin oNe (mComp [3] (mItems (mVar 1)) (gN 3) mYes (mProp "Rule" den_Rule__text (mCM "Rule" [false, false] den_Rule__read (mV (.glo "Rule")) (mCons (mVar 3) mNil)))) (mVar 1))) (mRet (mV (.bl false))) mSkip) (mSeq (mFor (mItems (mBin oAdd (mVar 2) (mLst (mCons (mV .non) (mCons (mV (.int 7)) (mCons (mTup (mCons (mV (.str "step 1 next limit 1 pause 1")) mNil)) mNil)))))) (gN 3) (mIf (mOr (mTru (mBin oNe (mCB fRepr (mCons (mErrA ["InvalidText", "InvalidNumber", "InvalidSetting"] (mCMK "Rule" [false, false] den_Rule__read (mV (.glo "Rule")) (mCons (mVar 3) mNil) 1 [0])) mNil)) (mCB fRepr (mCons (mLst (mCons (mV (.str "text")) (mCons (mVar 3) mNil))) mNil)))) (mTru (mBin oNe (mCall [false] den__law_read (mCons (mVar 3) mNil) []) (mLst mNil)))) (mRet (mV (.bl false))) mSkip)) (mRet (mCB fAll (mCons (mComp [4] (mRng1 (mCB fMax2 (mCons (mV (.int 2)) (mCons (mCB fMin2 (mCons (mCB fLen (mCons (mVar 0) mNil)) (mCons (mV (.int 5)) mNil))) mNil)))) (gN 4) mYes (mCall [true] den__law_right_k03 (mCons (mCall [false, false] den__law_flask (mCons (mVar 0) (mCons (mVar 4) mNil)) []) mNil) [])) mNil))))))))
def den_law_k03 : M RV := fnDen 1 5 b_law_k03
abbrev s__law_error : Stmt := top 39
def d__law_error : He5.DefA := ⟨fun K => He.ga K "_law_error", "_law_error", "_law_error", defArgs s__law_error, defBody s__law_error, defScope s__law_error, [], []⟩
abbrev s__law_class : Stmt := top 40
def d__law_class : He5.DefA := ⟨fun K => He.ga K "_law_class", "_law_class", "_law_class", defArgs s__law_class, defBody s__law_class, defScope s__law_class, [], []⟩
abbrev s__law_field : Stmt := top 41
def d__law_field : He5.DefA := ⟨fun K => He.ga K "_law_field", "_law_field", "_law_field", defArgs s__law_field, defBody s__law_field, defScope s__law_field, [], []⟩
abbrev s_InvalidText____init__ : Stmt := sub 2 0
def d_InvalidText____init__ : He5.DefA := ⟨fun K => He.ma K (He.ga K "InvalidText") "__init__", "__init__", "InvalidText.__init__", defArgs s_InvalidText____init__, defBody s_InvalidText____init__, defScope s_InvalidText____init__, [], []⟩
abbrev s_InvalidNumber____init__ : Stmt := sub 3 0
def d_InvalidNumber____init__ : He5.DefA := ⟨fun K => He.ma K (He.ga K "InvalidNumber") "__init__", "__init__", "InvalidNumber.__init__", defArgs s_InvalidNumber____init__, defBody s_InvalidNumber____init__, defScope s_InvalidNumber____init__, [], []⟩
abbrev s_InvalidSetting____init__ : Stmt := sub 5 0
def d_InvalidSetting____init__ : He5.DefA := ⟨fun K => He.ma K (He.ga K "InvalidSetting") "__init__", "__init__", "InvalidSetting.__init__", defArgs s_InvalidSetting____init__, defBody s_InvalidSetting____init__, defScope s_InvalidSetting____init__, [], []⟩
def fa : List He.Fa := [.free "str", .free "isinstance", .free "len", .int "WORDS" 7, .glo "InvalidText", .int "MOST_FIGURES" 60, .str "FIGURES" "0123456789", .free "all", .free "int", .glo "number_in", .int "MOST_LIMIT" 1000000000000000000, .int "MOST_STEP" 1000000000000, .glo "SETTINGS", .free "bool", .glo "is_integer", .glo "is_between", .glo "InvalidNumber", .glo "check_number", .glo "InvalidSetting", .cls "Rule", .noat "Rule" "limit", .noat "Rule" "parts", .mkr "Rule", .glo "Rule", .glo "_law_error", .free "repr", .glo "_law_figure", .glo "_law_read", .free "min", .free "max", .free "range", .glo "_law_sip", .glo "_law_made", .glo "_law_pick", .glo "_law_odd", .glo "_law_bent", .glo "_law_far", .glo "_law_plan", .meth "Rule" "__eq__", .glo "_law_right", .free "abs", .glo "_law_flask", .glo "law", .glo "NotRight", .glo "NotKnown", .glo "NotPossible", .glo "InvalidIndex", .glo "NotARule", .glo "NotRounds", .glo "InvalidNotes", .glo "InvalidTimes", .glo "InvalidOffers", .glo "InvalidFines", .glo "InvalidRules", .glo "NoFit", .glo "TooMany", .glo "Broken", .free "ValueError", .free "LookupError", .free "ArithmeticError", .glo "_law_class", .glo "_law_field"]
def fy : List Fy := [.gen fun K => rsChk K "InvalidText" 0 ["given"], .tup "SETTINGS" (([(.str "next"), (.str "last"), (.str "near")] : List Val).map gv), .gen fun K => rsChk K "InvalidNumber" 0 ["given"], .gen fun K => rsChk K "InvalidSetting" 0 ["given"], .gen fun K => cmB K "Rule" "read", .prop "Rule" "step", .prop "Rule" "setting", .prop "Rule" "pause", .prop "Rule" "text", .gen fun K => hasTab K (He.ga K "law"), .gen fun K => hasTab K (He.ga K "_law_right"), .gen fun K => sysB K, .gen fun K => neB K "Rule", .gen fun K => chkA K ["InvalidText", "InvalidNumber", "InvalidSetting"], .isi "Rule", .kit (.inl "NoneType") (.inl "int") false, .kit (.inl "bool") (.inl "int") true, .kit (.inl "int") (.inl "int") true, .kit (.inl "str") (.inl "int") false, .kit (.inl "list") (.inl "int") false, .kit (.inl "tuple") (.inl "int") false, .kit (.inl "dict") (.inl "int") false, .kit (.inr "Rule") (.inl "int") false, .kit (.inl "NoneType") (.inl "str") false, .kit (.inl "bool") (.inl "str") false, .kit (.inl "int") (.inl "str") false, .kit (.inl "str") (.inl "str") true, .kit (.inl "list") (.inl "str") false, .kit (.inl "tuple") (.inl "str") false, .kit (.inl "dict") (.inl "str") false, .kit (.inr "Rule") (.inl "str") false, .kit (.inl "NoneType") (.inl "bool") false, .kit (.inl "bool") (.inl "bool") true, .kit (.inl "int") (.inl "bool") false, .kit (.inl "str") (.inl "bool") false, .kit (.inl "list") (.inl "bool") false, .kit (.inl "tuple") (.inl "bool") false, .kit (.inl "dict") (.inl "bool") false, .kit (.inr "Rule") (.inl "bool") false, .kit (.inl "NoneType") (.inr "Rule") false, .kit (.inl "bool") (.inr "Rule") false, .kit (.inl "int") (.inr "Rule") false, .kit (.inl "str") (.inr "Rule") false, .kit (.inl "list") (.inr "Rule") false, .kit (.inl "tuple") (.inr "Rule") false, .kit (.inl "dict") (.inr "Rule") false, .kit (.inr "Rule") (.inr "Rule") true]
def fn : List He5.DefA := [d_number_in, d_is_integer, d_is_between, d_check_number_k02, d_Rule____init___k02, d_Rule__read, d_Rule__step, d_Rule__setting, d_Rule__pause, d_Rule__text, d__law_figure, d__law_read, d__law_sip, d__law_made_k03, d__law_pick, d__law_odd, d__law_bent_k03, d__law_far, d__law_plan, d_Rule____eq__, d__law_right_k03, d__law_flask, d_law_k03, d__law_error, d__law_class, d__law_field, d_InvalidText____init__, d_InvalidNumber____init__, d_InvalidSetting____init__]
end Pu.Q
set_option Elab.async false
set_option linter.all false
set_option maxRecDepth 100000
set_option maxHeartbeats 0
namespace Pu.Q
open PySem PySem.Spec PyProof.Rows L2 Pu
abbrev R : PySem.W.OpenRow := PySem.W.OpenLaw.row PySem.Challenge.rw_discwarden_k03_whole_texts_of_rules
abbrev hk : PySem.W.Hook := hookP 5 fa fn fy
def ob (s : PySem.W.SharedT) : AlP := obsP 5 fa fn fy (HandSHeadRun.getT s)
theorem ob_eq (s : PySem.W.SharedT) : ob s = hk.obs s.abs := obsP_eq (HandSHeadRun.getT_eq s)
def loose : List Str := [("NotRight" : Str), ("InvalidText" : Str), ("InvalidNumber" : Str), ("InvalidIndex" : Str), ("InvalidSetting" : Str), ("NotARule" : Str), ("NotRounds" : Str), ("InvalidNotes" : Str), ("InvalidTimes" : Str), ("InvalidOffers" : Str), ("InvalidFines" : Str), ("InvalidRules" : Str), ("NotKnown" : Str), ("NotPossible" : Str), ("NoFit" : Str), ("TooMany" : Str), ("Broken" : Str), ("MOST_STEP" : Str), ("MOST_LIMIT" : Str), ("FIGURES" : Str), ("MOST_FIGURES" : Str), ("is_integer" : Str), ("is_between" : Str), ("check_number" : Str), ("number_in" : Str), ("SETTINGS" : Str), ("WORDS" : Str), ("Rule" : Str), ("_law_flask" : Str), ("_law_sip" : Str), ("_law_pick" : Str), ("_law_far" : Str), ("_law_plan" : Str), ("_law_made" : Str), ("_law_odd" : Str), ("_law_error" : Str), ("_law_class" : Str), ("_law_field" : Str), ("_law_figure" : Str), ("_law_read" : Str), ("_law_bent" : Str), ("_law_right" : Str)]
theorem run (w : World) : HandSHeadRun.RunEq R (PySem.W.view R.prog [46]) hk ob 20000 loose w := by
  intro os
  kernel_rfl
end Pu.Q
set_option maxHeartbeats 4000000
set_option Elab.async false
set_option linter.all false
set_option maxRecDepth 100000
namespace Pu
open PySem PySem.Spec PyProof.Rows L2
section
variable {K : PySem.W.Frag} {F F' H H' : Hp}
theorem VRs.get' {vs : List Val} {us : List V} : VRs K F vs us → ∀ {i : Nat} {u : V}, us[i]? = some u → ∃ v, vs[i]? = some v ∧ VR K F v u
  | .nil, i, v, h => by simp at h
  | .cons r t, 0, v, h => by simp at h; subst h; exact ⟨_, rfl, r⟩
  | .cons r t, i + 1, v, h => by
    obtain ⟨u, h1, h2⟩ := t.get' (i := i) (u := v) (by simpa using h)
    exact ⟨u, by simpa using h1, h2⟩
end
theorem Tabs.put {T : List (Addr × Str)} {H : Hp} {a : Addr} {o o' : HO} (t : LamX.Tabs T H) (h : H a = some o) (p : plainO o = true) : LamX.Tabs T (upd H a o') := fun q hq => by
  obtain ⟨ps, h1, h2, h3⟩ := t q hq
  have ne : ∀ {b : Addr} {u : HO}, H b = some u → plainO u = false → b ≠ a := fun {b u} e g z => by
    subst z
    rw [h] at e
    cases e
    rw [p] at g; cases g
  refine ⟨ps, by rw [upd_ne (ne h1 rfl)]; exact h1, h2, fun pos cv hc => ?_⟩
  obtain ⟨c, e1, e2⟩ := h3 pos cv hc
  exact ⟨c, e1, by rw [upd_ne (ne e2 rfl)]; exact e2⟩
theorem Tabs.new {T : List (Addr × Str)} {H : Hp} {a : Addr} {o : HO} (t : LamX.Tabs T H) (h : H a = none) : LamX.Tabs T (upd H a o) := t.ext fun b u e => by rw [upd_ne (ne_of_none e h)]; exact e
def tM {α β : Type} (K : PySem.W.Frag) (W : WX) (R : Bg → Hp → Hp → Ev → Sig → α → β → Prop) (m : M α) : Sig → Hp → (β → Hp → Prop) → Prop := fun σ H Q =>
  ∃ np F e, Rel K F H e σ ∧ At K W R (bg np F H e σ) m F e σ H Q
abbrev tE (K : PySem.W.Frag) (W : WX) (m : M RV) : TE := tM K W (RR K) m
abbrev tT (K : PySem.W.Frag) (W : WX) (m : M Bool) : TT := tM K W (fun _ _ _ _ _ (b c : Bool) => b = c) m
abbrev tA (K : PySem.W.Frag) (W : WX) (m : M (List RV)) : TA := tM K W (RRs K) m
section
variable {K : PySem.W.Frag} {W : WX} {α β α' β' : Type} {R1 : Bg → Hp → Hp → Ev → Sig → α → β → Prop} {R2 : Bg → Hp → Hp → Ev → Sig → α' → β' → Prop} {B : Bg} {F H : Hp} {e : Ev} {σ : Sig}
theorem use [Carry K R1] {m : M α} {f : α → M α'} {Q : β' → Hp → Prop} {G : β → Hp → Prop} (C : Cur K B F H e σ) (h : At K W R2 B (m.bind f) F e σ H Q)
    (k : ∀ r e1 F1 H1 x, Cur K B F1 H1 e1 σ → R1 B F1 H1 e1 σ r x → Cur K (bg B.np F H e σ) F1 H1 e1 σ → At K W R2 B (f r) F1 e1 σ H1 Q → G x H1) : tM K W R1 m σ H G := by
  refine ⟨B.np, F, e, C.rel, ?_⟩
  unfold At M.bind at h
  unfold At
  cases hm : m e with
  | bad => rw [hm] at h; exact h
  | rs x e' =>
    rw [hm] at h
    intro F' H' cls d C' X'
    exact h F' H' cls d (C.trans C') X'
  | ok r e' =>
    rw [hm] at h
    intro F' H' u C' r'
    exact k r e' F' H' u (C.trans C') (Carry.out C r') C' h
theorem useS {m : M α} {f : α → M α'} {Q : β' → Hp → Prop} {G : β → Hp → Prop} (C : Cur K B F H e σ) (h : At K W R2 B (m.bind f) F e σ H Q)
    (k : ∀ r e1 F1 H1 x, Cur K B F1 H1 e1 σ → R1 (bg B.np F H e σ) F1 H1 e1 σ r x → Cur K (bg B.np F H e σ) F1 H1 e1 σ → At K W R2 B (f r) F1 e1 σ H1 Q → G x H1) : tM K W R1 m σ H G := by
  refine ⟨B.np, F, e, C.rel, ?_⟩
  unfold At M.bind at h
  unfold At
  cases hm : m e with
  | bad => rw [hm] at h; exact h
  | rs x e' =>
    rw [hm] at h
    intro F' H' cls d C' X'
    exact h F' H' cls d (C.trans C') X'
  | ok r e' =>
    rw [hm] at h
    intro F' H' u C' r'
    exact k r e' F' H' u (C.trans C') r' C' h
theorem use1 [Carry K R1] {m : M α} {Q : β → Hp → Prop} (C : Cur K B F H e σ) (h : At K W R1 B m F e σ H Q) : tM K W R1 m σ H Q := by
  refine ⟨B.np, F, e, C.rel, ?_⟩
  unfold At at h ⊢
  cases hm : m e with
  | bad => rw [hm] at h; exact h
  | rs x e' =>
    rw [hm] at h
    exact fun F' H' cls d C' X' => h F' H' cls d (C.trans C') X'
  | ok r e' =>
    rw [hm] at h
    exact fun F' H' u C' r' => h F' H' u (C.trans C') (Carry.out C r')
end
end Pu
set_option Elab.async false
set_option linter.all false
set_option maxRecDepth 100000
namespace Pu
open PySem PySem.Spec PyProof.Rows L2
structure FnG (P : Program) (w : World) (K : PySem.W.Frag) (mg : Str → Option Value) (base : Heap) (k : Nat) (f : Addr) (fd : FuncData) (ps : List Str) (sp : Sp) : Prop where
  many : ∀ vs H Q E, sp vs H Q E → vs.length = ps.length
  goes : ∀ (A : Around) (outer : List Env) (s : Shared) (H : Hp) (args : Args) (us : List Value) (vs : List V) (Q : VK) (E : XK), Room k A → A.guards = some [] → Env0 P w K mg base A outer s H →
    BindsTo s fd args (ps.zip us) → Vals vs us → sp vs H Q E →
    codeAny (model P w) A (.call (.ref f) args) (CR (L2N.CX P w) outer P w H s Q E) s
theorem FnG.up {P : Program} {w : World} {K : PySem.W.Frag} {mg : Str → Option Value} {base : Heap} {j k : Nat} {f : Addr} {fd : FuncData} {ps : List Str} {sp : Sp} (F : FnG P w K mg base j f fd ps sp) (h : j ≤ k) :
    FnG P w K mg base k f fd ps sp :=
  ⟨F.many, fun A o s H a us vs Q E hr => F.goes A o s H a us vs Q E (hr.mono h)⟩
theorem guards_deeper {A : Around} {env : Env} (h : A.guards = some []) : (A.deeper env).guards = some [] := by
  first
    | exact h
    | simpa [Around.deeper] using h
theorem guards_make {A : Around} {C : Addr} {us : List Value} {kw : List (Str × Value)} (h : A.guards = some []) : (A.under (.builtin "type.__call__" ⟨.ref C :: us, kw⟩)).guards = some [] := by
  first
    | exact h
    | simpa [Around.under, pushGuards, Code.guards, Code.isGuard, guardIds] using h
section
variable {P : Program} {w : World} {K : PySem.W.Frag} {mg : Str → Option Value} {base : Heap}
theorem fnG_of {x qual : Str} {params : Arguments} {body : List Stmt} {scope : Scope} {dvs : List V} {kws : List (Str × V)} {f : Addr} {fd : FuncData} {N ps : List Str} {k : Nat} {sp : Sp}
    (D : FunD K x qual params body scope dvs kws f fd) (S : FnScope N ps scope) (many : ∀ vs H Q E, sp vs H Q E → vs.length = ps.length)
    (hb : ∀ (cdv : Value) (A : Around) (outer : List Env) (s : Shared) (H : Hp) (vs : List V) (Q : VK) (E : XK), Room k (A.deeper (envOfC qual scope s.heap.objs.size f cdv)) → A.guards = some [] → sp vs H Q E →
      ∃ t, PSs (cxOf (L2N.CX P w) P w K mg base N qual scope f cdv A outer s H E) body t ∧
        t { nx := fun _ H' => Q .non H', rt := Q } (start N vs) H) : FnG P w K mg base (k + 1) f fd ps sp := by
  obtain ⟨c0, c1, dV, kV, c2, c3, c4, cdv, c5, c6, rfl, look, cin, -, -⟩ := D.ex
  refine ⟨many, ?_⟩
  intro A outer s H args us vs Q E hr hG e0 bt rel hsp
  have nlen := many _ _ _ _ hsp
  have stay : ∀ b o, base.get? b = some o → s.heap.get? b = some o := fun b o h => (e0.bs b o h).1
  have inK : K.In s.heap := e0.mod.kin.keeps stay
  have nolim : s.heap.NoLimit := e0.mod.nolimit.keeps stay
  have kinds : ∀ y ∈ ps.zip us, scope.names.lookup y.1 = some .local ∨
      (scope.names.lookup y.1 = some .cell ∧ ((cellsFrom (s.heap.objs.size + 1) scope.names []).lookup y.1).isSome = true) := by
    intro y hy
    obtain ⟨n, v⟩ := y
    cases S.par n (List.of_mem_zip hy).1 with
    | inl q => exact .inl q
    | inr q => exact .inr ⟨q, PySem.W.cellsFrom_some _ _ _ (.inl q)⟩
  refine codeAny_call_function hr.depth (inK _ _ look) rfl S.co S.gen rfl (PySem.W.codeRec_of inK cin) (bt _ _ _ _ ?_)
  refine wpAny_newFunctionEnv_cells S.kind kinds ?_
  intro env same s1 made
  subst same
  refine ⟨nolim.keeps made.toInCall.keep, codeAny_func ?_⟩
  obtain ⟨t, runs, wish⟩ := hb cdv A outer s H vs Q E (hr.deeper _) hG hsp
  have J := inv_start (CX := L2N.CX P w) (E := E) (cd := cdv) S hr.hd e0 nlen rel made
  refine wpAny_mono (runs.run [] s1 (start N vs) H _ J wish) (fun fl s' got => ?_) (fun _ _ z => z)
  cases fl with
  | brk => obtain ⟨_, _, _, no⟩ := got; exact no.elim
  | cont => obtain ⟨_, _, _, no⟩ := got; exact no.elim
  | next =>
    obtain ⟨σ', H', I', q⟩ := got
    exact ⟨.non, H', I'.os, I'.bare, I'.base, I'.hok, rfl, q⟩
  | ret u =>
    obtain ⟨v, σ', H', I', rv, q⟩ := got
    exact ⟨v, H', I'.os, I'.bare, I'.base, I'.hok, rv, q⟩
end
section
variable {X : Cx} {k : Nat} {f C : Addr} {fd : FuncData} {ps : List Str} {sp : Sp} {W : WX} {x m : Str} {p pos apos : Pos} {e o : Expr} {es : List Expr} {ta : TE} {t : TA}
theorem end_of {pins : List (Addr × Obj)} {σ : Sig} {H : Hp} {s s' : Shared} {Q : VK} {r : Result} (tk : L2N.Takes X W) (I : Inv X pins σ H s)
    (h : CR (L2N.CX X.prog X.w) X.stack X.prog X.w H s Q (WE W σ) r s') : match r with
      | .ok (.ret u) => EP X pins σ Q u s'
      | .ok _ => False
      | .error z => X.xe z s' := by
  cases r with
  | error z => exact L2N.passAt tk σ pins H s z s' I h
  | ok fl => cases fl with
    | ret u => exact I.after h
    | next => exact h
    | brk => exact h
    | cont => exact h
theorem goG {pins : List (Addr × Obj)} {σ : Sig} {H : Hp} {s : Shared} {Q : VK} {us zs : List Value} {kw : List (Str × Value)} {vs : List V} (F : FnG X.prog X.w X.K X.mg X.base k f fd ps sp) (hr : Room k X.A) (hG : X.A.guards = some []) (tk : L2N.Takes X W)
    (I : Inv X pins σ H s) (bt : BindsTo s fd ⟨us, kw⟩ (ps.zip zs)) (r : Vals vs zs) (h : sp vs H Q (WE W σ)) : wpAny (model X.prog X.w) X.A (call (.ref f) us kw) (EP X pins σ Q) X.xe s := by
  refine wpAny_call (codeAny_mono (F.goes X.A X.stack s H ⟨us, kw⟩ zs vs Q (WE W σ) hr hG I.env0 bt r h) fun res s' got => ?_)
  have q := end_of tk I got
  cases res with
  | error z => exact q
  | ok fl => cases fl with
    | ret u => exact q
    | next => exact q.elim
    | brk => exact q.elim
    | cont => exact q.elim
def cG (sp : Sp) (W : WX) (dvs : List V) (t : TA) : TE := fun σ H Q => t σ H fun vs H1 => sp (vs ++ dvs) H1 Q (WE W σ)
theorem pg_call {dvs : List V} {ds : List Value} (F : FnG X.prog X.w X.K X.mg X.base k f fd ps sp) (hr : Room k X.A) (hG : X.A.guards = some []) (tk : L2N.Takes X W) (gl : Gl X x) (at_ : X.mg x = some (.ref f)) (kp : PySem.W.keepIn X.K (.ref f) = true)
    (hb : Binds X.K fd ps ds) (hd : Vals dvs ds) (ha : PA X (e :: es) t) (n1 : (x == ("__debug__" : Str)) = false := by decide)
    (n2 : starEach (e :: es) X.env = (false, eval e X.env) :: starEach es X.env := by rfl) (n3 : (backTo pos (starEach es X.env)).any (·.1) = false := by rfl) :
    PE X (.Call (.Name x p) (e :: es) [] pos) (cG sp W dvs t) := by
  constructor
  intro pins s σ H Q I h
  refine wpAny_Call_Name_kw (ld_glob I gl at_ ?_ n1)
  refine PySem.W.callWith_K (h₀ := X.base) I.ok.mod.kin kp (thn (ha.run pos pins s σ H _ I h) ?_) n2 n3
  rintro us s1 ⟨vs, H1, I1, r, q⟩
  refine ⟨I1.kIn, ?_⟩
  have rd := r.append hd
  exact goG F hr hG tk I1 (hb s1 us I1.kIn (rd.length.symm.trans (F.many _ _ _ _ q))) rd q
def nG (C : Addr) (sp : Sp) (W : WX) (dvs : List V) (t : TA) : TE := fun σ H Q => t σ H fun vs H1 => ∀ y dx, H1 y = none → H1 dx = none → dx ≠ y →
  sp (.ref y :: (vs ++ dvs)) (upd (upd H1 dx (.own y)) y (.ins C dx [])) (fun v H2 => v = .non ∧ Q (.ref y) H2) (WE W σ)
theorem goMake {pins : List (Addr × Obj)} {σ : Sig} {H : Hp} {s : Shared} {Q : VK} {us : List Value} {vs dvs : List V} {ds : List Value} (Mk : Mk X.K C f) (F : FnG X.prog X.w X.K X.mg X.base k f fd ps sp) (hr : Room (k + 1) X.A) (hG : X.A.guards = some []) (tk : L2N.Takes X W)
    (hb : Binds X.K fd ps ds) (hd : Vals dvs ds) (I : Inv X pins σ H s) (r : Vals vs us)
    (h : ∀ y dx, H y = none → H dx = none → dx ≠ y → sp (.ref y :: (vs ++ dvs)) (upd (upd H dx (.own y)) y (.ins C dx [])) (fun v H2 => v = .non ∧ Q (.ref y) H2) (WE W σ)) :
    wpAny (model X.prog X.w) X.A (call (.ref C) us) (EP X pins σ Q) X.xe s := by
  have wish := h (s.heap.objs.size + 1) s.heap.objs.size (I.hok.fresh (Nat.le_succ _)) (I.hok.fresh (Nat.le_refl _)) (Nat.ne_of_lt (Nat.lt_succ_self _))
  have J := Inv.made (C := C) I
  have rd : Vals (V.ref (s.heap.objs.size + 1) :: (vs ++ dvs)) (Value.ref (s.heap.objs.size + 1) :: (us ++ ds)) := .cons rfl (r.append hd)
  have bt := hb _ (Value.ref (s.heap.objs.size + 1) :: us) J.kIn (rd.length.symm.trans (F.many _ _ _ _ wish))
  have runs := F.goes _ X.stack _ _ ⟨Value.ref (s.heap.objs.size + 1) :: us, []⟩ _ _ _ (WE W σ) (hr.make C us []) (guards_make hG) (J.env0.make C us []) bt rd wish
  refine wpAny_call (make_map (f := f) I.kIn Mk.makes Mk.init (beq_iff_eq.mp Mk.fn) (codeAny_mono runs fun res s' got => ?_))
  have q := end_of tk J got
  cases res with
  | error z => exact q
  | ok fl => cases fl with
    | ret u =>
      obtain ⟨v, H', I3, rv, ev, q3⟩ := q
      subst ev
      exact ⟨rv, V.ref (s.heap.objs.size + 1), H', I3, rfl, q3⟩
    | next => exact q.elim
    | brk => exact q.elim
    | cont => exact q.elim
theorem pg_make {dvs : List V} {ds : List Value} (Mk : Mk X.K C f) (F : FnG X.prog X.w X.K X.mg X.base k f fd ps sp) (hr : Room (k + 1) X.A) (hG : X.A.guards = some []) (tk : L2N.Takes X W) (gl : Gl X x) (at_ : X.mg x = some (.ref C)) (hb : Binds X.K fd ps ds) (hd : Vals dvs ds)
    (ha : PA X (e :: es) t) (n1 : (x == ("__debug__" : Str)) = false := by decide) (n2 : starEach (e :: es) X.env = (false, eval e X.env) :: starEach es X.env := by rfl)
    (n3 : (backTo pos (starEach es X.env)).any (·.1) = false := by rfl) : PE X (.Call (.Name x p) (e :: es) [] pos) (nG C sp W dvs t) := by
  constructor
  intro pins s σ H Q I h
  refine wpAny_Call_Name_kw (ld_glob I gl at_ ?_ n1)
  refine PySem.W.callWith_K (h₀ := X.base) I.ok.mod.kin Mk.kp (thn (ha.run pos pins s σ H _ I h) ?_) n2 n3
  rintro us s1 ⟨vs, H1, I1, r, q⟩
  exact ⟨I1.kIn, goMake Mk F hr hG tk hb hd I1 r q⟩
end
end Pu
set_option Elab.async false
set_option linter.all false
set_option maxRecDepth 100000
namespace Pu
open PySem PySem.Spec PyProof.Rows L2
theorem Slot.un_ne : ∀ w, Slot.un ≠ .own w := fun _ z => nomatch z
section
variable {K : PySem.W.Frag} {W : WX} {B : Bg} {F F' H H' : Hp} {e : Ev} {σ : Sig}
theorem Own.unset {i : Nat} {s : Slot} {a : Addr} {o : Option V} (hs : ∀ v, s ≠ .own v) (h : Own (e.set i s) (σ.set i o) a) : Own e σ a := by
  obtain ⟨j, v, h1, h2⟩ := h
  rcases getset h1 with ⟨_, z, _⟩ | ⟨z, h1⟩
  · exact absurd z.symm (hs v)
  · rw [List.getElem?_set_ne z] at h2
    exact ⟨j, v, h1, h2⟩
theorem Cur.setDat {i : Nat} {v : Val} {u : V} (C : Cur K B F H e σ) (r : VR K F v u) : Cur K B F H (e.set i (.dat v)) (σ.set i (some u)) := by
  refine ⟨C.post, ⟨C.rel.sub, by rw [List.length_set, List.length_set]; exact C.rel.len, fun j q o a1 a2 => ?_, fun j k v' w a h1 h2 h3 h4 => ?_, C.rel.tb, C.rel.nt⟩, fun a q => C.own a (q.unset Slot.dat_ne), by rw [List.length_set]; exact C.ln, fun j v' hj h => ?_⟩
  · rcases getset a1 with ⟨z, z2, _⟩ | ⟨z, a1⟩
    · subst z z2
      rcases getset a2 with ⟨_, z2, _⟩ | ⟨z, _⟩
      · exact ⟨u, z2, r⟩
      · exact absurd rfl z
    · rw [List.getElem?_set_ne z] at a2
      exact C.rel.slot j q o a1 a2
  · rcases getset h1 with ⟨_, z, _⟩ | ⟨z1, h1⟩
    · cases z
    · rcases getset h2 with ⟨_, z, _⟩ | ⟨z2, h2⟩
      · cases z
      · rw [List.getElem?_set_ne z1] at h3
        rw [List.getElem?_set_ne z2] at h4
        exact C.rel.inj j k v' w a h1 h2 h3 h4
  · rcases getset h with ⟨_, z, _⟩ | ⟨z, h⟩
    · cases z
    · rw [List.getElem?_set_ne z]
      exact C.par j v' hj h
theorem Cur.setOwn {i : Nat} {v : Val} {t : Addr} (C : Cur K B F H e σ) (h1 : F t = none) (h2 : CellR K F H v t) (h3 : ¬ Own e σ t) (h4 : B.mine t) (hp : B.np ≤ i) : Cur K B F H (e.set i (.own v)) (σ.set i (some (.ref t))) := by
  have other : ∀ {j : Nat} {w : Val} {a : Addr}, (e.set i (.own v))[j]? = some (.own w) → (σ.set i (some (.ref t)))[j]? = some (some (.ref a)) → (i = j ∧ a = t) ∨ (i ≠ j ∧ e[j]? = some (.own w) ∧ σ[j]? = some (some (.ref a))) := fun {j w a} a1 a2 => by
    rcases getset a1 with ⟨z, _, _⟩ | ⟨z, a1⟩
    · rcases getset a2 with ⟨_, z2, _⟩ | ⟨z', _⟩
      · cases z2; exact .inl ⟨z, rfl⟩
      · exact absurd z z'
    · rw [List.getElem?_set_ne z] at a2
      exact .inr ⟨z, a1, a2⟩
  refine ⟨C.post, ⟨C.rel.sub, by rw [List.length_set, List.length_set]; exact C.rel.len, fun j q o a1 a2 => ?_, fun j k v' w a a1 a2 a3 a4 => ?_, C.rel.tb, C.rel.nt⟩, fun a q => ?_, by rw [List.length_set]; exact C.ln, fun j v' hj h => ?_⟩
  · rcases getset a1 with ⟨z, z2, _⟩ | ⟨z, a1⟩
    · subst z z2
      rcases getset a2 with ⟨_, z2, _⟩ | ⟨z, _⟩
      · exact ⟨t, z2, h1, h2⟩
      · exact absurd rfl z
    · rw [List.getElem?_set_ne z] at a2
      exact C.rel.slot j q o a1 a2
  · rcases other a1 a3 with ⟨z1, z2⟩ | ⟨z1, b1, b2⟩
    · rcases other a2 a4 with ⟨z3, _⟩ | ⟨_, c1, c2⟩
      · exact z1.symm.trans z3
      · exact absurd ⟨k, w, c1, z2 ▸ c2⟩ h3
    · rcases other a2 a4 with ⟨_, z4⟩ | ⟨_, c1, c2⟩
      · exact absurd ⟨j, v', b1, z4 ▸ b2⟩ h3
      · exact C.rel.inj j k v' w a b1 c1 b2 c2
  · obtain ⟨j, w, a1, a2⟩ := q
    rcases other a1 a2 with ⟨_, z2⟩ | ⟨_, b1, b2⟩
    · rw [z2]; exact h4
    · exact C.own a ⟨j, w, b1, b2⟩
  · rcases getset h with ⟨z, _, _⟩ | ⟨z, h⟩
    · omega
    · rw [List.getElem?_set_ne z]
      exact C.par j v' hj h
end
end Pu
set_option Elab.async false
set_option linter.all false
set_option maxRecDepth 100000
namespace Pu
open PySem PySem.Spec PyProof.Rows L2
theorem PE.imp {X : Cx} {e : Expr} {t t' : TE} (h : PE X e t) (q : ∀ σ H Q, t' σ H Q → t σ H Q) : PE X e t' := ⟨fun pins s σ H Q I z => h.run pins s σ H Q I (q σ H Q z)⟩
theorem PT.imp {X : Cx} {e : Expr} {t t' : TT} (h : PT X e t) (q : ∀ σ H Q, t' σ H Q → t σ H Q) : PT X e t' := ⟨fun pins s σ H Q I z => h.run pins s σ H Q I (q σ H Q z)⟩
theorem PW.imp {X : Cx} {e : Expr} {t t' : TT} (h : PW X e t) (q : ∀ σ H Q, t' σ H Q → t σ H Q) : PW X e t' := ⟨fun w pins s σ H Q I z => h.run w pins s σ H Q I (q σ H Q z)⟩
theorem PA.imp {X : Cx} {es : List Expr} {t t' : TA} (h : PA X es t) (q : ∀ σ H Q, t' σ H Q → t σ H Q) : PA X es t' := ⟨fun p pins s σ H Q I z => h.run p pins s σ H Q I (q σ H Q z)⟩
theorem PS.imp {X : Cx} {st : Stmt} {t t' : TS} (h : PS X st t) (q : ∀ D σ H, t' D σ H → t D σ H) : PS X st t' := ⟨fun pins s σ H D I z => h.run pins s σ H D I (q D σ H z)⟩
theorem PSs.imp {X : Cx} {st : List Stmt} {t t' : TS} (h : PSs X st t) (q : ∀ D σ H, t' D σ H → t D σ H) : PSs X st t' := ⟨fun pins s σ H D I z => h.run pins s σ H D I (q D σ H z)⟩
abbrev SE (X : Cx) (W : WX) (e : Expr) (m : M RV) : Prop := PE X e (tE X.K W m)
abbrev ST (X : Cx) (W : WX) (e : Expr) (m : M Bool) : Prop := PT X e (tT X.K W m)
abbrev SW (X : Cx) (W : WX) (e : Expr) (m : M Bool) : Prop := PW X e (tT X.K W m)
abbrev SA (X : Cx) (W : WX) (es : List Expr) (m : M (List RV)) : Prop := PA X es (tA X.K W m)
section
variable {K : PySem.W.Frag} {W : WX} {B : Bg} {F F' H H' : Hp} {e : Ev} {σ : Sig} {u : V}
theorem Cur.grow {o : HO} {a : Addr} (C : Cur K B F H e σ) (h : H a = none) : Cur K B F (upd H a o) e σ ∧ ¬ Own e σ a ∧ F a = none ∧ B.mine a := by
  have hF : F a = none := by
    cases q : F a with
    | none => rfl
    | some x => rw [C.rel.sub a x q] at h; cases h
  have hO : ¬ Own e σ a := fun ⟨i, v, a1, a2⟩ => by
    obtain ⟨b, h1, h2, h3⟩ := C.rel.slot i _ _ a1 a2
    obtain ⟨o', h4⟩ := h3.some
    have e1 : V.ref a = V.ref b := Option.some.inj h1
    cases e1
    rw [h] at h4; cases h4
  refine ⟨⟨⟨C.post.sub, fun b o' q n t => ?_, C.post.nw, fun b q => ?_⟩, ⟨fun b o' q => ?_, C.rel.len, fun i s o' a1 a2 => ?_, C.rel.inj, Tabs.new C.rel.tb h, C.rel.nt⟩, C.own, C.ln, C.par⟩, hO, hF, .inr (C.post.kp a h)⟩
  · have z := C.post.fr b o' q n t
    rw [upd_ne (ne_of_none z h)]
    exact z
  · by_cases hb : b = a
    · rw [hb, upd_same] at q; cases q
    · rw [upd_ne hb] at q; exact C.post.kp b q
  · have z := C.rel.sub b o' q
    rw [upd_ne (ne_of_none z h)]
    exact z
  · have z := C.rel.slot i s o' a1 a2
    cases s with
    | un => trivial
    | dat v => exact z
    | own v =>
      obtain ⟨b, h1, h2, h3⟩ := z
      obtain ⟨o2, h4⟩ := h3.some
      exact ⟨b, h1, h2, h3.mono (Same.refl _) (upd_ne (ne_of_none h4 h))⟩
theorem Cur.growF {o : HO} {a : Addr} (C : Cur K B F H e σ) (h : H a = none) (ho : plainO o = true := by rfl) : Cur K B (Pu.frz F (upd H a o) a) (upd H a o) e σ ∧ Same F (Pu.frz F (upd H a o) a) ∧ Pu.frz F (upd H a o) a a = some o := by
  obtain ⟨C1, h1, h2, h3⟩ := C.grow (o := o) h
  exact ⟨C1.frz h2 h1 h3 (fun ps z => by rw [upd_same] at z; cases z; cases ho), frz_sub h2, by rw [frz_same, upd_same]⟩
end
section
variable {X : Cx} {W : WX}
theorem se_var (i : Nat) {x : Str} {pos : Pos} (hN : X.N[i]? = some x := by rfl) (hv : Vis X.env.scope x := by first | exact Or.inl rfl | exact Or.inr (Or.inl rfl) | exact Or.inr (Or.inr rfl)) (hd : (x == ("__debug__" : Str)) = false := by decide)
    (hcd : (x == ("__classdict__" : Str)) = false := by decide) : SE X W (.Name x pos) (mVar i) := by
  refine PE.imp (pe_var hN hv hd hcd) fun σ H Q h => ?_
  obtain ⟨np, F, e, R, h⟩ := h
  cases z : e[i]? with
  | none => unfold At mVar at h; simp only [z] at h
  | some s =>
    have il : i < σ.length := R.len ▸ (List.getElem?_eq_some_iff.mp z).1
    have ho : σ[i]? = some σ[i] := List.getElem?_eq_getElem il
    cases s with
    | un => unfold At mVar at h; simp only [z] at h
    | dat v =>
      obtain ⟨u, h1, h2⟩ := R.slot i _ _ z ho
      have C := Cur.refl (np := np) R
      exact ⟨u, by rw [ho, h1], h.ok (e' := e) (r := RV.dat v) (by unfold mVar; simp only [z]) C h2⟩
    | own v =>
      obtain ⟨a, h1, h2, h3⟩ := R.slot i _ _ z ho
      have C := Cur.refl (np := np) R
      exact ⟨.ref a, by rw [ho, h1], h.ok (e' := e) (r := RV.bor i) (by unfold mVar; simp only [z]) C (show σ[i]? = some (some (V.ref a)) by rw [ho, h1])⟩
theorem at_ret {v : Val} {u : V} {σ : Sig} {H : Hp} {Q : VK} (h : tE X.K W (mV v) σ H Q) (r : ∀ F, VR X.K F v u) : Q u H := by
  obtain ⟨np, F, e, R, h⟩ := h
  exact h.ok rfl (Cur.refl R) (r F)
theorem se_int {i : Int} {j pos} : SE X W (.Constant (.int i) j pos) (mV (.int i)) := PE.imp pe_int fun _ _ _ h => at_ret h fun _ => .int i
theorem se_bl {b : Bool} {j pos} : SE X W (.Constant (.bool b) j pos) (mV (.bl b)) := PE.imp pe_bl fun _ _ _ h => at_ret h fun _ => .bl b
theorem se_non {j pos} : SE X W (.Constant .none j pos) (mV .non) := PE.imp pe_non fun _ _ _ h => at_ret h fun _ => .non
theorem se_str {x : Str} {j pos} : SE X W (.Constant (.str x) j pos) (mV (.str x)) := PE.imp pe_str fun _ _ _ h => at_ret h fun _ => .str x
theorem se_glo {x : Str} {pos : Pos} (gl : Gl X x) (at_ : X.mg x = some (.ref (He.ga X.K x))) (hd : (x == ("__debug__" : Str)) = false := by decide) : SE X W (.Name x pos) (mV (.glo x)) :=
  PE.imp (pe_glob gl at_ (v := .ref (He.ga X.K x)) rfl hd) fun _ _ _ h => at_ret h fun _ => .glo x
theorem se_gloV {x : Str} {pos : Pos} {v : Val} {u : V} {w : Value} (gl : Gl X x) (at_ : X.mg x = some w) (r : RelV u w) (q : ∀ F, VR X.K F v u) (hd : (x == ("__debug__" : Str)) = false := by decide) : SE X W (.Name x pos) (mV v) :=
  PE.imp (pe_glob gl at_ r hd) fun _ _ _ h => at_ret h q
theorem se_ty {x : Str} {n : String} {pos : Pos} (gl : Gl X x) (fr : X.mg x = none) (hv : bootBuiltins x = some (.type n) := by decide +kernel) (hn : x ≠ "__name__" := by decide) (hd : (x == ("__debug__" : Str)) = false := by decide) : SE X W (.Name x pos) (mV (.ty n)) :=
  PE.imp (pe_bltn gl fr hv (v := .ty n) rfl hn hd) fun _ _ _ h => at_ret h fun _ => .ty n
end
def OpV (K : PySem.W.Frag) (W : WX) (f : Val → Val → M RV) (r : R2) : Prop := ∀ {B : Bg} {F H : Hp} {e : Ev} {σ : Sig} {v w : Val} {x y : V} {Q : VK}, Cur K B F H e σ → RdR K F H v x → RdR K F H w y → At K W (RR K) B (f v w) F e σ H Q → r x y H Q
section
variable {X : Cx} {W : WX} {a b c : Expr} {ma mb mc : M RV} {pos : Pos} {f g : Val → Val → M RV} {r : R2}
theorem two {K : PySem.W.Frag} (hv : OpV K W f r) {σ : Sig} {H : Hp} {Q : VK} (h : tE K W (mBin f ma mb) σ H Q) : tOp r (tE K W ma) (tE K W mb) σ H Q := by
  obtain ⟨np, F, e, R, h⟩ := h
  refine use (Cur.refl R) h fun r1 e1 F1 H1 x C1 q1 _ h1 => ?_
  refine use C1 h1 fun r2 e2 F2 H2 y C2 q2 c2 h2 => ?_
  obtain ⟨v, rv, h3⟩ := At.rd C2.rel (q1.carry c2) h2
  obtain ⟨w, rw_, h4⟩ := At.rd C2.rel q2 h3
  exact hv C2 rv rw_ h4
theorem se_bin {op : Operator} (ho : OpR X (binaryOp op) r) (hv : OpV X.K W f r) (ha : SE X W a ma) (hb : SE X W b mb) : SE X W (.BinOp a op b pos) (mBin f ma mb) :=
  PE.imp (pe_op ho ha hb) fun _ _ _ h => two hv h
theorem se_cmp {op : CmpOp} (ho : OpR X (compareOp op) r) (hv : OpV X.K W f r) (ha : SE X W a ma) (hb : SE X W b mb) (hm : behindInMarks op b = false := by first | exact nomark _ | rfl) : SE X W (.Compare a [op] [b] pos) (mBin f ma mb) :=
  PE.imp (pe_cmpR ho ha hb hm) fun _ _ _ h => two hv h
theorem tru_of {K : PySem.W.Frag} {B : Bg} {F H : Hp} {e : Ev} {σ : Sig} {v : Val} {x : V} {Q : Bool → Hp → Prop} (C : Cur K B F H e σ) (rv : RdR K F H v x) (h : At K W (fun _ _ _ _ _ (b c : Bool) => b = c) B (truV v) F e σ H Q) : ∃ k, TruV K x H k ∧ Q k H := by
  cases v with
  | bl b => rw [rv.bl]; exact ⟨b, rfl, h.ok rfl C rfl⟩
  | int i => rw [rv.int]; exact ⟨_, rfl, h.ok rfl C rfl⟩
  | non => rw [rv.non]; exact ⟨_, rfl, h.ok rfl C rfl⟩
  | str z =>
    rw [rv.str]
    by_cases hz : z.length ≤ sizeLine
    · exact ⟨_, ⟨hz, rfl⟩, h.ok (by unfold truV; simp only [hz, if_true]) C rfl⟩
    · unfold At truV at h; simp only [hz, if_false] at h
  | lst xs =>
    obtain ⟨p, us, rfl, h1, h2⟩ := rv.lst C.rel.sub
    exact ⟨_, .inl ⟨us, .inl h1, rfl⟩, h.ok rfl C (by rw [h2.empty])⟩
  | tup xs =>
    obtain ⟨p, us, rfl, h1, h2⟩ := rv.tup C.rel.sub
    exact ⟨_, .inr (.inl ⟨us, h1, rfl⟩), h.ok rfl C (by rw [h2.empty])⟩
  | _ => exact h.elim
theorem st_val (ha : SE X W a ma) (he : ∀ whole, isTrue a X.env whole = (do let v ← whole; standAt a.pos; holding [v] (truthy v)) := by intro _; rfl) : ST X W a (mTru ma) := by
  refine PT.imp (pt_truth ha he) fun σ H Q h => ?_
  obtain ⟨np, F, e, R, h⟩ := h
  refine use (Cur.refl R) h fun r1 e1 F1 H1 x C1 q1 _ h1 => ?_
  obtain ⟨v, rv, h2⟩ := At.rd C1.rel q1 h1
  exact tru_of C1 rv h2
theorem st_cmp {op : CmpOp} (ho : OpR X (compareOp op) r) (hv : OpV X.K W f r) (hb2 : ∀ v w e r' e', f v w e = .ok r' e' → ∃ b, r' = .dat (.bl b)) (ha : SE X W a ma) (hb : SE X W b mb) (hm : behindInMarks op b = false := by first | exact nomark _ | rfl) : ST X W (.Compare a [op] [b] pos) (mTru (mBin f ma mb)) := by
  refine PT.imp (pt_cmpR ho ha hb hm) fun σ H Q h => ?_
  refine two (r := r) (f := f) hv ?_
  obtain ⟨np, F, e, R, h⟩ := h
  refine ⟨np, F, e, R, ?_⟩
  unfold At mTru M.bind at h
  unfold At
  cases z : mBin f ma mb e with
  | bad => rw [z] at h; exact h
  | rs x e' => rw [z] at h; exact h
  | ok r' e' =>
    rw [z] at h
    intro F' H' u C q
    have hr : ∃ b, r' = .dat (.bl b) := by
      unfold mBin M.bind M.rd at z
      cases z1 : ma e with
      | ok r1 e1 =>
        simp only [z1] at z
        cases z2 : mb e1 with
        | ok r2 e2 =>
          simp only [z2] at z
          cases z3 : Pu.rd r1 e2 with
          | none => simp only [z3] at z; cases z
          | some v =>
            simp only [z3] at z
            cases z4 : Pu.rd r2 e2 with
            | none => simp only [z4] at z; cases z
            | some w =>
              simp only [z4] at z
              exact hb2 _ _ _ _ _ z
        | rs _ _ => simp only [z2] at z; cases z
        | bad => simp only [z2] at z; cases z
      | rs _ _ => simp only [z1] at z; cases z
      | bad => simp only [z1] at z; cases z
    obtain ⟨b, rfl⟩ := hr
    have eu : u = .bl b := by cases q; rfl
    subst eu
    exact ⟨b, rfl, h F' H' b C rfl⟩
end
def mOrV (a b : M RV) : M RV := a.bind fun r => (M.rd r).bind fun v => match v with
  | .bl c => if c = true then mV (.bl true) else b
  | _ => M.bad
section
variable {X : Cx} {W : WX} {a b c : Expr} {rest : List Expr} {ma mb : M RV} {ta tb : M Bool} {pos : Pos}
theorem sw_and1 (ha : ST X W a ta) : SW X W (.BoolOp .And [a] pos) ta := pw_and1 ha
theorem sw_or1 (ha : ST X W a ta) : SW X W (.BoolOp .Or [a] pos) ta := pw_or1 ha
theorem sw_and (ha : ST X W a ta) (hb : SW X W (.BoolOp .And (b :: rest) pos) tb) : SW X W (.BoolOp .And (a :: b :: rest) pos) (mAnd ta tb) := by
  refine PW.imp (pw_and ha hb) fun σ H Q h => ?_
  obtain ⟨np, F, e, R, h⟩ := h
  refine use (Cur.refl R) h fun k e1 F1 H1 k' C1 q1 _ h1 => ?_
  have ek : k = k' := q1
  subst ek
  cases k with
  | true => exact use1 C1 h1
  | false => exact h1.ok rfl C1 rfl
theorem sw_or (ha : ST X W a ta) (hb : SW X W (.BoolOp .Or (b :: rest) pos) tb) : SW X W (.BoolOp .Or (a :: b :: rest) pos) (mOr ta tb) := by
  refine PW.imp (pw_or ha hb) fun σ H Q h => ?_
  obtain ⟨np, F, e, R, h⟩ := h
  refine use (Cur.refl R) h fun k e1 F1 H1 k' C1 q1 _ h1 => ?_
  have ek : k = k' := q1
  subst ek
  cases k with
  | false => exact use1 C1 h1
  | true => exact h1.ok rfl C1 rfl
theorem st_w {t : M Bool} (h : SW X W a t) : ST X W a t := h.pt
theorem st_not (ha : ST X W a ta) : ST X W (.UnaryOp .Not a pos) (mNot ta) := by
  refine PT.imp (pt_not ha) fun σ H Q h => ?_
  obtain ⟨np, F, e, R, h⟩ := h
  refine use (Cur.refl R) h fun k e1 F1 H1 k' C1 q1 _ h1 => ?_
  have ek : k = k' := q1
  subst ek
  exact h1.ok rfl C1 rfl
theorem se_ifE (hc : ST X W c ta) (ha : SE X W a ma) (hb : SE X W b mb) : SE X W (.IfExp c a b pos) (mIfE ta ma mb) := by
  refine PE.imp (pe_ifExp hc ha hb) fun σ H Q h => ?_
  obtain ⟨np, F, e, R, h⟩ := h
  refine use (Cur.refl R) h fun k e1 F1 H1 k' C1 q1 _ h1 => ?_
  have ek : k = k' := q1
  subst ek
  cases k with
  | true => exact use1 C1 h1
  | false => exact use1 C1 h1
theorem se_one {op} (ha : SE X W a ma) : SE X W (.BoolOp op [a] pos) ma := pe_one ha
theorem se_and (ha : SE X W a ma) (hb : SE X W (.BoolOp .And (b :: rest) pos) mb) : SE X W (.BoolOp .And (a :: b :: rest) pos) (mAndV ma mb) := by
  refine PE.imp (pe_and ha hb) fun σ H Q h => ?_
  obtain ⟨np, F, e, R, h⟩ := h
  refine use (Cur.refl R) h fun r1 e1 F1 H1 x C1 q1 _ h1 => ?_
  obtain ⟨v, rv, h2⟩ := At.rd C1.rel q1 h1
  cases v with
  | bl k =>
    refine ⟨k, rv.bl, ?_⟩
    cases k with
    | true => exact use1 C1 h2
    | false => exact h2.ok rfl C1 (VR.bl false)
  | _ => exact h2.elim
theorem se_not (ha : SE X W a ma) : SE X W (.UnaryOp .Not a pos) (mNotV ma) := by
  refine PE.imp (pe_not ha) fun σ H Q h => ?_
  obtain ⟨np, F, e, R, h⟩ := h
  refine use (Cur.refl R) h fun r1 e1 F1 H1 x C1 q1 _ h1 => ?_
  obtain ⟨v, rv, h2⟩ := At.rd C1.rel q1 h1
  cases v with
  | bl k => exact ⟨k, rv.bl, h2.ok rfl C1 (VR.bl _)⟩
  | _ => exact h2.elim
end
section
variable {X : Cx} {W : WX} {a : Expr} {es : List Expr} {ma : M RV} {mr : M (List RV)} {pos : Pos}
theorem sa_nil : SA X W [] mNil := PA.imp pa_nil fun σ H Q h => by
  obtain ⟨np, F, e, R, h⟩ := h
  exact h.ok rfl (Cur.refl R) .nil
theorem sa_cons (ha : SE X W a ma) (hr : SA X W es mr) (hs : starEach (a :: es) X.env = (false, eval a X.env) :: starEach es X.env := by rfl) : SA X W (a :: es) (mCons ma mr) := by
  refine PA.imp (pa_cons ha hr hs) fun σ H Q h => ?_
  obtain ⟨np, F, e, R, h⟩ := h
  refine use (Cur.refl R) h fun r1 e1 F1 H1 x C1 q1 _ h1 => ?_
  refine useS (R1 := RRs X.K) C1 h1 fun rs e2 F2 H2 xs C2 q2 c2 h2 => ?_
  refine h2.ok rfl C2 (.cons (q1.carry c2) (fun v e3 j w e4 e5 => ?_) (Carry.out C1 q2))
  subst e3
  obtain ⟨t, z1, z2, z3, z4, z5⟩ := q1
  obtain ⟨o, z6⟩ := z3.some
  subst z1
  obtain ⟨t', y1, y2, y3, y4, y5⟩ := q2.mem_tmp e4 e5
  cases y1
  rcases y5 with y5 | y5
  · exact z4 y5
  · have y6 : H1 t = none := y5
    rw [z6] at y6; cases y6
theorem se_tup {k} (hr : SA X W es mr) : SE X W (.Tuple es k pos) (mTup mr) := by
  refine PE.imp (pe_tup hr) fun σ H Q h => ?_
  obtain ⟨np, F, e, R, h⟩ := h
  refine use (Cur.refl R) h fun rs e1 F1 H1 xs C1 q1 _ h1 => ?_
  obtain ⟨F2, e2, vs, C2, _, r2, h2⟩ := At.dts C1 q1 h1
  by_cases hz : vs.length ≤ sizeLine
  · rw [if_pos hz] at h2
    refine ⟨r2.length ▸ hz, fun p hp => ?_⟩
    obtain ⟨C3, s3, e3⟩ := C2.growF (o := .tup xs) hp
    exact h2.ok rfl C3 (VR.tup (SqT.of e3) (r2.mono s3))
  · rw [if_neg hz] at h2
    exact h2.elim
theorem se_lst (hr : SA X W es mr) : SE X W (.List es pos) (mLst mr) := by
  refine PE.imp (pe_lst hr) fun σ H Q h => ?_
  obtain ⟨np, F, e, R, h⟩ := h
  refine use (Cur.refl R) h fun rs e1 F1 H1 xs C1 q1 _ h1 => ?_
  obtain ⟨F2, e2, vs, C2, _, r2, h2⟩ := At.dts C1 q1 h1
  by_cases hz : vs.length ≤ sizeLine
  · rw [if_pos hz] at h2
    refine ⟨r2.length ▸ hz, fun p hp => ?_⟩
    obtain ⟨C3, n3, f3, m3⟩ := C2.grow (o := .lst xs) hp
    exact h2.ok (r := RV.tmp (.lst vs)) rfl C3 ⟨p, rfl, f3, ⟨xs, upd_same, r2⟩, n3, m3⟩
  · rw [if_neg hz] at h2
    exact h2.elim
end
end Pu
set_option Elab.async false
set_option linter.all false
set_option maxRecDepth 100000
namespace Pu
open PySem PySem.Spec PyProof.Rows L2
def big : Int := 1606938044258990275541962092341162602522202993782792835301376
section
variable {K : PySem.W.Frag} {W : WX}
theorem opv_I {g : Int → Int → Val} {g' : Int → Int → V} (hg : ∀ F i j, VR K F (g i j) (g' i j)) : OpV K W (oI g) (rI0 g') := by
  intro B F H e σ v w x y Q C rv rw_ h
  unfold oI at h
  split at h
  · exact ⟨_, _, rv.int, rw_.int, h.ok rfl C (hg _ _ _)⟩
  · exact h.elim
theorem opv_IC {c : Int → Int → Prop} [∀ i j, Decidable (c i j)] {d : Int → Int → Prop} {g : Int → Int → Val} {g' : Int → Int → V} (hc : ∀ i j, c i j → d i j) (hg : ∀ F i j, VR K F (g i j) (g' i j)) : OpV K W (oIC c g) (rI d g') := by
  intro B F H e σ v w x y Q C rv rw_ h
  unfold oIC at h
  split at h
  · rename_i i j
    by_cases hh : c i j
    · rw [if_pos hh] at h
      exact ⟨_, _, rv.int, rw_.int, hc _ _ hh, h.ok rfl C (hg _ _ _)⟩
    · rw [if_neg hh] at h
      exact h.elim
  · exact h.elim
theorem natAbs_lt {i : Int} {n : Nat} (a : -(n : Int) < i) (b : i < (n : Int)) : i.natAbs < n := by omega
theorem mulD {i j : Int} (h : cMul i j) : CMul i j ∨ CMulW i j := by
  rcases h with h | h | ⟨⟨h1, h2⟩, h3, h4⟩
  · exact .inl (.inl h)
  · exact .inl (.inr h)
  · exact .inr (wide_mul (a := 200) (b := 200) (natAbs_lt (by simpa using h1) (by simpa using h2)) (natAbs_lt (by simpa using h3) (by simpa using h4)) (by decide) (by decide) (by decide))
theorem op_mulP {X : Cx} : OpR X (binaryOp .Mult) (rI (fun i j => CMul i j ∨ CMulW i j) fun i j => .int (i * j)) := by
  intro pins s σ H x y v u Q I rx ry h
  obtain ⟨i, j, rfl, rfl, c, q⟩ := h
  rcases c with c | c
  · exact op_mul pins s σ H _ _ v u Q I rx ry ⟨i, j, rfl, rfl, c, q⟩
  · exact op_mulW pins s σ H _ _ v u Q I rx ry ⟨i, j, rfl, rfl, c, q⟩
theorem divD {i j : Int} (h : cDiv i j) : CDivW i j := wide_div h.1 (b := 200) (natAbs_lt (by have := h.1; simp; omega) (by simpa using h.2)) (by decide) (by decide)
def oSub := oI fun i j => .int (i - j)
theorem v_mul : OpV K W oMul (rI (fun i j => CMul i j ∨ CMulW i j) fun i j => .int (i * j)) := opv_IC (fun _ _ h => mulD h) fun _ _ _ => .int _
theorem v_div : OpV K W oDiv (rI CDivW fun i j => .int (i / j)) := opv_IC (fun _ _ h => divD h) fun _ _ _ => .int _
theorem v_mod : OpV K W oMod (rI (fun _ j => 0 < j) fun i j => .int (i % j)) := opv_IC (fun _ _ h => h) fun _ _ _ => .int _
theorem powD {i j : Int} (h : cPow i j) : CPow i j := ⟨h.1, by have := h.2.1; omega, natAbs_lt (by simpa using h.2.2.1) (by simpa using h.2.2.2)⟩
theorem v_pow : OpV K W oPow (rI CPow fun i j => .int (i ^ j.toNat)) := opv_IC (fun _ _ h => powD h) fun _ _ _ => .int _
theorem v_lt : OpV K W oLt (rI0 fun i j => .bl (decide (i < j))) := opv_I fun _ _ _ => .bl _
theorem v_le : OpV K W oLe (rI0 fun i j => .bl (decide (i ≤ j))) := opv_I fun _ _ _ => .bl _
theorem v_gt : OpV K W oGt (rI0 fun i j => .bl (decide (j < i))) := opv_I fun _ _ _ => .bl _
theorem v_ge : OpV K W oGe (rI0 fun i j => .bl (decide (j ≤ i))) := opv_I fun _ _ _ => .bl _
theorem b_I {p : Int → Int → Bool} : ∀ v w e r' e', oI (fun i j => .bl (p i j)) v w e = .ok r' e' → ∃ b, r' = .dat (.bl b) := by
  intro v w e r' e' h
  unfold oI at h
  split at h
  · unfold mV M.ret at h; cases h; exact ⟨_, rfl⟩
  · cases h
def rCatR : R2 := fun x y H Q => ∃ l b xs zs, x = .ref l ∧ y = .ref b ∧ Rd H l (.lst xs) ∧ Rd H b (.lst zs) ∧ xs.length + zs.length ≤ sizeLine ∧ ∀ p, H p = none → Q (.ref p) (upd H p (.lst (xs ++ zs)))
theorem op_catR {X : Cx} : OpR X (binaryOp .Add) rCatR := by
  intro pins s σ H x y v u Q I rx ry h
  obtain ⟨l, b, xs, zs, rfl, rfl, h1, h2, hz, q⟩ := h
  obtain rfl : v = Value.ref l := rx
  obtain rfl : u = Value.ref b := ry
  obtain ⟨z1, its, n, r, e1⟩ := h1.ok I.hok
  obtain ⟨z2, jts, m, r2, e2⟩ := h2.ok I.hok
  have l1 := r.length
  have l2 := r2.length
  refine PySem.P.add_list e1 e2 ?_ (by simp only [List.size_toArray]; omega)
  have ea : its.toArray ++ jts.toArray = (its ++ jts).toArray := by simp
  rw [ea]
  refine ⟨.ref s.heap.objs.size, _, I.laid (t' := s.toks) (o := .lst (xs ++ zs)) (fun _ _ z => Heap.get?_push_of_some _ z) (Nat.le_refl _) ?_, rfl, q _ (I.hok.fresh (Nat.le_refl _))⟩
  exact ⟨by rw [List.length_append]; exact hz, its ++ jts, 0, r.append r2, Heap.get?_push_size _ rfl⟩
def rAddA (K : PySem.W.Frag) : R2 := fun x y H Q => (rI0 fun i j => .int (i + j)) x y H Q ∨ (∃ i j, x = .str i ∧ y = .str j ∧ i.length + j.length ≤ sizeLine ∧ Q (.str (i ++ j)) H) ∨ rCatR x y H Q ∨ rCatA K x y H Q
theorem op_addA {X : Cx} : OpR X (binaryOp .Add) (rAddA X.K) := OpR.or op_add (OpR.or op_add_str (OpR.or op_catR op_catA))
theorem v_add : OpV K W oAdd (rAddA K) := by
  intro B F H e σ v w x y Q C rv rw_ h
  unfold oAdd at h
  split at h
  · exact .inl ⟨_, _, rv.int, rw_.int, h.ok rfl C (VR.int _)⟩
  · rename_i a b
    by_cases hz : a.length + b.length ≤ sizeLine
    · rw [if_pos hz] at h
      exact .inr (.inl ⟨_, _, rv.str, rw_.str, hz, h.ok rfl C (VR.str _)⟩)
    · rw [if_neg hz] at h
      exact h.elim
  · rename_i a b
    by_cases hz : a.length + b.length ≤ sizeLine
    · rw [if_pos hz] at h
      obtain ⟨p, us, rfl, h1, h2⟩ := rv.lst C.rel.sub
      obtain ⟨q, ws, rfl, h3, h4⟩ := rw_.lst C.rel.sub
      refine .inr (.inr (.inl ⟨p, q, us, ws, rfl, rfl, h1, h3, by rw [← h2.length, ← h4.length]; exact hz, fun t ht => ?_⟩))
      obtain ⟨C3, n3, f3, m3⟩ := C.grow (o := .lst (us ++ ws)) ht
      exact h.ok (r := RV.tmp (.lst (a ++ b))) rfl C3 ⟨t, rfl, f3, ⟨_, upd_same, h2.append h4⟩, n3, m3⟩
    · rw [if_neg hz] at h
      exact h.elim
  · rename_i a b
    by_cases hz : a.length + b.length ≤ sizeLine
    · rw [if_pos hz] at h
      obtain ⟨p, us, rfl, h1, h2⟩ := rv.tup C.rel.sub
      obtain ⟨q, ws, rfl, h3, h4⟩ := rw_.tup C.rel.sub
      refine .inr (.inr (.inr ⟨p, q, us, ws, rfl, rfl, h1, h3, by rw [← h2.length, ← h4.length]; exact hz, fun z => ?_, fun _ z => ?_, fun _ _ t ht => ?_⟩))
      · have ea : a = [] := h2.ne.mp z
        subst ea
        rw [List.nil_append] at h
        refine h.ok rfl C ?_
        rcases rw_ with rw_ | ⟨t, _, z⟩
        · exact rw_
        · exact z.elim
      · have eb : b = [] := h4.ne.mp z
        subst eb
        rw [List.append_nil] at h
        refine h.ok rfl C ?_
        rcases rv with rv | ⟨t, _, z⟩
        · exact rv
        · exact z.elim
      · obtain ⟨C3, s3, e3⟩ := C.growF (o := .tup (us ++ ws)) ht
        exact h.ok rfl C3 (VR.tup (SqT.of e3) ((h2.append h4).mono s3))
    · rw [if_neg hz] at h
      exact h.elim
  · exact h.elim
end
end Pu
set_option Elab.async false
set_option linter.all false
set_option maxRecDepth 100000
namespace Pu
open PySem PySem.Spec PyProof.Rows L2
theorem kvI_depth (ks : List Key) (vs : List Val) : PyData.depthKv (kvI ks vs) = 0 := by
  unfold kvI
  split <;> simp [PyData.depthKv, PyData.depth]
mutual
theorem canLay_of : ∀ v : Val, isD v = true → PyData.canLay0 (toP v) = true
  | .non, _ => rfl
  | .bl _, _ => rfl
  | .int _, _ => rfl
  | .str x, h => by simpa [isD, toP, PyData.canLay0] using h
  | .tup xs, h => by simpa [toP, PyData.canLay0] using canLays_of xs (by simpa [isD] using h)
  | .lst xs, h => by simpa [toP, PyData.canLay0] using canLays_of xs (by simpa [isD] using h)
  | .ty _, h => by simp [isD] at h
  | .glo _, h => by simp [isD] at h
  | .obj _ _ _, h => by simp [isD] at h
  | .dct _ _, h => by simp [isD] at h
theorem canLays_of : ∀ xs : List Val, isDs xs = true → PyData.canLayAll0 (toPs xs) = true
  | [], _ => rfl
  | x :: xs, h => by
    have h' : isD x = true ∧ isDs xs = true := by simpa [isDs] using h
    simp [toPs, PyData.canLayAll0, canLay_of x h'.1, canLays_of xs h'.2]
end
mutual
theorem depth_of : ∀ v : Val, (toP v).depth = dep v
  | .non => by simp [toP, PyData.depth, dep]
  | .bl _ => by simp [toP, PyData.depth, dep]
  | .int _ => by simp [toP, PyData.depth, dep]
  | .str x => by simp [toP, PyData.depth, dep]
  | .tup xs => by simp [toP, PyData.depth, dep, depths_of xs]
  | .lst xs => by simp [toP, PyData.depth, dep, depths_of xs]
  | .ty _ => by simp [toP, PyData.depth, dep]
  | .glo _ => by simp [toP, PyData.depth, dep]
  | .obj _ _ _ => by simp [toP, PyData.depth, dep]
  | .dct ks vs => by simp [toP, PyData.depth, kvI_depth, dep]
theorem depths_of : ∀ xs : List Val, PyData.depthAll (toPs xs) = deps xs
  | [] => by simp [toPs, PyData.depthAll, deps]
  | x :: xs => by simp [toPs, PyData.depthAll, deps, depth_of x, depths_of xs]
end
theorem shaped_of {v : Val} (h : isD v = true) (d : dep v ≤ 60) : SeqAt.shaped (toP v) = true := by
  unfold SeqAt.shaped
  rw [canLay_of v h, depth_of v]
  simp; omega
section
variable {K : PySem.W.Frag} {W : WX} {B : Bg} {F H : Hp} {e : Ev} {σ : Sig}
mutual
theorem VR.dp (s : Same F H) : ∀ (v : Val) (u : V), VR K F v u → isD v = true → Dp K H u (toP v)
  | .non, _, h, _ => by cases h; exact .non
  | .bl b, _, h, _ => by cases h; exact .bl b
  | .int i, _, h, _ => by cases h; exact .int i
  | .str x, _, h, _ => by cases h; exact .str x
  | .tup xs, _, h, d => by
    cases h with
    | tup h1 h2 => exact .tup (sqT_mono s h1) (VRs.dp s xs _ h2 (by simpa [isD] using d))
  | .lst xs, _, h, d => by
    cases h with
    | lst h1 h2 => exact .lst (.inl (rd_mono s h1)) (VRs.dp s xs _ h2 (by simpa [isD] using d))
  | .ty _, _, _, d => by simp [isD] at d
  | .glo _, _, _, d => by simp [isD] at d
  | .obj _ _ _, _, _, d => by simp [isD] at d
  | .dct _ _, _, _, d => by simp [isD] at d
theorem VRs.dp (s : Same F H) : ∀ (xs : List Val) (us : List V), VRs K F xs us → isDs xs = true → DpAll K H us (toPs xs)
  | [], _, h, _ => by cases h; exact .nil
  | x :: xs, _, h, d => by
    have h' : isD x = true ∧ isDs xs = true := by simpa [isDs] using d
    cases h with
    | cons h1 h2 => exact .cons (VR.dp s x _ h1 h'.1) (VRs.dp s xs _ h2 h'.2)
end
theorem RdR.dp {v : Val} {u : V} (s : Same F H) (h : RdR K F H v u) (d : isD v = true) : Dp K H u (toP v) := by
  rcases h with h | ⟨t, e, h⟩
  · exact VR.dp s v u h d
  · subst e
    cases v with
    | lst xs =>
      obtain ⟨us, h1, h2⟩ := h
      exact .lst (.inl (.inl h1)) (VRs.dp s xs _ h2 (by simpa [isD] using d))
    | obj _ _ _ => simp [isD] at d
    | dct _ _ => simp [isD] at d
    | _ => exact h.elim
def rEqA (K : PySem.W.Frag) : R2 := fun x y H Q => rEqD K x y H Q ∨ rEq x y H Q
def rNeA (K : PySem.W.Frag) : R2 := fun x y H Q => rNeD K x y H Q ∨ rNe x y H Q
theorem op_eqA {X : Cx} (hu : X.A.units + 64 < cLine) : OpR X (compareOp .Eq) (rEqA X.K) := OpR.or (op_eqD hu) op_eq
theorem op_neA {X : Cx} (hu : X.A.units + 64 < cLine) : OpR X (compareOp .NotEq) (rNeA X.K) := OpR.or (op_neD hu) op_ne
theorem str_dec {a b : Str} : decide (V.str a = V.str b) = decide (a = b) := by
  by_cases h : a = b
  · rw [decide_eq_true h, decide_eq_true (by rw [h])]
  · rw [decide_eq_false h, decide_eq_false (fun z => h (by cases z; rfl))]
theorem v_eq : OpV K W oEq (rEqA K) := by
  intro B F H e σ v w x y Q C rv rw_ h
  unfold oEq at h
  split at h
  · rename_i a b
    refine .inr ?_
    rw [rv.str, rw_.str]
    exact ⟨rfl, h.ok rfl C (by rw [str_dec]; exact VR.bl _)⟩
  · by_cases hh : (dOk v && dOk w) = true
    · rw [if_pos hh] at h
      simp only [dOk, Bool.and_eq_true, decide_eq_true_eq] at hh
      exact .inl ⟨toP v, toP w, rv.dp C.rel.sub hh.1.1, rw_.dp C.rel.sub hh.2.1, shaped_of hh.1.1 hh.1.2, shaped_of hh.2.1 hh.2.2, h.ok rfl C (VR.bl _)⟩
    · rw [if_neg hh] at h
      exact h.elim
theorem v_ne : OpV K W oNe (rNeA K) := by
  intro B F H e σ v w x y Q C rv rw_ h
  unfold oNe at h
  split at h
  · rename_i a b
    refine .inr ?_
    rw [rv.str, rw_.str]
    exact ⟨rfl, h.ok rfl C (by rw [str_dec]; exact VR.bl _)⟩
  · by_cases hh : (dOk v && dOk w) = true
    · rw [if_pos hh] at h
      simp only [dOk, Bool.and_eq_true, decide_eq_true_eq] at hh
      exact .inl ⟨toP v, toP w, rv.dp C.rel.sub hh.1.1, rw_.dp C.rel.sub hh.2.1, shaped_of hh.1.1 hh.1.2, shaped_of hh.2.1 hh.2.2, h.ok rfl C (VR.bl _)⟩
    · rw [if_neg hh] at h
      exact h.elim
theorem b_eq : ∀ v w e r' e', oEq v w e = .ok r' e' → ∃ b, r' = .dat (.bl b) := by
  intro v w e r' e' h
  unfold oEq at h
  split at h
  · cases h; exact ⟨_, rfl⟩
  · split at h
    · unfold mV M.ret at h; cases h; exact ⟨_, rfl⟩
    · cases h
theorem b_ne : ∀ v w e r' e', oNe v w e = .ok r' e' → ∃ b, r' = .dat (.bl b) := by
  intro v w e r' e' h
  unfold oNe at h
  split at h
  · cases h; exact ⟨_, rfl⟩
  · split at h
    · unfold mV M.ret at h; cases h; exact ⟨_, rfl⟩
    · cases h
def isNon : Val → Bool
  | .non => true
  | _ => false
def oIs (x y : Val) : M RV := if isNon y then mV (.bl (isNon x)) else M.bad
def oIsN (x y : Val) : M RV := if isNon y then mV (.bl (!isNon x)) else M.bad
theorem flat_of {v : Val} {u : V} (r : VR K F v u) (f : flat v = true) : flatV u = true := by cases r <;> first | rfl | (exfalso; simp [flat] at f; done)
theorem eqV_of {v w : Val} {x y : V} (r : VR K F v x) (q : VR K F w y) (f : flat v = true) (g : flat w = true) : eqV x y = veq v w := by
  cases r <;> cases q <;> first | rfl | (exfalso; simp [flat] at f; done) | (exfalso; simp [flat] at g; done)
theorem flats_of {vs : List Val} {us : List V} (r : VRs K F vs us) (f : vs.all flat = true) : us.all flatV = true := by
  induction vs generalizing us with
  | nil => cases r; rfl
  | cons v vs ih =>
    cases r with
    | cons a b =>
      simp only [List.all_cons, Bool.and_eq_true] at f ⊢
      exact ⟨flat_of a f.1, ih b f.2⟩
theorem inV_of {v : Val} {x : V} (r : VR K F v x) (g : flat v = true) {vs : List Val} {us : List V} (q : VRs K F vs us) (f : vs.all flat = true) : inV x us = inF v vs := by
  unfold inV inF
  induction vs generalizing us with
  | nil => cases q; rfl
  | cons w vs ih =>
    cases q with
    | cons a b =>
      simp only [List.all_cons, Bool.and_eq_true] at f
      rw [List.any_cons, List.any_cons, eqV_of a r f.1 g, ih b f.2]
theorem v_in (n : Bool) : OpV K W (oInG n) (rIn K n) := by
  intro B F H e σ v w x y Q C rv rw_ h
  unfold oInG at h
  split at h
  · rename_i xs
    by_cases hh : (Pu.flat v && xs.all Pu.flat) = true
    · rw [if_pos hh] at h
      rw [Bool.and_eq_true] at hh
      obtain ⟨p, us, rfl, h1, h2⟩ := rw_.lst C.rel.sub
      have q := rv.flat hh.1
      refine ⟨p, us, rfl, .inl (.inl h1), flat_of q hh.1, flats_of h2 hh.2, h.ok rfl C ?_⟩
      rw [inV_of q hh.1 h2 hh.2]
      exact VR.bl _
    · rw [if_neg hh] at h
      exact h.elim
  · rename_i xs
    by_cases hh : (Pu.flat v && xs.all Pu.flat) = true
    · rw [if_pos hh] at h
      rw [Bool.and_eq_true] at hh
      obtain ⟨p, us, rfl, h1, h2⟩ := rw_.tup C.rel.sub
      have q := rv.flat hh.1
      refine ⟨p, us, rfl, .inr h1, flat_of q hh.1, flats_of h2 hh.2, h.ok rfl C ?_⟩
      rw [inV_of q hh.1 h2 hh.2]
      exact VR.bl _
    · rw [if_neg hh] at h
      exact h.elim
  · exact h.elim
theorem b_in {n : Bool} : ∀ v w e r' e', oInG n v w e = .ok r' e' → ∃ b, r' = .dat (.bl b) := by
  intro v w e r' e' h
  unfold oInG at h
  split at h
  · split at h
    · unfold mV M.ret at h; cases h; exact ⟨_, rfl⟩
    · cases h
  · split at h
    · unfold mV M.ret at h; cases h; exact ⟨_, rfl⟩
    · cases h
  · cases h
theorem atI_of {vs : List Val} {us : List V} (r : VRs K F vs us) {i : Int} {v : Val} (h : atI vs i = some v) : ∃ u, atI us i = some u ∧ VR K F v u := by
  unfold atI at h ⊢
  rw [← r.length]
  cases q : ixN vs.length i with
  | none => rw [q] at h; cases h
  | some j =>
    rw [q] at h
    exact r.get h
theorem v_ix : OpV K W oIx (rIx K) := by
  intro B F H e σ v w x y Q C rv rw_ h
  unfold oIx at h
  split at h
  · rename_i xs i
    split at h
    · rename_i z hz
      obtain ⟨p, us, rfl, h1, h2⟩ := rv.lst C.rel.sub
      obtain ⟨u, h3, h4⟩ := atI_of h2 hz
      exact .inl ⟨p, us, i, u, rfl, rw_.int, .inl h1, h3, h.ok rfl C h4⟩
    · exact h.elim
  · rename_i xs i
    split at h
    · rename_i z hz
      obtain ⟨p, us, rfl, h1, h2⟩ := rv.tup C.rel.sub
      obtain ⟨u, h3, h4⟩ := atI_of h2 hz
      exact .inr (.inl ⟨p, us, i, u, rfl, rw_.int, h1, h3, h.ok rfl C h4⟩)
    · exact h.elim
  · rename_i z i
    by_cases hz : z.length ≤ sizeLine
    · rw [if_pos hz] at h
      split at h
      · rename_i c hc
        exact .inr (.inr ⟨z, i, c, rv.str, rw_.int, hz, hc, h.ok rfl C (VR.str _)⟩)
      · exact h.elim
    · rw [if_neg hz] at h
      exact h.elim
  · exact h.elim
end
section
variable {X : Cx} {W : WX} {a b : Expr} {ma mb : M RV} {pos : Pos}
theorem se_ix (ha : SE X W a ma) (hb : SE X W b mb) (hs : PlainIx b := by exact fun _ _ => rfl) : SE X W (.Subscript a b pos) (mBin oIx ma mb) :=
  PE.imp (pe_ix ix_seq ha hb hs) fun _ _ _ h => two v_ix h
end
end Pu
set_option Elab.async false
set_option linter.all false
set_option maxRecDepth 100000
namespace Pu
open PySem PySem.Spec PyProof.Rows L2
theorem CallR.or {X : Cx} {f : Value} {r r' : List V → Hp → VK → Prop} (h : CallR X f r) (h' : CallR X f r') : CallR X f (fun xs H Q => r xs H Q ∨ r' xs H Q) := by
  intro pins s σ H xs us Q I rs q
  rcases q with q | q
  · exact h pins s σ H xs us Q I rs q
  · exact h' pins s σ H xs us Q I rs q
def FnV (K : PySem.W.Frag) (W : WX) (f : List Val → M RV) (r : List V → Hp → VK → Prop) : Prop := ∀ {B : Bg} {F H : Hp} {e : Ev} {σ : Sig} {vs : List Val} {us : List V} {Q : VK}, Cur K B F H e σ → RdRs K F H vs us → At K W (RR K) B (f vs) F e σ H Q → r us H Q
section
variable {X : Cx} {W : WX} {a : Expr} {es : List Expr} {ms : M (List RV)} {x : Str} {p pos : Pos} {f : List Val → M RV} {r : List V → Hp → VK → Prop} {id T : String}
theorem cb {K : PySem.W.Frag} (hv : FnV K W f r) {σ : Sig} {H : Hp} {Q : VK} (h : tE K W (mCB f ms) σ H Q) : tCB r (tA K W ms) σ H Q := by
  obtain ⟨np, F, e, R, h⟩ := h
  refine use (Cur.refl R) h fun rs e1 F1 H1 us C1 q1 _ h1 => ?_
  obtain ⟨vs, rv, h2⟩ := At.rds C1.rel q1 h1
  exact hv C1 rv h2
theorem se_callB (hc : CallR X (.builtin id) r) (hv : FnV X.K W f r) (gl : Gl X x) (fr : X.mg x = none) (ha : SA X W (a :: es) ms) (hb : bootBuiltins x = some (.builtin id) := by decide +kernel) (hn : x ≠ "__name__" := by decide) (hd : (x == ("__debug__" : Str)) = false := by decide)
    (h1 : starEach (a :: es) X.env = (false, eval a X.env) :: starEach es X.env := by rfl) (h2 : (backTo pos (starEach es X.env)).any (·.1) = false := by rfl) : SE X W (.Call (.Name x p) (a :: es) [] pos) (mCB f ms) :=
  PE.imp (pe_callB hc gl fr hb ha hn hd h1 h2) fun _ _ _ h => cb hv h
theorem se_callT (hc : CallR X (.type T) r) (hv : FnV X.K W f r) (gl : Gl X x) (fr : X.mg x = none) (ha : SA X W (a :: es) ms) (hb : bootBuiltins x = some (.type T) := by decide +kernel) (hn : x ≠ "__name__" := by decide) (hd : (x == ("__debug__" : Str)) = false := by decide)
    (h1 : starEach (a :: es) X.env = (false, eval a X.env) :: starEach es X.env := by rfl) (h2 : (backTo pos (starEach es X.env)).any (·.1) = false := by rfl) : SE X W (.Call (.Name x p) (a :: es) [] pos) (mCB f ms) :=
  PE.imp (pe_callTy hc gl fr hb ha hn hd h1 h2) fun _ _ _ h => cb hv h
end
section
variable {K : PySem.W.Frag} {W : WX}
theorem RdRs.two {F H : Hp} {v w : Val} {us : List V} (h : RdRs K F H [v, w] us) : ∃ u z, us = [u, z] ∧ RdR K F H v u ∧ RdR K F H w z := by
  cases h with
  | cons a b => cases b with
    | cons c d => cases d; exact ⟨_, _, rfl, a, c⟩
theorem bls_of : ∀ {xs : List Val} {is : List Bool} {F : Hp} {us : List V}, bls? xs = some is → VRs K F xs us → us = is.map V.bl
  | [], is, F, us, h, r => by
    cases r
    cases h
    rfl
  | v :: xs, is, F, us, h, r => by
    cases v with
    | bl i =>
      cases q : bls? xs with
      | none => simp only [bls?, q] at h; cases h
      | some js =>
        simp only [bls?, q] at h
        cases h
        cases r with
        | cons a b =>
          cases a
          rw [bls_of q b]
          rfl
    | _ => cases h
abbrev rLenA (K : PySem.W.Frag) : List V → Hp → VK → Prop := fun xs H Q => (∃ p ys, xs = [.ref p] ∧ (SqL K H p ys ∨ SqT K H p ys) ∧ Q (.int ys.length) H) ∨ (∃ z, xs = [.str z] ∧ z.length ≤ sizeLine ∧ Q (.int z.length) H)
theorem c_len {X : Cx} : CallR X (.builtin "len") (rLenA X.K) := CallR.or call_len_seq call_len_str
theorem v_len : FnV K W fLen (rLenA K) := by
  intro B F H e σ vs us Q C r h
  unfold fLen at h
  split at h
  · obtain ⟨u, rfl, q⟩ := r.one
    obtain ⟨a, us, rfl, h1, h2⟩ := q.lst C.rel.sub
    exact .inl ⟨a, us, rfl, .inl (.inl h1), h.ok rfl C (by rw [← h2.length]; exact VR.int _)⟩
  · obtain ⟨u, rfl, q⟩ := r.one
    obtain ⟨a, us, rfl, h1, h2⟩ := q.tup C.rel.sub
    exact .inl ⟨a, us, rfl, .inr h1, h.ok rfl C (by rw [← h2.length]; exact VR.int _)⟩
  · rename_i x
    obtain ⟨u, rfl, q⟩ := r.one
    by_cases hz : x.length ≤ sizeLine
    · rw [if_pos hz] at h
      exact .inr ⟨x, by rw [q.str], hz, h.ok rfl C (VR.int _)⟩
    · rw [if_neg hz] at h
      exact h.elim
  · exact h.elim
theorem v_abs : FnV K W fAbs (fun xs H Q => ∃ i, xs = [.int i] ∧ Q (.int (if i < 0 then -i else i)) H) := by
  intro B F H e σ vs us Q C r h
  unfold fAbs at h
  split at h
  · obtain ⟨u, rfl, q⟩ := r.one
    exact ⟨_, by rw [q.int], h.ok rfl C (VR.int _)⟩
  · exact h.elim
theorem v_int : FnV K W fInt (fun xs H Q => (∃ i, xs = [.int i] ∧ Q (.int i) H) ∨ ∃ k, xs = [.bl k] ∧ Q (.int (if k then 1 else 0)) H) := by
  intro B F H e σ vs us Q C r h
  unfold fInt at h
  split at h
  · obtain ⟨u, rfl, q⟩ := r.one
    exact .inl ⟨_, by rw [q.int], h.ok rfl C (VR.int _)⟩
  · obtain ⟨u, rfl, q⟩ := r.one
    exact .inr ⟨_, by rw [q.bl], h.ok rfl C (VR.int _)⟩
  · exact h.elim
theorem v_max2 : FnV K W fMax2 (fun xs H Q => ∃ i j, xs = [.int i, .int j] ∧ Q (.int (if j > i then j else i)) H) := by
  intro B F H e σ vs us Q C r h
  unfold fMax2 at h
  split at h
  · obtain ⟨u, z, rfl, q1, q2⟩ := r.two
    exact ⟨_, _, by rw [q1.int, q2.int], h.ok rfl C (VR.int _)⟩
  · exact h.elim
theorem v_min2 : FnV K W fMin2 (fun xs H Q => ∃ i j, xs = [.int i, .int j] ∧ Q (.int (if j < i then j else i)) H) := by
  intro B F H e σ vs us Q C r h
  unfold fMin2 at h
  split at h
  · obtain ⟨u, z, rfl, q1, q2⟩ := r.two
    exact ⟨_, _, by rw [q1.int, q2.int], h.ok rfl C (VR.int _)⟩
  · exact h.elim
theorem v_all : FnV K W fAll (rAll K) := by
  intro B F H e σ vs us Q C r h
  unfold fAll at h
  split at h
  · split at h
    · rename_i xs is hq
      obtain ⟨u, rfl, q⟩ := r.one
      obtain ⟨a, us, rfl, h1, h2⟩ := q.lst C.rel.sub
      exact ⟨a, is, rfl, .inl (by rw [← bls_of hq h2]; exact h1), h.ok rfl C (VR.bl _)⟩
    · exact h.elim
  · exact h.elim
end
theorem int_small {i : Int} (h : -1606938044258990275541962092341162602522202993782792835301376 < i ∧ i < 1606938044258990275541962092341162602522202993782792835301376) : i.natAbs.log2 < 200 :=
  PySem.Flt.log2_lt_of (by decide) (show i.natAbs < 2 ^ 200 from natAbs_lt (by simpa using h.1) (by simpa using h.2))
mutual
theorem show_ok : ∀ v : Val, isD v = true → iOk v = true → (toP v).showable = true ∧ (toP v).hasDict = false ∧ (toP v).shown.length ≤ rsz v
  | .non, _, _ => ⟨by simp [toP, PyData.showable], by simp [toP, PyData.hasDict], by simp only [toP, PyData.shown, rsz]; decide⟩
  | .bl b, _, _ => ⟨by simp [toP, PyData.showable], by simp [toP, PyData.hasDict], by simp only [toP, PyData.shown, rsz]; cases b <;> decide⟩
  | .int i, _, h => by
    have h' : i.natAbs.log2 < 200 := int_small (by simpa [iOk] using h)
    refine ⟨by simp only [toP, PyData.showable, decide_eq_true_eq]; omega, by simp [toP, PyData.hasDict], ?_⟩
    simp only [toP, PyData.shown, rsz]
    have q := int_text_length_le (a := i) (k := 200) (by decide) h'
    have e : (Str.ofString (toString i)).length = (toString i).length := PySem.ofString_length _
    show (Str.ofString (toString i)).length ≤ 202
    omega
  | .str x, d, _ => by
    refine ⟨by simp [toP, PyData.showable], by simp [toP, PyData.hasDict], ?_⟩
    simp only [toP, PyData.shown, rsz]
    refine StrLaws.reprText_len x fun c hc => ?_
    have d' : x.cps.all (· < 0x110000) = true := d
    rw [Array.all_eq_true_iff_forall_mem] at d'
    have q := d' c (Array.mem_toList_iff.mp hc)
    simp at q
    omega
  | .tup xs, d, h => by
    obtain ⟨a, b, c, e⟩ := shows_ok xs (by simpa [isD] using d) (by simpa [iOk] using h)
    refine ⟨by simpa [toP, PyData.showable] using a, by simpa [toP, PyData.hasDict] using b, ?_⟩
    simp only [toP, PyData.shown, rsz]
    have q := tupleText_len_le (PyData.shownAll (toPs xs))
    omega
  | .lst xs, d, h => by
    obtain ⟨a, b, c, e⟩ := shows_ok xs (by simpa [isD] using d) (by simpa [iOk] using h)
    refine ⟨by simpa [toP, PyData.showable] using a, by simpa [toP, PyData.hasDict] using b, ?_⟩
    simp only [toP, PyData.shown, rsz]
    have q := listText_len_le (PyData.shownAll (toPs xs))
    omega
  | .ty _, d, _ => by simp [isD] at d
  | .glo _, d, _ => by simp [isD] at d
  | .obj _ _ _, d, _ => by simp [isD] at d
  | .dct _ _, d, _ => by simp [isD] at d
theorem shows_ok : ∀ xs : List Val, isDs xs = true → iOks xs = true → PyData.showableAll (toPs xs) = true ∧ PyData.hasDictAll (toPs xs) = false ∧ ((PyData.shownAll (toPs xs)).map (·.length)).sum + 2 * (PyData.shownAll (toPs xs)).length ≤ rszs xs ∧ True
  | [], _, _ => ⟨by simp [toPs, PyData.showableAll], by simp [toPs, PyData.hasDictAll], by simp [toPs, PyData.shownAll, rszs], trivial⟩
  | x :: xs, d, h => by
    have d' : isD x = true ∧ isDs xs = true := by simpa [isDs] using d
    have h' : iOk x = true ∧ iOks xs = true := by simpa [iOks] using h
    obtain ⟨a1, b1, c1⟩ := show_ok x d'.1 h'.1
    obtain ⟨a2, b2, c2, _⟩ := shows_ok xs d'.2 h'.2
    refine ⟨by simp [toPs, PyData.showableAll, a1, a2], by simp [toPs, PyData.hasDictAll, b1, b2], ?_, trivial⟩
    simp only [toPs, PyData.shownAll, List.map_cons, List.sum_cons, List.length_cons, rszs]
    omega
end
def rRepr (K : PySem.W.Frag) : List V → Hp → VK → Prop := fun xs H Q => ∃ x d, xs = [x] ∧ Dp K H x d ∧ d.showable = true ∧ d.hasDict = false ∧ d.depth ≤ 60 ∧ d.shown.length ≤ sizeLine ∧ Q (.str d.shown) H
theorem c_repr {X : Cx} {k : Nat} (hr : Room k X.A) (hG : X.A.guards = some []) : CallR X (.builtin "repr") (rRepr X.K) := by
  intro pins s σ H xs us Q I rs h
  obtain ⟨x, d, rfl, hd, h1, h2, h3, h4, q⟩ := h
  obtain ⟨u, rfl, ru⟩ := vals1 rs
  obtain ⟨as, hreads⟩ := Dp.reads I d x u hd ru
  have un := hr.units
  cases hd with
  | non =>
    cases ru
    exact PySem.P.repr_of_none ⟨V.str _, H, I.tok _, ⟨_, rfl⟩, q⟩
  | bl b =>
    cases ru
    exact PySem.P.repr_of_bool ⟨V.str _, H, I.tok _, ⟨_, by cases b <;> rfl⟩, q⟩
  | int i =>
    obtain ⟨t, rfl⟩ := ru
    exact PySem.P.repr_of_int (by simpa [PyData.showable] using h1) ⟨V.str _, H, I.tok _, ⟨_, rfl⟩, q⟩
  | str y =>
    obtain ⟨t, rfl⟩ := ru
    exact PySem.P.repr_of_str ⟨V.str _, H, I.tok _, ⟨_, rfl⟩, q⟩ h4
  | lst hs ha =>
    cases ru
    exact repr_of_reads' hreads h1 (fun z => by rw [h2] at z; cases z) hG (by omega) (fun _ _ e => e) (fun h' u tk kk => ⟨V.str _, H, I.kept kk, ⟨_, rfl⟩, q⟩) h4
  | tup hs ha =>
    cases ru
    exact repr_of_reads' hreads h1 (fun z => by rw [h2] at z; cases z) hG (by omega) (fun _ _ e => e) (fun h' u tk kk => ⟨V.str _, H, I.kept kk, ⟨_, rfl⟩, q⟩) h4
theorem v_repr {K : PySem.W.Frag} {W : WX} : FnV K W fRepr (rRepr K) := by
  intro B F H e σ vs us Q C r h
  unfold fRepr at h
  split at h
  · rename_i v
    obtain ⟨u, rfl, q⟩ := r.one
    by_cases hh : rOk v = true
    · rw [if_pos hh] at h
      simp only [rOk, Bool.and_eq_true, decide_eq_true_eq] at hh
      obtain ⟨⟨⟨h1, h2⟩, h3⟩, h4⟩ := hh
      obtain ⟨a, b, c⟩ := show_ok v h1 h3
      exact ⟨u, toP v, rfl, q.dp C.rel.sub h1, a, b, by rw [depth_of]; exact h2, by rw [sizeLine_eq]; omega, h.ok rfl C (VR.str _)⟩
    · rw [if_neg hh] at h
      exact h.elim
  · exact h.elim
end Pu
set_option Elab.async false
set_option linter.all false
set_option maxRecDepth 100000
namespace Pu
open PySem PySem.Spec PyProof.Rows L2
def tS (K : PySem.W.Frag) (W : WX) (np : Nat) (m : S) : TS := fun D σ H => ∃ F e, Rel K F H e σ ∧ AtS K W (bg np F H e σ) m F e σ H D
abbrev SS (X : Cx) (W : WX) (np : Nat) (st : Stmt) (m : S) : Prop := PS X st (tS X.K W np m)
abbrev SB (X : Cx) (W : WX) (np : Nat) (b : List Stmt) (m : S) : Prop := PSs X b (tS X.K W np m)
section
variable {K : PySem.W.Frag} {W : WX} {α β : Type} {R1 : Bg → Hp → Hp → Ev → Sig → α → β → Prop} {B : Bg} {F F' H H' : Hp} {e e' : Ev} {σ σ' : Sig} {D : Ends}
theorem useX [Carry K R1] {m : M α} {f : α → S} {G : β → Hp → Prop} (C : Cur K B F H e σ) (h : AtS K W B (m.bind f) F e σ H D)
    (k : ∀ r e1 F1 H1 x, Cur K B F1 H1 e1 σ → R1 B F1 H1 e1 σ r x → Cur K (bg B.np F H e σ) F1 H1 e1 σ → AtS K W B (f r) F1 e1 σ H1 D → G x H1) : tM K W R1 m σ H G := by
  refine ⟨B.np, F, e, C.rel, ?_⟩
  unfold AtS M.bind at h
  unfold At
  cases hm : m e with
  | bad => rw [hm] at h; exact h
  | rs x e' =>
    rw [hm] at h
    intro F' H' cls d C' X'
    exact h F' H' σ cls d (C.trans C') X'
  | ok r e' =>
    rw [hm] at h
    intro F' H' u C' r'
    exact k r e' F' H' u (C.trans C') (Carry.out C r') C' h
theorem AtS.to {m : S} (C : Cur K B F H e σ) (h : AtS K W B m F e σ H D) : tS K W B.np m D σ H := ⟨F, e, C.rel, h.base C⟩
end
end Pu
set_option Elab.async false
set_option linter.all false
set_option maxRecDepth 100000
namespace Pu
open PySem PySem.Spec PyProof.Rows L2
structure Good (X : Cx) (k : Nat) (W : WX) : Prop where
  nd : X.N.Nodup
  calm : X.calm = true
  room : Room k X.A
  gd : X.A.guards = some []
  tk : L2N.Takes X W
  po : PassesOwn (model X.prog X.w) X.A X.env X.xe
def mRetN : S := fun e => .ok (.rt (.dat .non)) e
def mBk : S := fun e => .ok .bk e
def mCt : S := fun e => .ok .ct e
def mSetP (i : Nat) (m : M RV) : S := m.bind fun r => (M.dt r).bind fun v => fun e => .ok .nx (e.set i (.dat v))
section
variable {K : PySem.W.Frag} {W : WX} {B : Bg} {F F' H H' : Hp} {e e' : Ev} {σ σ' : Sig} {D : Ends}
theorem st_ok {i : Nat} {r : RV} {u : V} (hp : B.np ≤ i) (C : Cur K B F H e σ) (q : RR K B F H e σ r u) (h : AtS K W B (stR i r) F e σ H D) : D.nx (σ.set i (some u)) H := by
  cases r with
  | dat v => exact h.nx rfl (C.setDat q)
  | tmp v =>
    obtain ⟨t, rfl, h2, h3, h4, h5⟩ := q
    exact h.nx rfl (C.setOwn h2 h3 h4 h5 hp)
  | bor j =>
    obtain ⟨F1, e1, v, C1, _, r1, h1, _⟩ := AtS.dt C q h
    exact h1.nx rfl (C1.setDat r1)
end
section
variable {X : Cx} {W : WX} {np k : Nat} {st : Stmt} {rest a b : List Stmt} {ma mb : S} {x c : Expr} {m : M RV} {mc : M Bool} {pos : Pos}
theorem sb_nil : SB X W np [] mSkip := PSs.imp pss_nil fun D σ H ⟨F, e, R, h⟩ => h.nx rfl (Cur.refl R)
theorem sb_one (h : SS X W np st ma) : SB X W np [st] ma := pss_one h
theorem sb_cons (h1 : SS X W np st ma) (h2 : SB X W np rest mb) : SB X W np (st :: rest) (mSeq ma mb) := by
  refine PSs.imp (pss_cons h1 h2) fun D σ H h => ?_
  obtain ⟨F, e, R, h⟩ := h
  refine ⟨F, e, R, ?_⟩
  unfold AtS mSeq at h
  unfold AtS
  cases z : ma e with
  | bad => rw [z] at h; exact h
  | rs x e' => rw [z] at h; exact h
  | ok o e' =>
    rw [z] at h
    cases o with
    | nx =>
      intro F' H' σ' C
      exact AtS.to C (show AtS X.K W (bg np F H e σ) mb F' e' σ' H' D from h)
    | bk => exact h
    | ct => exact h
    | rt r => exact h
theorem ss_expr (hm : SE X W x m) (hs : swapsWith x none pos.line X.env = pure false := by rfl) : SS X W np (.Expr x pos) (mEx m) := by
  refine PS.imp (ps_expr hm hs) fun D σ H h => ?_
  obtain ⟨F, e, R, h⟩ := h
  exact useX (R1 := RR X.K) (Cur.refl R) h fun r e1 F1 H1 u C1 q1 _ h1 => h1.nx rfl C1
theorem ss_ret (hm : SE X W x m) : SS X W np (.Return (some x) pos) (mRet m) := by
  refine PS.imp (ps_ret hm) fun D σ H h => ?_
  obtain ⟨F, e, R, h⟩ := h
  exact useX (R1 := RR X.K) (Cur.refl R) h fun r e1 F1 H1 u C1 q1 _ h1 => h1.rt rfl C1 q1
theorem ss_if (hc : ST X W c mc) (ha : SB X W np a ma) (hb : SB X W np b mb) : SS X W np (.If c a b pos) (mIf mc ma mb) := by
  refine PS.imp (ps_if hc ha hb) fun D σ H h => ?_
  obtain ⟨F, e, R, h⟩ := h
  refine useX (R1 := fun _ _ _ _ _ (b c : Bool) => b = c) (Cur.refl R) h fun r e1 F1 H1 u C1 q1 _ h1 => ?_
  have eu : r = u := q1
  subst eu
  cases r with
  | true => exact AtS.to C1 h1
  | false => exact AtS.to C1 h1
theorem ss_set (i : Nat) {y : Str} {pos' : Pos} (G : Good X k W) (hm : SE X W x m) (hp : np ≤ i := by decide) (hi : X.N[i]? = some y := by rfl) (hx : Loc X.env.scope y := by first | exact Or.inl rfl | exact Or.inr rfl) (hs : swapsWith x (some (.Name y pos')) pos.line X.env = pure false := by rfl)
    (hf : X.fn y = true ∨ X.env.scope.names.lookup y = some .local := by first | exact .inl rfl | exact .inr rfl) : SS X W np (.Assign [.Name y pos'] x pos) (mSet i m) := by
  refine PS.imp (ps_set G.nd hi hx hm hs hf) fun D σ H h => ?_
  obtain ⟨F, e, R, h⟩ := h
  exact useX (R1 := RR X.K) (Cur.refl R) h fun r e1 F1 H1 u C1 q1 _ h1 => st_ok hp C1 q1 h1
end
def tG (K : PySem.W.Frag) (W : WX) (ws : List Nat) (m : Val → M Unit) : TG := fun u σ H Q => ∃ np F e v, Rel K F H e σ ∧ VR K F v u ∧ AtG K W ws (bg np F H e σ) (m v) e σ Q
abbrev SG (X : Cx) (W : WX) (ws : List Nat) (tg : Expr) (m : Val → M Unit) : Prop := PG X tg (tG X.K W ws m)
def gsN : List Val → M Unit
  | [] => M.ret ()
  | _ => M.bad
def gsC (m : Val → M Unit) (ms : List Val → M Unit) : List Val → M Unit
  | [] => M.bad
  | v :: vs => (m v).bind fun _ => ms vs
def gT (n : Nat) (ms : List Val → M Unit) (v : Val) : M Unit := match v with
  | .tup xs => if xs.length = n then ms xs else M.bad
  | .lst xs => if xs.length = n then ms xs else M.bad
  | _ => M.bad
theorem PG.imp {X : Cx} {e : Expr} {t t' : TG} (h : PG X e t) (q : ∀ u σ H Q, t' u σ H Q → t u σ H Q) : PG X e t' := ⟨fun pins s σ H v u Q I r z => h.run pins s σ H v u Q I r (q v σ H Q z)⟩
theorem PGs.imp {X : Cx} {e : List Expr} {t t' : TGs} (h : PGs X e t) (q : ∀ u σ H Q, t' u σ H Q → t u σ H Q) : PGs X e t' := ⟨fun pins s σ H v u Q I r z => h.run pins s σ H v u Q I r (q v σ H Q z)⟩
section
variable {X : Cx} {W : WX} {ws : List Nat} {np k : Nat} {x : Expr} {es : List Expr} {mg : Val → M Unit} {ms : List Val → M Unit} {pos : Pos} {m : M RV}
theorem sg_name (i : Nat) {y : Str} (nd : X.N.Nodup) (hw : i ∈ ws := by decide) (hi : X.N[i]? = some y := by rfl) (hx : Loc X.env.scope y := by first | exact Or.inl rfl | exact Or.inr rfl) (hf : X.fn y = true ∨ X.env.scope.names.lookup y = some .local := by first | exact .inl rfl | exact .inr rfl) : SG X W ws (.Name y pos) (gN i) :=
  PG.imp (pg_name nd hi hx hf) fun u σ H Q ⟨np, F, e, v, R, r, h⟩ => h.go rfl ((Cur.refl R).setDat r) (Upd.set hw)
theorem AtS.gt {K : PySem.W.Frag} {B : Bg} {F H : Hp} {e : Ev} {σ : Sig} {D : Ends} {m : M Unit} (C : Cur K B F H e σ) (h : AtS K W B (m.bind fun _ => mSkip) F e σ H D) : AtG K W ws (bg B.np F H e σ) m e σ D.nx := by
  unfold AtS M.bind mSkip at h
  unfold AtG
  cases z : m e with
  | bad => simp only [z] at h
  | rs x e' => simp only [z] at h; exact fun F' H' σ' cls d C' => h F' H' σ' cls d (C.trans C')
  | ok _ e' => simp only [z] at h; exact fun F' H' σ' C' _ => h F' H' σ' (C.trans C')
theorem ss_asg {tg : Expr} (hm : SE X W x m) (hg : SG X W ws tg mg) (hs : swapsWithSole [tg] x pos.line X.env = pure false := by rfl) (hw : swappedStores [tg] x X.env = pure none := by rfl)
    (h1 : (assignEach [tg] X.env).map (·.2) = [assign tg X.env] := by rfl) : SS X W np (.Assign [tg] x pos) (mAsg mg m) := by
  refine PS.imp (ps_asg hm hg hs hw h1) fun D σ H h => ?_
  obtain ⟨F, e, R, h⟩ := h
  refine useX (R1 := RR X.K) (Cur.refl R) h fun r e1 F1 H1 u C1 q1 _ h1 => ?_
  obtain ⟨F2, e2, v, C2, _, r2, h2, _⟩ := AtS.dt C1 q1 h1
  exact ⟨np, F2, e2, v, C2.rel, r2, AtS.gt C2 h2⟩
end
def RI (K : PySem.W.Frag) (B : Bg) (F H : Hp) (e : Ev) (σ : Sig) (vs : List Val) (J : It) : Prop :=
  ∃ (G : Hp → Prop) (Y : Nat → Hp → V → Hp → Prop), L2.Walk J vs.length G Y ∧ (∀ H, Same F H → G H) ∧
    ∀ (i : Nat) (v : Val) (B1 : Bg) (F1 H1 : Hp) (e1 : Ev) (σ1 : Sig) (x : V) (H' : Hp), vs[i]? = some v → Cur K B1 F1 H1 e1 σ1 → Same F F1 → Y i H1 x H' → ∃ F', Cur K B1 F' H' e1 σ1 ∧ Same F1 F' ∧ VR K F' v x
instance {K : PySem.W.Frag} : Carry K (RI K) := ⟨fun _ h => h⟩
abbrev SI (X : Cx) (W : WX) (tg iter : Expr) (m : M (List Val)) : Prop := PI X tg iter (tM X.K W (RI X.K) m)
theorem PI.imp {X : Cx} {tg e : Expr} {t t' : TI} (h : PI X tg e t) (q : ∀ σ H R, t' σ H R → t σ H R) : PI X tg e t' := ⟨fun pins s σ H R I z => h.run pins s σ H R I (q σ H R z)⟩
section
variable {X : Cx} {W : WX} {np k : Nat} {tg iter c : Expr} {body : List Stmt} {mi : M (List Val)} {mt : Val → M Unit} {mb : S} {mc : M Bool} {pos : Pos}
theorem ss_for {ws : List Nat} (G : Good X k W) (hi : SI X W tg iter mi) (hg : SG X W ws tg mt) (hb : SB X W np body mb) (hs : ∀ x, foldedSetIterable iter X.env x = pure x := by intro _; rfl) : SS X W np (.For tg iter body [] pos) (mFor mi mt mb) := by
  refine PS.imp (ps_for G.po G.calm hi hg hb hs) fun D σ H h => ?_
  obtain ⟨F, e, R, h⟩ := h
  refine useX (R1 := RI X.K) (Cur.refl R) h fun vs e1 F1 H1 J C1 q1 _ h1 => ?_
  obtain ⟨Gd, Y, wk, still, gives⟩ := q1
  refine for_it wk (fun i σ' H' => ∃ F' e', Cur X.K (bg np F H e σ) F' H' e' σ' ∧ Same F1 F' ∧ AtS X.K W (bg np F H e σ) (loopS mt mb (vs.drop i)) F' e' σ' H' D) ⟨F1, e1, C1, Same.refl _, h1⟩ ?_ ?_ ?_
  · rintro i σ' H' _ ⟨F', e', C', s', _⟩
    exact still H' (s'.trans C'.rel.sub)
  · rintro i x σ' H' H2 hi ⟨F', e', C', s', h'⟩ y
    have hv : vs[i]? = some vs[i] := List.getElem?_eq_getElem hi
    obtain ⟨F2, C2, s2, r2⟩ := gives i _ _ _ _ _ _ _ _ hv C' s' y
    refine ⟨np, F2, e', vs[i], C2.rel, r2, ?_⟩
    rw [List.drop_eq_getElem_cons hi] at h'
    unfold AtS loopS at h'
    unfold AtG
    cases z : mt vs[i] e' with
    | bad => simp only [z] at h'
    | rs x2 e2 =>
      simp only [z] at h'
      exact fun F' H' σ' cls d C' => h' F' H' σ' cls d (C2.trans C')
    | ok _ e2 =>
      simp only [z] at h'
      intro F3 H3 σ3 C3 _
      refine ⟨F3, e2, C3.rel, ?_⟩
      unfold AtS
      have C23 := C2.trans C3
      have s3 : Same F1 F3 := s'.trans (s2.trans C3.post.sub)
      cases z2 : mb e2 with
      | bad => simp only [z2] at h'
      | rs x3 e3 =>
        simp only [z2] at h'
        exact fun F' H' σ' cls d C' => h' F' H' σ' cls d (C23.trans C')
      | ok o e3 =>
        cases o with
        | nx =>
          simp only [z2] at h'
          intro F4 H4 σ4 C4
          exact ⟨F4, e3, C23.trans C4, s3.trans C4.post.sub, h'⟩
        | ct =>
          simp only [z2] at h'
          intro F4 H4 σ4 C4
          exact ⟨F4, e3, C23.trans C4, s3.trans C4.post.sub, h'⟩
        | bk =>
          simp only [z2] at h'
          exact fun F4 H4 σ4 C4 => h' F4 H4 σ4 (C23.trans C4)
        | rt r =>
          simp only [z2] at h'
          exact fun F4 H4 σ4 u C4 q4 => h' F4 H4 σ4 u (C23.trans C4) (q4.out C23)
  · rintro σ' H' ⟨F', e', C', s', h'⟩
    rw [List.drop_length] at h'
    exact h'.nx rfl C'
end
end Pu
set_option Elab.async false
set_option linter.all false
set_option maxRecDepth 100000
namespace Pu
open PySem PySem.Spec PyProof.Rows L2
section
variable {K : PySem.W.Frag} {W : WX} {α α' β β' : Type} {R1 : Bg → Hp → Hp → Ev → Sig → α → β → Prop} {R2 : Bg → Hp → Hp → Ev → Sig → α' → β' → Prop} {B : Bg} {F H : Hp} {e : Ev} {σ : Sig}
theorem useQ [Carry K R1] {m : M α} {f : α → M α'} {Q : β' → Hp → Prop} {G : β → Hp → Prop} (C : Cur K B F H e σ) (h : At K W R2 B (m.bind f) F e σ H Q)
    (k : ∀ r e1 F1 H1 x, m e = .ok r e1 → Cur K B F1 H1 e1 σ → R1 B F1 H1 e1 σ r x → Cur K (bg B.np F H e σ) F1 H1 e1 σ → At K W R2 B (f r) F1 e1 σ H1 Q → G x H1) : tM K W R1 m σ H G := by
  refine ⟨B.np, F, e, C.rel, ?_⟩
  unfold At M.bind at h
  unfold At
  cases hm : m e with
  | bad => rw [hm] at h; exact h
  | rs x e' =>
    rw [hm] at h
    intro F' H' cls d C' X'
    exact h F' H' cls d (C.trans C') X'
  | ok r e' =>
    rw [hm] at h
    intro F' H' u C' r'
    exact k r e' F' H' u hm (C.trans C') (Carry.out C r') C' h
end
def mRng2 (a b : M RV) : M (List Val) := a.bind fun r => b.bind fun s => (M.rd r).bind fun v => (M.rd s).bind fun w => match v, w with
  | .int i, .int j => if -4611686018427387904 ≤ i ∧ i < 4611686018427387904 ∧ -4611686018427387904 ≤ j ∧ j < 4611686018427387904 then M.ret (rangeV i j) else M.bad
  | _, _ => M.bad
section
variable {X : Cx} {W : WX} {tg a b : Expr} {ma mb : M RV} {p pos : Pos}
theorem ri_list {K : PySem.W.Frag} {B : Bg} {F H : Hp} {e : Ev} {σ : Sig} {xs : List Val} {a : Addr} {us : List V} (h1 : Rd F a (.lst us)) (h2 : VRs K F xs us) : RI K B F H e σ xs (Itl K a) := by
  have e1 := h2.length
  refine ⟨_, _, by rw [e1]; exact walk_list (K := K) (a := a) (xs := us), fun H s => Or.inl (rd_mono s h1), ?_⟩
  rintro i v B1 F1 H1 e1 σ1 x H' hv C s ⟨rfl, hx⟩
  obtain ⟨v', h3, h4⟩ := h2.get' hx
  rw [hv] at h3; cases h3
  exact ⟨F1, C, Same.refl _, h4.mono s⟩
theorem ri_tup {K : PySem.W.Frag} {B : Bg} {F H : Hp} {e : Ev} {σ : Sig} {xs : List Val} {a : Addr} {us : List V} (h1 : SqT K F a us) (h2 : VRs K F xs us) : RI K B F H e σ xs (Itt K a) := by
  have e1 := h2.length
  refine ⟨_, _, by rw [e1]; exact walk_tup (K := K) (a := a) (xs := us), fun H s => sqT_mono s h1, ?_⟩
  rintro i v B1 F1 H1 e1 σ1 x H' hv C s ⟨rfl, hx⟩
  obtain ⟨v', h3, h4⟩ := h2.get' hx
  rw [hv] at h3; cases h3
  exact ⟨F1, C, Same.refl _, h4.mono s⟩
theorem ri_rng {K : PySem.W.Frag} {B : Bg} {F H : Hp} {e : Ev} {σ : Sig} {lo hi : Int} : RI K B F H e σ (rangeV lo hi) (Itr lo (hi - lo).toNat) := by
  refine ⟨_, _, by rw [show (rangeV lo hi).length = (hi - lo).toNat by simp [rangeV]]; exact walk_range (lo := lo), fun _ _ => trivial, ?_⟩
  rintro i v B1 F1 H1 e1 σ1 x H' hv C s ⟨rfl, hx⟩
  unfold rangeV at hv
  rw [List.getElem?_map] at hv
  cases q : (List.range (hi - lo).toNat)[i]? with
  | none => rw [q] at hv; cases hv
  | some j =>
    rw [q] at hv
    have ej : j = i := by
      have := List.getElem?_eq_some_iff.mp q
      obtain ⟨h, e⟩ := this
      rw [← e]; exact (List.getElem_range h)
    cases hv
    subst hx ej
    exact ⟨F1, C, Same.refl _, VR.int _⟩
theorem si_seq (ha : SE X W a ma) : SI X W tg a (mItems ma) := by
  constructor
  intro pins s σ H R I h
  obtain ⟨np, F, e, Rl, h⟩ := h
  have stop : ∀ {P : Prop}, (∀ r e1 v e2, ma e = .ok r e1 → M.dt r e1 = .ok v e2 → (∃ xs, v = .lst xs) ∨ (∃ xs, v = .tup xs) → P) → ((∃ x e1, ma e = .rs x e1) → P) → P := fun {P} k k2 => by
    unfold At mItems M.bind at h
    cases z : ma e with
    | bad => simp only [z] at h
    | rs x e1 => exact k2 ⟨x, e1, z⟩
    | ok r e1 =>
      simp only [z] at h
      cases z2 : M.dt r e1 with
      | bad => simp only [z2] at h
      | rs x e2 => exact (dt_some _ _ z2).elim
      | ok v e2 =>
        simp only [z2] at h
        refine k r e1 v e2 z z2 ?_
        cases v with
        | lst xs => exact .inl ⟨xs, rfl⟩
        | tup xs => exact .inr ⟨xs, rfl⟩
        | _ => exact h.elim
  have asL : ((∀ r e1 v e2, ma e = .ok r e1 → M.dt r e1 = .ok v e2 → ∃ xs, v = .lst xs)) → iList X.K (tE X.K W ma) σ H R := fun only => by
    refine useQ (R1 := RR X.K) (Cur.refl Rl) h fun r e1 F1 H1 x hm C1 q1 _ h1 => ?_
    cases z2 : M.dt r e1 with
    | rs x e2 => exact (dt_some _ _ z2).elim
    | bad => unfold At M.bind at h1; simp only [z2] at h1
    | ok v e2 =>
      obtain ⟨xs, rfl⟩ := only r e1 v e2 hm z2
      obtain ⟨F2, C2, s2, r2, _⟩ := dt_go C1 q1 z2
      unfold At M.bind at h1
      simp only [z2, itemsV, M.ret] at h1
      cases r2 with
      | lst h3 h4 => exact ⟨_, rfl, ⟨_, .inl (rd_mono C2.rel.sub h3)⟩, h1 _ _ _ C2 (ri_list h3 h4)⟩
  have asT : ((∀ r e1 v e2, ma e = .ok r e1 → M.dt r e1 = .ok v e2 → ∃ xs, v = .tup xs)) → iTup X.K (tE X.K W ma) σ H R := fun only => by
    refine useQ (R1 := RR X.K) (Cur.refl Rl) h fun r e1 F1 H1 x hm C1 q1 _ h1 => ?_
    cases z2 : M.dt r e1 with
    | rs x e2 => exact (dt_some _ _ z2).elim
    | bad => unfold At M.bind at h1; simp only [z2] at h1
    | ok v e2 =>
      obtain ⟨xs, rfl⟩ := only r e1 v e2 hm z2
      obtain ⟨F2, C2, s2, r2, _⟩ := dt_go C1 q1 z2
      unfold At M.bind at h1
      simp only [z2, itemsV, M.ret] at h1
      cases r2 with
      | tup h3 h4 => exact ⟨_, rfl, ⟨_, sqT_mono C2.rel.sub h3⟩, h1 _ _ _ C2 (ri_tup h3 h4)⟩
  refine stop (fun r e1 v e2 z1 z2 kind => ?_) fun ⟨x, e1, z1⟩ => ?_
  · rcases kind with ⟨xs, rfl⟩ | ⟨xs, rfl⟩
    · refine (pi_list ha).run pins s σ H R I (asL fun r' e1' v' e2' y1 y2 => ?_)
      rw [z1] at y1; cases y1
      rw [z2] at y2; cases y2
      exact ⟨xs, rfl⟩
    · refine (pi_tup ha).run pins s σ H R I (asT fun r' e1' v' e2' y1 y2 => ?_)
      rw [z1] at y1; cases y1
      rw [z2] at y2; cases y2
      exact ⟨xs, rfl⟩
  · refine (pi_list ha).run pins s σ H R I (asL fun r' e1' v' e2' y1 y2 => ?_)
    rw [z1] at y1; cases y1
theorem sa_1 {K : PySem.W.Frag} {B : Bg} {F H : Hp} {e : Ev} {σ : Sig} {α β : Type} {R2 : Bg → Hp → Hp → Ev → Sig → α → β → Prop} {m : M RV} {f : RV → M α} {Q : β → Hp → Prop} {G : List V → Hp → Prop} (C : Cur K B F H e σ) (h : At K W R2 B (m.bind f) F e σ H Q)
    (k : ∀ r e1 F1 H1 x, Cur K B F1 H1 e1 σ → RR K B F1 H1 e1 σ r x → At K W R2 B (f r) F1 e1 σ H1 Q → G [x] H1) : tA K W (mCons m mNil) σ H G := by
  refine ⟨B.np, F, e, C.rel, ?_⟩
  unfold At M.bind at h
  unfold At mCons mNil M.bind M.ret
  cases z : m e with
  | bad => simp only [z] at h
  | rs x e1 => simp only [z] at h; exact fun F' H' cls d C' => h F' H' cls d (C.trans C')
  | ok r e1 =>
    simp only [z] at h
    intro F1 H1 us C1 q1
    cases q1 with
    | cons a b c =>
      cases c
      exact k r e1 F1 H1 _ (C.trans C1) (a.out C) h
theorem si_rng1 (gl : Gl X "range") (fr : X.mg "range" = none) (ha : SE X W a ma) (hs : starEach [a] X.env = [(false, eval a X.env)] := by rfl) : SI X W tg (.Call (.Name "range" p) [a] [] pos) (mRng1 ma) := by
  refine PI.imp (pi_range1 gl fr (sa_cons ha sa_nil hs) hs) fun σ H R h => ?_
  obtain ⟨np, F, e, Rl, h⟩ := h
  refine sa_1 (Cur.refl Rl) h fun r e1 F1 H1 x C1 q1 h1 => ?_
  obtain ⟨v, rv, h2⟩ := At.rd C1.rel q1 h1
  split at h2
  · rename_i j
    by_cases hj : -4611686018427387904 ≤ j ∧ j < 4611686018427387904
    · rw [if_pos hj] at h2
      refine ⟨j, by rw [rv.int], by omega, by omega, h2.ok rfl C1 ?_⟩
      have e3 : (j - 0).toNat = j.toNat := by simp
      rw [← e3]
      exact ri_rng
    · rw [if_neg hj] at h2
      exact h2.elim
  · exact h2.elim
end
end Pu
set_option Elab.async false
set_option linter.all false
set_option maxRecDepth 100000
namespace Pu
open PySem PySem.Spec PyProof.Rows L2
abbrev STs (X : Cx) (W : WX) (cs : List Expr) (m : M Bool) : Prop := PTs X cs (tT X.K W m)
def noW : WX := fun _ _ _ _ => False
section
variable {K : PySem.W.Frag} {W : WX} {B : Bg} {F F' H H' : Hp} {e e' : Ev} {σ σ' : Sig}
theorem Own.wiped {a : Addr} {τ τ' : Sig} : ∀ {ws : List Nat}, (∀ i, i ∉ ws → τ[i]? = τ'[i]?) → Own (wipeE e ws) τ a → Own (wipeE e ws) τ' a := fun {ws} h ⟨i, v, h1, h2⟩ => by
  have nm : ∀ {ws : List Nat} {e : Ev}, (wipeE e ws)[i]? = some (.own v) → i ∉ ws := by
    intro ws
    induction ws with
    | nil => intro e _; simp
    | cons w ws ih =>
      intro e q
      unfold wipeE at q
      rcases getset q with ⟨_, z, _⟩ | ⟨z, q⟩
      · cases z
      · simp only [List.mem_cons, not_or]
        exact ⟨fun z2 => z z2.symm, ih q⟩
  exact ⟨i, v, h1, by rw [← h i (nm h1)]; exact h2⟩
theorem wipeE_un : ∀ {ws : List Nat} {e : Ev} {i : Nat} {s : Slot}, (wipeE e ws)[i]? = some s → s = .un ∨ (i ∉ ws ∧ e[i]? = some s)
  | [], e, i, s, h => .inr ⟨by simp, h⟩
  | w :: ws, e, i, s, h => by
    unfold wipeE at h
    rcases getset h with ⟨_, z, _⟩ | ⟨z, h⟩
    · exact .inl z
    · rcases wipeE_un h with q | ⟨q1, q2⟩
      · exact .inl q
      · exact .inr ⟨by simp only [List.mem_cons, not_or]; exact ⟨fun z2 => z z2.symm, q1⟩, q2⟩
theorem wipeE_length (e : Ev) : ∀ ws : List Nat, (wipeE e ws).length = e.length
  | [] => rfl
  | w :: ws => by unfold wipeE; rw [List.length_set, wipeE_length e ws]
theorem wipe_out {i : Nat} : ∀ {ws : List Nat} {σ : Sig}, i ∉ ws → (wipe σ ws)[i]? = σ[i]?
  | [], σ, _ => rfl
  | w :: ws, σ, h => by
    simp only [List.mem_cons, not_or] at h
    unfold wipe
    rw [List.getElem?_set_ne (fun z => h.1 z.symm)]
    exact wipe_out h.2
theorem Cur.wiped {τ : Sig} {ws : List Nat} (C : Cur K B F H e σ) (hl : τ.length = σ.length) (h : ∀ i, i ∉ ws → τ[i]? = σ[i]?) : Cur K B F H (wipeE e ws) τ := by
  have own : ∀ {i : Nat} {v : Val}, (wipeE e ws)[i]? = some (.own v) → e[i]? = some (.own v) ∧ τ[i]? = σ[i]? := fun {i v} q => by
    rcases wipeE_un q with z | ⟨z1, z2⟩
    · cases z
    · exact ⟨z2, h i z1⟩
  refine ⟨C.post, ⟨C.rel.sub, by rw [wipeE_length, hl]; exact C.rel.len, fun i s o a1 a2 => ?_, fun i j v w a a1 a2 a3 a4 => ?_, C.rel.tb, C.rel.nt⟩, fun a ⟨i, v, a1, a2⟩ => ?_, by rw [wipeE_length]; exact C.ln, fun j v hj h' => ?_⟩
  · rcases wipeE_un a1 with z | ⟨z1, z2⟩
    · subst z; trivial
    · exact C.rel.slot i s o z2 (by rw [← h i z1]; exact a2)
  · obtain ⟨b1, b2⟩ := own a1
    obtain ⟨c1, c2⟩ := own a2
    exact C.rel.inj i j v w a b1 c1 (by rw [← b2]; exact a3) (by rw [← c2]; exact a4)
  · obtain ⟨b1, b2⟩ := own a1
    exact C.own a ⟨i, v, b1, by rw [← b2]; exact a2⟩
  · obtain ⟨b1, b2⟩ := own h'
    rw [b2]
    exact C.par j v hj b1
theorem wipe_in {i : Nat} : ∀ {ws : List Nat} {σ : Sig}, i ∈ ws → i < σ.length → (wipe σ ws)[i]? = some none
  | w :: ws, σ, h, hl => by
    unfold wipe
    by_cases hw : w = i
    · subst hw
      rw [List.getElem?_set_self (by rw [wipe_length]; exact hl)]
    · rw [List.getElem?_set_ne hw]
      refine wipe_in ?_ hl
      rcases List.mem_cons.mp h with q | q
      · exact absurd q.symm hw
      · exact q
theorem wipe_upd {ws : List Nat} {τ : Sig} (u : Upd ws (wipe σ ws) τ) : wipe τ ws = wipe σ ws := by
  have l1 : τ.length = σ.length := u.1.trans (wipe_length σ ws)
  refine List.ext_getElem? fun i => ?_
  by_cases hi : i ∈ ws
  · by_cases hl : i < σ.length
    · rw [wipe_in hi (by omega), wipe_in hi hl]
    · rw [List.getElem?_eq_none (by rw [wipe_length]; omega), List.getElem?_eq_none (by rw [wipe_length]; omega)]
  · rw [wipe_out hi, u.2 i hi]
theorem Cur.write {t : Addr} {o o' : HO} (C : Cur K B F H e σ) (h1 : F t = none) (h2 : ¬ Own e σ t) (h3 : B.mine t) (h4 : H t = some o) (h5 : plainO o = true := by rfl) : Cur K B F (upd H t o') e σ := by
  refine ⟨⟨C.post.sub, fun a o2 q n t5 => ?_, C.post.nw, fun a q => ?_⟩, ⟨fun b o2 q => ?_, C.rel.len, fun i s o2 a1 a2 => ?_, C.rel.inj, Tabs.put C.rel.tb h4 h5, C.rel.nt⟩, C.own, C.ln, C.par⟩
  · have ne : a ≠ t := fun z => by
      subst z
      rcases h3 with z | z
      · exact n z
      · rw [z] at q; cases q
    rw [upd_ne ne]
    exact C.post.fr a o2 q n t5
  · by_cases ha : a = t
    · rw [ha, upd_same] at q; cases q
    · rw [upd_ne ha] at q; exact C.post.kp a q
  · have ne : b ≠ t := fun z => by rw [z, h1] at q; cases q
    rw [upd_ne ne]
    exact C.rel.sub b o2 q
  · have z := C.rel.slot i s o2 a1 a2
    cases s with
    | un => trivial
    | dat v => exact z
    | own v =>
      obtain ⟨b, b1, b2, b3⟩ := z
      have ne : b ≠ t := fun z => h2 ⟨i, v, a1, by rw [a2, b1, z]⟩
      exact ⟨b, b1, b2, b3.mono (Same.refl _) (upd_ne ne)⟩
end
section
variable {X : Cx} {W : WX} {k : Nat} {elt tg iter : Expr} {ifs : List Expr} {scope : Scope} {own : List (Str × Nat)} {pos : Pos} {mi : M (List Val)} {mt : Val → M Unit} {mc : M Bool} {me : M RV}
theorem sts_nil : STs X W [] mYes := ⟨fun pins s σ H Q I ⟨np, F, e, R, h⟩ => (pts_nil (X := X)).run pins s σ H Q I (h.ok (e' := e) (r := true) rfl (Cur.refl R) rfl)⟩
theorem sts_one {c : Expr} {m : M Bool} (h : ST X W c m) : STs X W [c] m := pts_one h
theorem comp_ok {K : PySem.W.Frag} {ws : List Nat} {σ : Sig} {H : Hp} {Q : VK} (h : tE K W (mComp ws mi mt mc me) σ H Q) : tLc (tM K W (RI K) mi) (tG K noW ws mt) (tT K noW mc) (tE K noW me) ws σ H Q := by
  obtain ⟨np, F, e, R, h⟩ := h
  refine use (R1 := RI K) (Cur.refl R) h fun vs e1 F1 H1 J C1 q1 _ h1 => ?_
  obtain ⟨Gd, Y, wk, still, gives⟩ := q1
  intro D hD
  have lw : (wipe σ ws).length = σ.length := wipe_length σ ws
  -- what holds between two turns
  let Pv : Nat → Hp → Prop := fun i H' => ∃ F' e' acc us, Cur K (bg np F H e σ) F' H' (wipeE e' ws) (wipe σ ws) ∧ Same F1 F' ∧ F' D = none ∧ ¬ Own (wipeE e' ws) (wipe σ ws) D ∧ (bg np F H e σ).mine D ∧ H' D = some (.lst us) ∧ VRs K F' acc us ∧
    (match compS ws mt mc me (vs.drop i) acc (wipeE e' ws) with
      | .ok acc' e2 => ∀ F2 H2 t us2, Cur K (bg np F H e σ) F2 H2 e2 (wipe σ ws) → F2 t = none → H2 t = some (.lst us2) → VRs K F2 acc' us2 → ¬ Own e2 (wipe σ ws) t → (bg np F H e σ).mine t → (∃ e3, e2 = wipeE e3 ws) → Q (.ref t) H2
      | _ => False)
  refine lc_it wk Pv ?_ ?_ ?_ ?_
  · -- the start
    obtain ⟨C2, n2, f2, m2⟩ := C1.grow (o := .lst []) hD
    have C3 : Cur K (bg np F H e σ) F1 (upd H1 D (.lst [])) (wipeE e1 ws) (wipe σ ws) := C2.wiped lw fun i hi => wipe_out hi
    refine ⟨F1, e1, [], [], C3, Same.refl _, f2, fun z => n2 ?_, m2, upd_same, .nil, ?_⟩
    · obtain ⟨i, v, z1, z2⟩ := z
      rcases wipeE_un z1 with q | ⟨q1, q2⟩
      · cases q
      · exact ⟨i, v, q2, by rw [← wipe_out q1]; exact z2⟩
    · unfold At at h1
      rw [List.drop_zero]
      cases z : compS ws mt mc me vs [] (wipeE e1 ws) with
      | bad => simp only [z] at h1
      | rs x e2 =>
        -- never: a comprehension gives no exception
        exfalso
        have no : ∀ (vs acc : List Val) (e : Ev) x e2, compS ws mt mc me vs acc e ≠ .rs x e2 := by
          intro vs
          induction vs with
          | nil => intro acc e x e2 z; cases z
          | cons v r ih =>
            intro acc e x e2 z
            unfold compS at z
            split at z
            · split at z
              · split at z
                · split at z
                  · split at z
                    · exact ih _ _ _ _ z
                    · cases z
                  · cases z
                · cases z
              · exact ih _ _ _ _ z
              · cases z
            · cases z
        exact no _ _ _ _ _ z
      | ok acc' e2 =>
        simp only [z] at h1
        intro F2 H2 t us2 D1 d2 d3 d4 d5 d6 d7
        obtain ⟨e3, rfl⟩ := d7
        have D2 : Cur K (bg np F H e σ) F2 H2 (wipeE e3 ws) σ := by
          have z := D1.wiped (ws := ws) (τ := σ) lw.symm fun i hi => (wipe_out hi).symm
          have twice : wipeE (wipeE e3 ws) ws = wipeE e3 ws := by
            refine List.ext_getElem? fun i => ?_
            have l1 : (wipeE (wipeE e3 ws) ws).length = (wipeE e3 ws).length := wipeE_length _ _
            cases q : (wipeE (wipeE e3 ws) ws)[i]? with
            | none =>
              have := List.getElem?_eq_none_iff.mp q
              exact (List.getElem?_eq_none (by omega)).symm
            | some s =>
              rcases wipeE_un q with z | ⟨z1, z2⟩
              · have il : i < (wipeE e3 ws).length := by
                  have := (List.getElem?_eq_some_iff.mp q).1
                  omega
                by_cases hi : i ∈ ws
                · subst z
                  have un : ∀ {ws : List Nat} {e : Ev}, i ∈ ws → i < e.length → (wipeE e ws)[i]? = some .un := by
                    intro ws
                    induction ws with
                    | nil => intro e hm; cases hm
                    | cons w ws ih =>
                      intro e hm hl
                      unfold wipeE
                      by_cases hw : w = i
                      · subst hw
                        rw [List.getElem?_set_self (by rw [wipeE_length]; exact hl)]
                      · rw [List.getElem?_set_ne hw]
                        refine ih ?_ hl
                        rcases List.mem_cons.mp hm with q | q
                        · exact absurd q.symm hw
                        · exact q
                  exact (un hi (by rw [wipeE_length] at il; exact il)).symm
                · have keep : ∀ {ws : List Nat} {e : Ev}, i ∉ ws → (wipeE e ws)[i]? = e[i]? := by
                    intro ws
                    induction ws with
                    | nil => intro e _; rfl
                    | cons w ws ih =>
                      intro e hm
                      simp only [List.mem_cons, not_or] at hm
                      unfold wipeE
                      rw [List.getElem?_set_ne (fun z => hm.1 z.symm)]
                      exact ih hm.2
                  rw [keep hi] at q
                  exact q.symm
              · exact z2.symm
          rw [twice] at z
          exact z
        refine h1 F2 H2 (.ref t) D2 ⟨t, rfl, d2, ⟨us2, d3, d4⟩, fun ⟨i, v, z1, z2⟩ => d5 ?_, d6⟩
        rcases wipeE_un z1 with q | ⟨q1, q2⟩
        · cases q
        · exact ⟨i, v, z1, by rw [wipe_out q1]; exact z2⟩
  · rintro i H' _ ⟨F', e', acc, us, C', s', _⟩
    exact still H' (s'.trans C'.rel.sub)
  · -- a turn
    rintro i x H' H2 hi ⟨F', e', acc, us, C', s', fD, oD, mD, hD', ra, h'⟩ y
    have hv : vs[i]? = some vs[i] := List.getElem?_eq_getElem hi
    obtain ⟨F2, C2, s2, r2⟩ := gives i _ _ _ _ _ _ _ _ hv C' s' y
    rw [List.drop_eq_getElem_cons hi] at h'
    have keepD : ∀ {F3 H3 : Hp} {e3 : Ev} {σ3 : Sig}, Cur K (bg np F' H' (wipeE e' ws) (wipe σ ws)) F3 H3 e3 σ3 → F3 D = none ∧ H3 D = some (.lst us) ∧ ¬ Own e3 σ3 D := fun {F3 H3 e3 σ3} c => by
      have no : ¬ (bg np F' H' (wipeE e' ws) (wipe σ ws)).mine D := fun z => by
        rcases z with z | z
        · exact oD z
        · have z' : H' D = none := z
          rw [hD'] at z'; cases z'
      refine ⟨?_, c.post.fr D _ hD' oD (fun _ z => by cases z), fun z => no (c.own D z)⟩
      cases q : F3 D with
      | none => rfl
      | some o =>
        rcases c.post.nw D (by rw [q]; simp) with z | z
        · exact absurd fD z
        · exact absurd z no
    -- the walk itself gave the item: since the turn's beginning
    obtain ⟨F2', C2', s2', r2'⟩ := gives i _ (bg np F' H' (wipeE e' ws) (wipe σ ws)) _ _ _ _ _ _ hv (Cur.refl C'.rel) s' y
    refine ⟨np, F2', _, vs[i], C2'.rel, r2', ?_⟩
    unfold compS at h'
    unfold AtG
    cases z : mt vs[i] (wipeE e' ws) with
    | bad => simp only [z] at h'
    | rs x2 e2 => simp only [z] at h'
    | ok _ e2 =>
      simp only [z] at h'
      intro F3 H3 σ3 C3 up
      have D3 := C2'.trans C3
      have w3 : wipe σ3 ws = wipe σ ws := wipe_upd up
      refine ⟨w3, np, F3, e2, C3.rel, ?_⟩
      unfold At
      cases z2 : mc e2 with
      | bad => simp only [z2] at h'
      | rs x2 e2 => simp only [z2] at h'
      | ok b e3 =>
        intro F4 H4 b' C4 eb
        have eb' : b = b' := eb
        subst eb'
        have D4 := D3.trans C4
        cases b with
        | false =>
          simp only [z2] at h'
          obtain ⟨k1, k2, k3⟩ := keepD D4
          have D5 : Cur K (bg np F' H' (wipeE e' ws) (wipe σ ws)) F4 H4 (wipeE e3 ws) (wipe σ ws) := D4.wiped (by rw [← w3]; exact wipe_length _ _) fun i hi => by rw [← w3]; exact wipe_out hi
          obtain ⟨l1, l2, l3⟩ := keepD D5
          exact ⟨F4, e3, acc, us, C'.trans D5, s'.trans (D5.post.sub), l1, l3, mD, l2, ra.mono D5.post.sub, h'⟩
        | true =>
          simp only [z2] at h'
          refine ⟨np, F4, e3, C4.rel, ?_⟩
          unfold At
          cases z3 : me e3 with
          | bad => simp only [z3] at h'
          | rs x2 e2 => simp only [z3] at h'
          | ok x e4 =>
            simp only [z3] at h'
            intro F5 H5 u C5 q5
            have D5 := D4.trans C5
            have q5' : RR K (bg np F' H' (wipeE e' ws) (wipe σ ws)) F5 H5 e4 σ3 x u := q5.out D4
            cases z4 : M.dt x e4 with
            | bad => simp only [z4] at h'
            | rs x2 e2 => simp only [z4] at h'
            | ok w e5 =>
              simp only [z4] at h'
              obtain ⟨F6, C6, s6, r6, _⟩ := dt_go D5 q5' z4
              by_cases hl : acc.length < sizeLine
              · rw [if_pos hl] at h'
                have D6 : Cur K (bg np F' H' (wipeE e' ws) (wipe σ ws)) F6 H5 (wipeE e5 ws) (wipe σ ws) := C6.wiped (by rw [← w3]; exact wipe_length _ _) fun i hi => by rw [← w3]; exact wipe_out hi
                obtain ⟨l1, l2, l3⟩ := keepD D6
                refine ⟨us, l2, by rw [← ra.length]; exact hl, ?_⟩
                have D7 := C'.trans D6
                exact ⟨F6, e5, acc ++ [w], us ++ [u], D7.write l1 l3 mD l2, s'.trans D6.post.sub, l1, l3, mD, upd_same, (ra.mono D6.post.sub).append (.cons r6 .nil), h'⟩
              · rw [if_neg hl] at h'
                exact h'.elim
  · rintro H' ⟨F', e', acc, us, C', s', fD, oD, mD, hD', ra, h'⟩
    rw [List.drop_length] at h'
    exact h' F' H' D us C' fD hD' ra oD mD ⟨e', rfl⟩
theorem se_comp (hc : X.calm = true) (hN : X.N.Nodup) (hi : SI X W tg iter mi) (ok : BlkOk X.N X.env.scope scope own)
    (hg : ∀ (s : Shared) (H : Hp) (C : Addr) (cl : List (Str × Addr)) (fp : List Addr), SG (X.blk s H scope (compEnvC scope cl C X.env) fp) noW (own.map (·.2)) tg mt)
    (ht : ∀ (s : Shared) (H : Hp) (C : Addr) (cl : List (Str × Addr)) (fp : List Addr), STs (X.blk s H scope (compEnvC scope cl C X.env) fp) noW ifs mc)
    (he : ∀ (s : Shared) (H : Hp) (C : Addr) (cl : List (Str × Addr)) (fp : List Addr), SE (X.blk s H scope (compEnvC scope cl C X.env) fp) noW elt me) (hs : ∀ x, foldedSetIterable iter X.env x = pure x := by intro _; rfl) :
    SE X W (.ListComp elt [⟨tg, iter, ifs, 0⟩] scope pos) (mComp (own.map (·.2)) mi mt mc me) :=
  PE.imp (pe_lc (te := tE X.K noW me) (tt := tT X.K noW mc) (g := tG X.K noW (own.map (·.2)) mt) hc hN hi ok hg ht he hs) fun _ _ _ h => comp_ok h
end
end Pu
set_option Elab.async false
set_option linter.all false
set_option maxRecDepth 100000
namespace Pu
open PySem PySem.Spec PyProof.Rows L2
theorem outE_len : ∀ e : Ev, (outE e).length = e.length
  | [] => rfl
  | .own v :: r => congrArg Nat.succ (outE_len r)
  | .un :: r => congrArg Nat.succ (outE_len r)
  | .dat _ :: r => congrArg Nat.succ (outE_len r)
theorem outE_get : ∀ {e : Ev} {i : Nat} {s : Slot}, (outE e)[i]? = some s → s = .un ∨ ∃ v, s = .own v ∧ e[i]? = some (.own v)
  | [], i, s, h => by simp [outE] at h
  | .own v :: r, 0, s, h => by
    simp only [outE, List.getElem?_cons_zero, Option.some.injEq] at h
    exact .inr ⟨v, h.symm, rfl⟩
  | .un :: r, 0, s, h => by
    simp only [outE, List.getElem?_cons_zero, Option.some.injEq] at h
    exact .inl h.symm
  | .dat _ :: r, 0, s, h => by
    simp only [outE, List.getElem?_cons_zero, Option.some.injEq] at h
    exact .inl h.symm
  | .own v :: r, i + 1, s, h => by
    simp only [outE, List.getElem?_cons_succ] at h ⊢
    exact outE_get h
  | .un :: r, i + 1, s, h => by
    simp only [outE, List.getElem?_cons_succ] at h ⊢
    exact outE_get h
  | .dat _ :: r, i + 1, s, h => by
    simp only [outE, List.getElem?_cons_succ] at h ⊢
    exact outE_get h
def spG (K : PySem.W.Frag) (n : Nat) (f : M RV) : Sp := fun vs H Q E => vs.length = n ∧ tM K (fun c d _ H => E c d H) (RR K) f (vs.map some) H Q
section
variable {K : PySem.W.Frag} {F F' H H' : Hp} {e e' : Ev} {σ σ' : Sig} {n np k : Nat}
theorem own_app {m : Nat} (hl : e.length = σ.length) (a : Addr) : Own (e ++ List.replicate m Slot.un) (σ ++ List.replicate k none) a ↔ Own e σ a := by
  constructor
  · rintro ⟨i, v, h1, h2⟩
    by_cases hi : i < e.length
    · rw [List.getElem?_append_left hi] at h1
      rw [List.getElem?_append_left (by omega)] at h2
      exact ⟨i, v, h1, h2⟩
    · rw [List.getElem?_append_right (by omega), List.getElem?_replicate] at h1
      split at h1 <;> cases h1
  · rintro ⟨i, v, h1, h2⟩
    have hi : i < e.length := (List.getElem?_eq_some_iff.mp h1).1
    exact ⟨i, v, by rw [List.getElem?_append_left hi]; exact h1, by rw [List.getElem?_append_left (by omega)]; exact h2⟩
theorem rel_app {m : Nat} (R : Rel K F H e σ) (hm : m = k) : Rel K F H (e ++ List.replicate m Slot.un) (σ ++ List.replicate k none) := by
  have l := R.len
  have low : ∀ {i : Nat} {v : Val}, (e ++ List.replicate m Slot.un)[i]? = some (.own v) → i < e.length ∧ e[i]? = some (.own v) := fun {i v} h => by
    by_cases hi : i < e.length
    · rw [List.getElem?_append_left hi] at h; exact ⟨hi, h⟩
    · rw [List.getElem?_append_right (by omega), List.getElem?_replicate] at h
      split at h <;> cases h
  refine ⟨R.sub, by simp [l, hm], fun i s o h1 h2 => ?_, fun i j v w a h1 h2 h3 h4 => ?_, R.tb, R.nt⟩
  · by_cases hi : i < e.length
    · rw [List.getElem?_append_left hi] at h1
      rw [List.getElem?_append_left (by omega)] at h2
      exact R.slot i s o h1 h2
    · rw [List.getElem?_append_right (by omega), List.getElem?_replicate] at h1
      split at h1
      · cases h1; trivial
      · cases h1
  · obtain ⟨a1, a2⟩ := low h1
    obtain ⟨b1, b2⟩ := low h2
    rw [List.getElem?_append_left (by omega)] at h3 h4
    exact R.inj i j v w a a2 b2 h3 h4
theorem out_cur {m : Nat} {x : Ev} (hl : e.length = n) (hs : σ.length = n) (C : Cur K (bg n F H (e ++ List.replicate m Slot.un) (σ ++ List.replicate k none)) F' H' e' σ') (hx : ∀ (i : Nat) (v : Val), x[i]? = some (Slot.own v) → e'[i]? = some (Slot.own v)) (lx : x.length = e'.length) :
    Cur K (bg np F H e σ) F' H' (outE (x.take n)) σ := by
  have low : ∀ {i : Nat} {v : Val}, (outE (x.take n))[i]? = some (.own v) → i < n ∧ e'[i]? = some (.own v) ∧ σ'[i]? = σ[i]? ∧ ∃ w, e[i]? = some (.own w) := fun {i v} h => by
    rcases outE_get h with z | ⟨w, z, h2⟩
    · cases z
    · cases z
      have hi : i < n := by
        have := (List.getElem?_eq_some_iff.mp h2).1
        rw [List.length_take] at this
        omega
      rw [List.getElem?_take_of_lt hi] at h2
      have h3 := hx i v h2
      obtain ⟨h4, w, h5⟩ := C.par i v hi h3
      have h4' : σ'[i]? = (σ ++ List.replicate k none)[i]? := h4
      have h5' : (e ++ List.replicate m Slot.un)[i]? = some (.own w) := h5
      rw [List.getElem?_append_left (by omega)] at h4' h5'
      exact ⟨hi, h3, h4', w, h5'⟩
  have len : (outE (x.take n)).length = n := by
    rw [outE_len, List.length_take, lx]
    have := C.ln
    have e1 : e'.length = (e ++ List.replicate m Slot.un).length := this
    rw [List.length_append] at e1
    omega
  have O : ∀ a, (bg n F H (e ++ List.replicate m Slot.un) (σ ++ List.replicate k none)).O a ↔ Own e σ a := fun a => own_app (by omega) a
  have mine : ∀ {a}, (bg n F H (e ++ List.replicate m Slot.un) (σ ++ List.replicate k none)).mine a → (bg np F H e σ).mine a := fun {a} h => by
    rcases h with h | h
    · exact .inl ((O a).mp h)
    · exact .inr h
  refine ⟨⟨C.post.sub, fun a o h1 h2 h5 => C.post.fr a o h1 (fun z => h2 ((O a).mp z)) h5, fun a h => ?_, C.post.kp⟩, ⟨C.rel.sub, by rw [len, hs], fun i s o h1 h2 => ?_, fun i j v w a h1 h2 h3 h4 => ?_, C.rel.tb, C.rel.nt⟩, fun a ⟨i, v, h1, h2⟩ => ?_, by rw [len]; exact hl.symm, fun i v _ h => ?_⟩
  · rcases C.post.nw a h with z | z
    · exact .inl z
    · exact .inr (mine z)
  · rcases outE_get h1 with z | ⟨w, z, h3⟩
    · subst z; trivial
    · subst z
      obtain ⟨a1, a2, a3, _⟩ := low h1
      exact C.rel.slot i _ o a2 (by rw [a3]; exact h2)
  · obtain ⟨a1, a2, a3, _⟩ := low h1
    obtain ⟨b1, b2, b3, _⟩ := low h2
    exact C.rel.inj i j v w a a2 b2 (by rw [a3]; exact h3) (by rw [b3]; exact h4)
  · obtain ⟨a1, a2, a3, _⟩ := low h1
    exact mine (C.own a ⟨i, v, a2, by rw [a3]; exact h2⟩)
  · obtain ⟨a1, a2, a3, a4⟩ := low h
    exact ⟨rfl, a4⟩
theorem take_own {x : Ev} {i : Nat} {v : Val} (h : (x.set k .un)[i]? = some (.own v)) : x[i]? = some (.own v) := by
  rcases getset h with ⟨_, z, _⟩ | ⟨_, z⟩
  · cases z
  · exact z
end
section
variable {P : Program} {w : World} {K : PySem.W.Frag} {mg : Str → Option Value} {base : Heap}
theorem fn_ok {x qual : Str} {params : Arguments} {body : List Stmt} {scope : Scope} {dvs : List V} {kws : List (Str × V)} {f : Addr} {fd : FuncData} {N ps : List Str} {k n nn : Nat} {mb : S} (D : FunD K x qual params body scope dvs kws f fd) (S : FnScope N ps scope)
    (h1 : ps.length = n) (h2 : N.length = nn)
    (hb : ∀ (cdv : Value) (A : Around) (outer : List Env) (s : Shared) (H : Hp) (E : XK), Good (cxOf (L2N.CX P w) P w K mg base N qual scope f cdv A outer s H E) k (fun c d _ H => E c d H) →
      SB (cxOf (L2N.CX P w) P w K mg base N qual scope f cdv A outer s H E) (fun c d _ H => E c d H) n body mb) : FnG P w K mg base (k + 1) f fd ps (spG K n (fnDen n nn mb)) := by
  refine fnG_of D S (fun vs H Q E h => h.1.trans h1.symm) fun cdv A outer s H vs Q E hr hG h => ?_
  have G : Good (cxOf (L2N.CX P w) P w K mg base N qual scope f cdv A outer s H E) k (fun c d _ H => E c d H) :=
    ⟨S.nd, rfl, hr, guards_deeper hG, L2N.takes_of rfl rfl rfl rfl, passes_of (K := fun e s'' => L2N.CX P w outer H s E e s'') rfl⟩
  refine ⟨_, hb cdv A outer s H E G, ?_⟩
  obtain ⟨hl, np, F, e, R, h⟩ := h
  have el : e.length = n := by rw [R.len, List.length_map, hl]
  have sl : (vs.map some).length = n := by rw [List.length_map, hl]
  have R0 := rel_app (m := nn - n) (k := N.length - vs.length) R (by rw [h2, hl])
  refine ⟨F, e ++ List.replicate (nn - n) Slot.un, (show Rel K F H (e ++ List.replicate (nn - n) Slot.un) (start N vs) from R0), ?_⟩
  unfold At fnDen at h
  rw [if_pos el] at h
  unfold AtS
  show match mb (e ++ List.replicate (nn - n) Slot.un) with
    | .ok .nx e' => _
    | .ok .bk e' => _
    | .ok .ct e' => _
    | .ok (.rt r) e' => _
    | .rs x e' => _
    | .bad => _
  cases z : mb (e ++ List.replicate (nn - n) Slot.un) with
  | bad => simp only [z] at h
  | rs y e' =>
    simp only [z] at h
    intro F' H' σ' cls d C X
    exact h F' H' cls d (out_cur el sl C (fun _ _ q => q) rfl) X
  | ok o e' =>
    cases o with
    | bk => simp only [z] at h
    | ct => simp only [z] at h
    | nx =>
      simp only [z] at h
      intro F' H' σ' C
      exact h F' H' .non (out_cur el sl C (fun _ _ q => q) rfl) VR.non
    | rt r =>
      simp only [z] at h
      intro F' H' σ' u C q
      cases r with
      | dat v => exact h F' H' u (out_cur el sl C (fun _ _ q => q) rfl) q
      | tmp v =>
        obtain ⟨t, rfl, q2, q3, q4, q5⟩ := q
        have C2 := out_cur (np := np) el sl C (fun _ _ q => q) rfl
        refine h F' H' (.ref t) C2 ⟨t, rfl, q2, q3, fun ⟨i, v', a1, a2⟩ => q4 ?_, ?_⟩
        · rcases outE_get a1 with z | ⟨w', z, a3⟩
          · cases z
          · cases z
            have hi : i < n := by
              have := (List.getElem?_eq_some_iff.mp a3).1
              rw [List.length_take] at this
              omega
            rw [List.getElem?_take_of_lt hi] at a3
            obtain ⟨h4, _⟩ := C.par i v' hi a3
            have h4' : σ'[i]? = (start N vs)[i]? := h4
            refine ⟨i, v', a3, ?_⟩
            rw [h4']
            unfold L2.start
            rw [List.getElem?_append_left (by omega)]
            exact a2
        · rcases q5 with q5 | q5
          · exact .inl ((own_app (by omega) t).mp q5)
          · exact .inr q5
      | bor i =>
        unfold retV at h
        dsimp only at h
        cases z2 : e'[i]? with
        | none => simp only [z2] at h
        | some sl' =>
          cases sl' with
          | un => simp only [z2] at h
          | dat v =>
            simp only [z2] at h
            obtain ⟨y, a1, a2⟩ := C.rel.slot i _ _ z2 q
            cases a1
            exact h F' H' u (out_cur el sl C (fun _ _ q => q) rfl) a2
          | own v =>
            simp only [z2] at h
            obtain ⟨t, a1, a2, a3⟩ := C.rel.slot i _ _ z2 q
            cases a1
            have C2 := out_cur (np := np) (x := e'.set i .un) el sl C (fun _ _ q => take_own q) (List.length_set)
            refine h F' H' (.ref t) C2 ⟨t, rfl, a2, a3, fun ⟨j, v', b1, b2⟩ => ?_, ?_⟩
            · rcases outE_get b1 with z | ⟨w', z, b3⟩
              · cases z
              · cases z
                have hi : j < n := by
                  have := (List.getElem?_eq_some_iff.mp b3).1
                  rw [List.length_take] at this
                  omega
                rw [List.getElem?_take_of_lt hi] at b3
                rcases getset b3 with ⟨_, z, _⟩ | ⟨ne, b3⟩
                · cases z
                · obtain ⟨h4, _⟩ := C.par j v' hi b3
                  have h4' : σ'[j]? = (start N vs)[j]? := h4
                  have b4 : σ'[j]? = some (some (V.ref t)) := by
                    rw [h4']
                    unfold L2.start
                    rw [List.getElem?_append_left (by omega)]
                    exact b2
                  exact ne (C.rel.inj i j v v' t z2 b3 q b4)
            · rcases C.own t ⟨i, v, z2, q⟩ with q5 | q5
              · exact .inl ((own_app (by omega) t).mp q5)
              · exact .inr q5
end
end Pu
set_option Elab.async false
set_option linter.all false
set_option maxRecDepth 100000
namespace Pu
open PySem PySem.Spec PyProof.Rows L2
section
variable {K : PySem.W.Frag} {W : WX} {B : Bg} {H : Hp} {σ : Sig}
def Src (e : Ev) (σ : Sig) (rs : List RV) (us : List V) (a : Addr) : Prop := Own e σ a ∨ ∃ (j : Nat) (w : Val), rs[j]? = some (.tmp w) ∧ us[j]? = some (.ref a)
theorem dt_more {F : Hp} {e e' : Ev} {r : RV} {u : V} {v : Val} (C : Cur K B F H e σ) (h : RR K B F H e σ r u) (q : M.dt r e = .ok v e') :
    ∃ F', Cur K B F' H e' σ ∧ Same F F' ∧ VR K F' v u ∧ (∀ r' u', RR K B F H e σ r' u' → (∀ v w, r = .tmp v → r' = .tmp w → u' ≠ u) → RR K B F' H e' σ r' u') ∧
      (∀ a, Own e' σ a → Own e σ a) ∧ ∀ a, F' a ≠ none → F a ≠ none ∨ Own e σ a ∨ ∃ w, r = .tmp w ∧ u = .ref a := by
  cases r with
  | dat w =>
    obtain ⟨F', a, b, c, d⟩ := dt_go C h q
    cases q
    exact ⟨F, C, Same.refl _, h, fun _ _ z _ => z, fun _ z => z, fun _ z => .inl z⟩
  | tmp w =>
    cases q
    obtain ⟨t, h1, h2, h3, h4, h5⟩ := h
    subst h1
    refine ⟨frz F H t, C.frz h2 h4 h5 h3.nt, frz_sub h2, h3.vr (frz_sub h2) frz_same, fun r' u' z d => ?_, fun _ z => z, fun a z => ?_⟩
    · cases r' with
      | dat v => exact VR.mono (frz_sub h2) z
      | bor i => exact z
      | tmp w' =>
        obtain ⟨t', a1, a2, a3, a4, a5⟩ := z
        have ne : t' ≠ t := fun z => d v w' rfl rfl (by rw [a1, z])
        exact ⟨t', a1, by rw [frz_ne ne]; exact a2, a3.mono (frz_sub h2) rfl, a4, a5⟩
    · by_cases ha : a = t
      · exact .inr (.inr ⟨v, rfl, by rw [ha]⟩)
      · rw [frz_ne ha] at z; exact .inl z
  | bor i =>
    have h' : σ[i]? = some (some u) := h
    have q0 := q
    unfold M.dt at q
    cases z : e[i]? with
    | none => simp only [z] at q; cases q
    | some s =>
      cases s with
      | un => simp only [z] at q; cases q
      | dat w =>
        obtain ⟨F', a, b, c, d⟩ := dt_go C h q0
        simp only [z] at q
        cases q
        refine ⟨F, C, Same.refl _, ?_, fun _ _ z _ => z, fun _ z => z, fun _ z => .inl z⟩
        obtain ⟨x, h1, h2⟩ := C.rel.slot i _ _ z h'
        rw [Option.some.inj h1]; exact h2
      | own w =>
        simp only [z] at q
        cases q
        obtain ⟨t, h1, h2, h3⟩ := C.rel.slot i _ _ z h'
        have eu : u = .ref t := Option.some.inj h1
        subst eu
        have no : ∀ {a}, Own (e.set i .un) σ a → a ≠ t := fun {a} ⟨j, w, b1, b2⟩ z2 => by
          rcases getset b1 with ⟨_, z3, _⟩ | ⟨z3, b1⟩
          · cases z3
          · rw [z2] at b2
            exact z3 (C.rel.inj i j v w t z b1 h' b2)
        have ot : Own e σ t := ⟨i, v, z, h'⟩
        have C2 := (C.forget (i := i)).frz h2 (fun z2 => no z2 rfl) (C.own t ot) h3.nt
        have C3 : Cur K B (Pu.frz F H t) H ((e.set i .un).set i (.dat v)) σ := C2.slot (fun _ z => nomatch z) fun o ho => by
          rw [h'] at ho; cases ho
          exact ⟨_, rfl, h3.vr (frz_sub h2) frz_same⟩
        rw [List.set_set] at C3
        refine ⟨_, C3, frz_sub h2, h3.vr (frz_sub h2) frz_same, fun r' u' zz d => ?_, fun a z => z.unset1 Slot.dat_ne, fun a z2 => ?_⟩
        · cases r' with
          | dat v => exact VR.mono (frz_sub h2) zz
          | bor i => exact zz
          | tmp w =>
            obtain ⟨t', a1, a2, a3, a4, a5⟩ := zz
            have ne : t' ≠ t := fun z3 => a4 (by rw [z3]; exact ot)
            exact ⟨t', a1, by rw [frz_ne ne]; exact a2, a3.mono (frz_sub h2) rfl, fun z4 => a4 (z4.unset1 Slot.dat_ne), a5⟩
        · by_cases ha : a = t
          · exact .inr (.inl (by rw [ha]; exact ot))
          · rw [frz_ne ha] at z2; exact .inl z2
theorem args_ok : ∀ {ms : List Bool} {rs : List RV} {us : List V} {pe e1 e : Ev} {F : Hp}, Cur K B F H e σ → RRs K B F H e σ rs us → argsE ms rs e = some (pe, e1) →
    ∃ F1, Cur K B F1 H e1 σ ∧ Same F F1 ∧ Rel K F1 H pe (us.map some) ∧ (∀ a, Own e1 σ a → Own e σ a) ∧ (∀ a, Own pe (us.map some) a → B.mine a ∧ ¬ Own e1 σ a ∧ Src e σ rs us a) ∧
      (∀ a, F1 a ≠ none → F a ≠ none ∨ Src e σ rs us a) ∧
      (∀ (j i : Nat), ms[j]? = some true → rs[j]? = some (.bor i) → i < B.np → σ[i]? = B.sg[i]? ∧ ∃ w, B.ev[i]? = some (.own w))
  | [], [], us, pe, e1, e, F, C, r, h => by
    cases r
    cases h
    refine ⟨F, C, Same.refl _, ⟨C.rel.sub, rfl, fun i s o h => by simp at h, fun i j v w a h => by simp at h, C.rel.tb, C.rel.nt⟩, fun _ z => z, fun a ⟨i, v, h, _⟩ => by simp at h, fun _ z => .inl z, fun j i h => by simp at h⟩
  | false :: ms, r :: rs, us, pe, e1, e, F, C, q, h => by
    cases q with
    | cons q1 d t =>
      rename_i u us
      unfold argsE at h
      cases z : M.dt r e with
      | bad => simp only [z] at h; cases h
      | rs x e' => exact (dt_some _ _ z).elim
      | ok v e' =>
        simp only [z] at h
        obtain ⟨F2, C2, s2, r2, keep, om, fm⟩ := dt_more C q1 z
        cases z2 : argsE ms rs e' with
        | none => simp only [z2] at h; cases h
        | some pr =>
          obtain ⟨p, e2⟩ := pr
          simp only [z2] at h
          cases h
          obtain ⟨F3, C3, s3, R3, o3, m3, f3, p3⟩ := args_ok C2 (RRs.tail_keep keep t d) z2
          have up : ∀ {a}, Src e' σ rs us a → Src e σ (r :: rs) (u :: us) a := fun {a} y => by
            rcases y with y | ⟨j, w, y1, y2⟩
            · exact .inl (om a y)
            · exact .inr ⟨j + 1, w, by simpa using y1, by simpa using y2⟩
          refine ⟨F3, C3, s2.trans s3, ⟨R3.sub, by simp [R3.len], fun i s o h1 h2 => ?_, fun i j v' w a h1 h2 h3 h4 => ?_, R3.tb, R3.nt⟩, fun a y => om a (o3 a y), fun a ⟨i, v', h1, h2⟩ => ?_, fun a y => ?_, fun j i y1 y2 => ?_⟩
          · cases i with
            | zero =>
              simp only [List.getElem?_cons_zero, Option.some.injEq, List.map_cons] at h1 h2
              subst h1 h2
              exact ⟨u, rfl, r2.mono s3⟩
            | succ i => exact R3.slot i s o (by simpa using h1) (by simpa using h2)
          · cases i with
            | zero => simp at h1
            | succ i => cases j with
              | zero => simp at h2
              | succ j => rw [R3.inj i j v' w a (by simpa using h1) (by simpa using h2) (by simpa using h3) (by simpa using h4)]
          · cases i with
            | zero => simp at h1
            | succ i =>
              obtain ⟨y1, y2, y3⟩ := m3 a ⟨i, v', by simpa using h1, by simpa using h2⟩
              exact ⟨y1, y2, up y3⟩
          · rcases f3 a y with y | y
            · rcases fm a y with y | y | ⟨w, y1, y2⟩
              · exact .inl y
              · exact .inr (.inl y)
              · exact .inr (.inr ⟨0, w, by rw [y1]; rfl, by rw [y2]; rfl⟩)
            · exact .inr (up y)
          · cases j with
            | zero => simp at y1
            | succ j => exact p3 j i (by simpa using y1) (by simpa using y2)
  | true :: ms, .dat v :: rs, us, pe, e1, e, F, C, q, h => by
    cases q with
    | cons q1 d t =>
      rename_i u us
      unfold argsE at h
      cases z2 : argsE ms rs e with
      | none => simp only [z2] at h; cases h
      | some pr =>
        obtain ⟨p, e2⟩ := pr
        simp only [z2] at h
        cases h
        obtain ⟨F3, C3, s3, R3, o3, m3, f3, p3⟩ := args_ok C t z2
        have up : ∀ {a}, Src e σ rs us a → Src e σ (.dat v :: rs) (u :: us) a := fun {a} y => by
          rcases y with y | ⟨j, w, y1, y2⟩
          · exact .inl y
          · exact .inr ⟨j + 1, w, by simpa using y1, by simpa using y2⟩
        refine ⟨F3, C3, s3, ⟨R3.sub, by simp [R3.len], fun i s o h1 h2 => ?_, fun i j v' w a h1 h2 h3 h4 => ?_, R3.tb, R3.nt⟩, o3, fun a ⟨i, v', h1, h2⟩ => ?_, fun a y => ?_, fun j i y1 y2 => ?_⟩
        · cases i with
          | zero =>
            simp only [List.getElem?_cons_zero, Option.some.injEq, List.map_cons] at h1 h2
            subst h1 h2
            exact ⟨u, rfl, VR.mono s3 q1⟩
          | succ i => exact R3.slot i s o (by simpa using h1) (by simpa using h2)
        · cases i with
          | zero => simp at h1
          | succ i => cases j with
            | zero => simp at h2
            | succ j => rw [R3.inj i j v' w a (by simpa using h1) (by simpa using h2) (by simpa using h3) (by simpa using h4)]
        · cases i with
          | zero => simp at h1
          | succ i =>
            obtain ⟨y1, y2, y3⟩ := m3 a ⟨i, v', by simpa using h1, by simpa using h2⟩
            exact ⟨y1, y2, up y3⟩
        · rcases f3 a y with y | y
          · exact .inl y
          · exact .inr (up y)
        · cases j with
          | zero => simp at y2
          | succ j => exact p3 j i (by simpa using y1) (by simpa using y2)
  | true :: ms, .tmp v :: rs, us, pe, e1, e, F, C, q, h => by
    cases q with
    | cons q1 d t =>
      rename_i u us
      unfold argsE at h
      cases z2 : argsE ms rs e with
      | none => simp only [z2] at h; cases h
      | some pr =>
        obtain ⟨p, e2⟩ := pr
        simp only [z2] at h
        cases h
        obtain ⟨F3, C3, s3, R3, o3, m3, f3, p3⟩ := args_ok C t z2
        obtain ⟨a0, x1, x2, x3, x4, x5⟩ := q1
        subst x1
        have ns : ¬ Src e σ rs us a0 := fun y => by
          rcases y with y | ⟨j, w, y1, y2⟩
          · exact x4 y
          · exact d v rfl j w y1 y2
        have fa : F3 a0 = none := by
          cases y : F3 a0 with
          | none => rfl
          | some o =>
            rcases f3 a0 (by rw [y]; simp) with y | y
            · exact absurd x2 y
            · exact absurd y ns
        have up : ∀ {a}, Src e σ rs us a → Src e σ (.tmp v :: rs) (.ref a0 :: us) a := fun {a} y => by
          rcases y with y | ⟨j, w, y1, y2⟩
          · exact .inl y
          · exact .inr ⟨j + 1, w, by simpa using y1, by simpa using y2⟩
        have other : ∀ {i : Nat} {w : Val}, p[i]? = some (.own w) → (us.map some)[i]? = some (some (.ref a0)) → False := fun {i w} y1 y2 => ns (m3 a0 ⟨i, w, y1, y2⟩).2.2
        refine ⟨F3, C3, s3, ⟨R3.sub, by simp [R3.len], fun i s o h1 h2 => ?_, fun i j v' w a h1 h2 h3 h4 => ?_, R3.tb, R3.nt⟩, o3, fun a ⟨i, v', h1, h2⟩ => ?_, fun a y => ?_, fun j i y1 y2 => ?_⟩
        · cases i with
          | zero =>
            simp only [List.getElem?_cons_zero, Option.some.injEq, List.map_cons] at h1 h2
            subst h1 h2
            exact ⟨a0, rfl, fa, x3.mono s3 rfl⟩
          | succ i => exact R3.slot i s o (by simpa using h1) (by simpa using h2)
        · cases i with
          | zero => cases j with
            | zero => rfl
            | succ j =>
              have e0 : V.ref a0 = V.ref a := by simpa using h3
              cases e0
              exact (other (by simpa using h2) (by simpa using h4)).elim
          | succ i => cases j with
            | zero =>
              have e0 : V.ref a0 = V.ref a := by simpa using h4
              cases e0
              exact (other (by simpa using h1) (by simpa using h3)).elim
            | succ j => rw [R3.inj i j v' w a (by simpa using h1) (by simpa using h2) (by simpa using h3) (by simpa using h4)]
        · cases i with
          | zero =>
            have e0 : V.ref a0 = V.ref a := by simpa using h2
            cases e0
            exact ⟨x5, fun y => x4 (o3 _ y), .inr ⟨0, v, rfl, rfl⟩⟩
          | succ i =>
            obtain ⟨y1, y2, y3⟩ := m3 a ⟨i, v', by simpa using h1, by simpa using h2⟩
            exact ⟨y1, y2, up y3⟩
        · rcases f3 a y with y | y
          · exact .inl y
          · exact .inr (up y)
        · cases j with
          | zero => simp at y2
          | succ j => exact p3 j i (by simpa using y1) (by simpa using y2)
  | true :: ms, .bor i0 :: rs, us, pe, e1, e, F, C, q, h => by
    cases q with
    | cons q1 d t =>
      rename_i u us
      unfold argsE at h
      have q1' : σ[i0]? = some (some u) := q1
      cases z : e[i0]? with
      | none => simp only [z] at h; cases h
      | some sl => cases sl with
        | un => simp only [z] at h; cases h
        | dat w => simp only [z] at h; cases h
        | own v =>
          simp only [z] at h
          cases z2 : argsE ms rs (e.set i0 .un) with
          | none => simp only [z2] at h; cases h
          | some pr =>
            obtain ⟨p, e2⟩ := pr
            simp only [z2] at h
            cases h
            obtain ⟨a0, x1, x2, x3⟩ := C.rel.slot i0 _ _ z q1'
            have eu : u = .ref a0 := Option.some.inj x1
            subst eu
            have oa : Own e σ a0 := ⟨i0, v, z, q1'⟩
            have no : ¬ Own (e.set i0 .un) σ a0 := fun ⟨j, w, b1, b2⟩ => by
              rcases getset b1 with ⟨_, z3, _⟩ | ⟨z3, b1⟩
              · cases z3
              · exact z3 (C.rel.inj i0 j v w a0 z b1 q1' b2)
            have t1 : RRs K B F H (e.set i0 .un) σ rs us := by
              refine RRs.tail_keep (r := .bor i0) (u := .ref a0) (fun r' u' y _ => ?_) t fun v y => nomatch y
              cases r' with
              | dat v => exact y
              | bor i => exact y
              | tmp w =>
                obtain ⟨t', a1, a2, a3, a4, a5⟩ := y
                exact ⟨t', a1, a2, a3, fun y2 => a4 (y2.unset1 Slot.un_ne), a5⟩
            obtain ⟨F3, C3, s3, R3, o3, m3, f3, p3⟩ := args_ok (C.forget (i := i0)) t1 z2
            have ns : ¬ Src (e.set i0 .un) σ rs us a0 := fun y => by
              rcases y with y | ⟨j, w, y1, y2⟩
              · exact no y
              · obtain ⟨t', a1, a2, a3, a4, a5⟩ := t.mem_tmp y1 y2
                cases a1
                exact a4 oa
            have fa : F3 a0 = none := by
              cases y : F3 a0 with
              | none => rfl
              | some o =>
                rcases f3 a0 (by rw [y]; simp) with y | y
                · exact absurd x2 y
                · exact absurd y ns
            have up : ∀ {a}, Src (e.set i0 .un) σ rs us a → Src e σ (.bor i0 :: rs) (.ref a0 :: us) a := fun {a} y => by
              rcases y with y | ⟨j, w, y1, y2⟩
              · exact .inl (y.unset1 Slot.un_ne)
              · exact .inr ⟨j + 1, w, by simpa using y1, by simpa using y2⟩
            have other : ∀ {i : Nat} {w : Val}, p[i]? = some (.own w) → (us.map some)[i]? = some (some (.ref a0)) → False := fun {i w} y1 y2 => ns (m3 a0 ⟨i, w, y1, y2⟩).2.2
            refine ⟨F3, C3, s3, ⟨R3.sub, by simp [R3.len], fun i s o h1 h2 => ?_, fun i j v' w a h1 h2 h3 h4 => ?_, R3.tb, R3.nt⟩, fun a y => (o3 a y).unset1 Slot.un_ne, fun a ⟨i, v', h1, h2⟩ => ?_, fun a y => ?_, fun j i y1 y2 y3 => ?_⟩
            · cases i with
              | zero =>
                simp only [List.getElem?_cons_zero, Option.some.injEq, List.map_cons] at h1 h2
                subst h1 h2
                exact ⟨a0, rfl, fa, x3.mono s3 rfl⟩
              | succ i => exact R3.slot i s o (by simpa using h1) (by simpa using h2)
            · cases i with
              | zero => cases j with
                | zero => rfl
                | succ j =>
                  have e0 : V.ref a0 = V.ref a := by simpa using h3
                  cases e0
                  exact (other (by simpa using h2) (by simpa using h4)).elim
              | succ i => cases j with
                | zero =>
                  have e0 : V.ref a0 = V.ref a := by simpa using h4
                  cases e0
                  exact (other (by simpa using h1) (by simpa using h3)).elim
                | succ j => rw [R3.inj i j v' w a (by simpa using h1) (by simpa using h2) (by simpa using h3) (by simpa using h4)]
            · cases i with
              | zero =>
                have e0 : V.ref a0 = V.ref a := by simpa using h2
                cases e0
                exact ⟨C.own _ oa, fun y => no (o3 _ y), .inl oa⟩
              | succ i =>
                obtain ⟨y1, y2, y3⟩ := m3 a ⟨i, v', by simpa using h1, by simpa using h2⟩
                exact ⟨y1, y2, up y3⟩
            · rcases f3 a y with y | y
              · exact .inl y
              · exact .inr (up y)
            · cases j with
              | zero =>
                have e0 : i0 = i := by simpa using y2
                subst e0
                exact C.par i0 v y3 z
              | succ j => exact p3 j i (by simpa using y1) (by simpa using y2) y3
theorem call_mid {F1 F' H' : Hp} {e1 pe p' : Ev} {σp : Sig} {np : Nat} (C1 : Cur K B F1 H e1 σ) (m : ∀ a, Own pe σp a → B.mine a ∧ ¬ Own e1 σ a) (C : Cur K (bg np F1 H pe σp) F' H' p' σp) : Cur K B F' H' e1 σ := by
  refine ⟨⟨C1.post.sub.trans C.post.sub, fun a o h1 h2 h5 => C.post.fr a o (C1.post.fr a o h1 h2 h5) (fun z => ?_) h5, fun a h => ?_, fun a h => C1.post.kp a (C.post.kp a h)⟩, ⟨C.rel.sub, C1.rel.len, fun i s o h1 h2 => ?_, C1.rel.inj, C.rel.tb, C.rel.nt⟩, C1.own, C1.ln, C1.par⟩
  · rcases (m a z).1 with y | y
    · exact h2 y
    · rw [y] at h1; cases h1
  · rcases C.post.nw a h with z | z
    · exact C1.post.nw a z
    · rcases z with z | z
      · exact .inr (m a z).1
      · exact .inr (.inr (C1.post.kp a z))
  · have q := C1.rel.slot i s o h1 h2
    cases s with
    | un => trivial
    | dat v =>
      obtain ⟨u, z1, z2⟩ := q
      exact ⟨u, z1, z2.mono C.post.sub⟩
    | own v =>
      obtain ⟨a, z1, z2, z3⟩ := q
      subst z1
      have oa : Own e1 σ a := ⟨i, v, h1, h2⟩
      obtain ⟨o, ho, hpl⟩ := z3.someP
      have no : ¬ Own pe σp a := fun y => (m a y).2 oa
      refine ⟨a, rfl, ?_, z3.mono C.post.sub ((C.post.fr a o ho no (plainO_tbl hpl)).trans ho.symm)⟩
      cases y : F' a with
      | none => rfl
      | some x =>
        rcases C.post.nw a (by rw [y]; simp) with y | y
        · exact absurd z2 y
        · rcases y with y | y
          · exact absurd y no
          · have y' : H a = none := y
            rw [ho] at y'; cases y'
theorem Cur.again {F : Hp} {e : Ev} {i : Nat} {v : Val} {t : Addr} (C : Cur K B F H e σ) (hi : σ[i]? = some (some (.ref t))) (h1 : F t = none) (h2 : CellR K F H v t) (h3 : ¬ Own e σ t) (h4 : B.mine t) (hp : i < B.np → σ[i]? = B.sg[i]? ∧ ∃ w, B.ev[i]? = some (.own w)) : Cur K B F H (e.set i (.own v)) σ := by
  have other : ∀ {j : Nat} {w : Val} {a : Addr}, (e.set i (.own v))[j]? = some (.own w) → σ[j]? = some (some (.ref a)) → (i = j ∧ a = t) ∨ (i ≠ j ∧ e[j]? = some (.own w) ∧ σ[j]? = some (some (.ref a))) := fun {j w a} a1 a2 => by
    rcases getset a1 with ⟨z, _, _⟩ | ⟨z, a1⟩
    · subst z
      rw [hi] at a2
      cases a2
      exact .inl ⟨rfl, rfl⟩
    · exact .inr ⟨z, a1, a2⟩
  refine ⟨C.post, ⟨C.rel.sub, by rw [List.length_set]; exact C.rel.len, fun j q o a1 a2 => ?_, fun j k v' w a a1 a2 a3 a4 => ?_, C.rel.tb, C.rel.nt⟩, fun a q => ?_, by rw [List.length_set]; exact C.ln, fun j v' hj h => ?_⟩
  · rcases getset a1 with ⟨z, z2, _⟩ | ⟨z, a1⟩
    · subst z z2
      rw [hi] at a2
      cases a2
      exact ⟨t, rfl, h1, h2⟩
    · exact C.rel.slot j q o a1 a2
  · rcases other a1 a3 with ⟨z1, z2⟩ | ⟨z1, b1, b2⟩
    · rcases other a2 a4 with ⟨z3, _⟩ | ⟨_, c1, c2⟩
      · exact z1.symm.trans z3
      · exact absurd ⟨k, w, c1, z2 ▸ c2⟩ h3
    · rcases other a2 a4 with ⟨_, z4⟩ | ⟨_, c1, c2⟩
      · exact absurd ⟨j, v', b1, z4 ▸ b2⟩ h3
      · exact C.rel.inj j k v' w a b1 c1 b2 c2
  · obtain ⟨j, w, a1, a2⟩ := q
    rcases other a1 a2 with ⟨_, z2⟩ | ⟨_, b1, b2⟩
    · rw [z2]; exact h4
    · exact C.own a ⟨j, w, b1, b2⟩
  · rcases getset h with ⟨z, _, _⟩ | ⟨z, h⟩
    · subst z; exact hp hj
    · exact C.par j v' hj h
def OwnB (p : Ev) (rs : List RV) (us : List V) (a : Addr) : Prop := ∃ (k : Nat) (v : Val) (i : Nat), p[k]? = some (.own v) ∧ us[k]? = some (.ref a) ∧ rs[k]? = some (.bor i)
theorem back_ok {F F0 H0 : Hp} {e0 : Ev} : ∀ {ms : List Bool} {rs : List RV} {us : List V} {p e : Ev}, Cur K B F H e σ → RRs K B F0 H0 e0 σ rs us →
    (∀ (j : Nat) (v : Val), p[j]? = some (.own v) → ∃ a, us[j]? = some (.ref a) ∧ F a = none ∧ CellR K F H v a ∧ B.mine a ∧ ¬ Own e σ a) →
    (∀ (i j : Nat) (v w : Val) (a : Addr), p[i]? = some (.own v) → p[j]? = some (.own w) → us[i]? = some (.ref a) → us[j]? = some (.ref a) → i = j) →
    (∀ (j i : Nat), ms[j]? = some true → rs[j]? = some (.bor i) → i < B.np → σ[i]? = B.sg[i]? ∧ ∃ w, B.ev[i]? = some (.own w)) →
    Cur K B F H (backE ms rs p e) σ ∧ ∀ a, Own (backE ms rs p e) σ a → Own e σ a ∨ OwnB p rs us a
  | [], _, _, _, _, C, _, _, _, _ => ⟨C, fun _ z => .inl z⟩
  | m :: ms, [], _, _, _, C, _, _, _, _ => by
    unfold backE
    cases m <;> exact ⟨C, fun _ z => .inl z⟩
  | m :: ms, r :: rs, us, [], e, C, _, _, _, _ => by
    have : backE (m :: ms) (r :: rs) [] e = e := by unfold backE; cases m <;> cases r <;> rfl
    rw [this]; exact ⟨C, fun _ z => .inl z⟩
  | m :: ms, r :: rs, us, s :: p, e, C, q, hp, hj, hb => by
    cases q with
    | cons q1 d t =>
      rename_i u us
      have plain : backE (m :: ms) (r :: rs) (s :: p) e = backE ms rs p e → Cur K B F H (backE (m :: ms) (r :: rs) (s :: p) e) σ ∧ ∀ a, Own (backE (m :: ms) (r :: rs) (s :: p) e) σ a → Own e σ a ∨ OwnB (s :: p) (r :: rs) (u :: us) a := fun z => by
        rw [z]
        obtain ⟨A1, A2⟩ := back_ok (us := us) (p := p) C t (fun j v h => by
          obtain ⟨a, z⟩ := hp (j + 1) v (by simpa using h)
          exact ⟨a, by simpa using z⟩) (fun i j v w a h1 h2 h3 h4 => by
          have := hj (i + 1) (j + 1) v w a (by simpa using h1) (by simpa using h2) (by simpa using h3) (by simpa using h4)
          omega) (fun j i h1 h2 => hb (j + 1) i (by simpa using h1) (by simpa using h2))
        refine ⟨A1, fun a y => ?_⟩
        rcases A2 a y with y | ⟨i, v, b, y1, y2, y3⟩
        · exact .inl y
        · exact .inr ⟨i + 1, v, b, by simpa using y1, by simpa using y2, by simpa using y3⟩
      cases m with
      | false => exact plain (by cases r <;> rfl)
      | true => cases r with
        | dat v => exact plain rfl
        | tmp v => exact plain rfl
        | bor i0 => cases s with
          | un => exact plain rfl
          | dat v => exact plain rfl
          | own v =>
            have q1' : σ[i0]? = some (some u) := q1
            obtain ⟨a0, x1, x2, x3, x4, x5⟩ := hp 0 v rfl
            have eu : u = .ref a0 := by simpa using x1
            subst eu
            have C' := C.again (i := i0) q1' x2 x3 x5 x4 (hb 0 i0 rfl rfl)
            have oe : ∀ {a}, Own (e.set i0 (.own v)) σ a → Own e σ a ∨ a = a0 := fun {a} ⟨j, w, y1, y2⟩ => by
              rcases getset y1 with ⟨z, _, _⟩ | ⟨z, y1⟩
              · subst z
                rw [q1'] at y2
                cases y2
                exact .inr rfl
              · exact .inl ⟨j, w, y1, y2⟩
            obtain ⟨A1, A2⟩ := back_ok (ms := ms) (us := us) (p := p) C' t (fun j w h => by
              obtain ⟨a, z1, z2, z3, z4, z5⟩ := hp (j + 1) w (by simpa using h)
              have z1' : us[j]? = some (.ref a) := by simpa using z1
              refine ⟨a, z1', z2, z3, z4, fun y => ?_⟩
              rcases oe y with y | y
              · exact z5 y
              · subst y
                have := hj 0 (j + 1) v w a rfl (by simpa using h) rfl (by simpa using z1)
                omega) (fun i j v w a h1 h2 h3 h4 => by
              have := hj (i + 1) (j + 1) v w a (by simpa using h1) (by simpa using h2) (by simpa using h3) (by simpa using h4)
              omega) (fun j i h1 h2 => hb (j + 1) i (by simpa using h1) (by simpa using h2))
            refine ⟨A1, fun a y => ?_⟩
            rcases A2 a y with y | ⟨i, w, b, y1, y2, y3⟩
            · rcases oe y with y | y
              · exact .inl y
              · exact .inr ⟨0, v, i0, rfl, by rw [y]; rfl, rfl⟩
            · exact .inr ⟨i + 1, w, b, by simpa using y1, by simpa using y2, by simpa using y3⟩
end
section
variable {K : PySem.W.Frag} {W : WX} {B : Bg} {H : Hp} {σ : Sig} {F : Hp} {e : Ev}
theorem argsE_len : ∀ {ms : List Bool} {rs : List RV} {e p e1 : Ev}, argsE ms rs e = some (p, e1) → ms.length = p.length := fun {ms} => by
  induction ms with
  | nil => intro rs e p e1 z; cases rs <;> simp [argsE] at z; rw [z.1]; rfl
  | cons m ms ih =>
    intro rs e p e1 z
    cases rs with
    | nil => cases m <;> simp [argsE] at z
    | cons r rs =>
      cases m with
      | false =>
        unfold argsE at z
        split at z
        · split at z
          · rename_i a b c
            cases z
            simp [ih c]
          · cases z
        · cases z
      | true => cases r with
        | dat v =>
          unfold argsE at z
          split at z
          · rename_i a b c
            cases z
            simp [ih c]
          · cases z
        | tmp v =>
          unfold argsE at z
          split at z
          · rename_i a b c
            cases z
            simp [ih c]
          · cases z
        | bor i =>
          unfold argsE at z
          split at z
          · split at z
            · rename_i a b c
              cases z
              simp [ih c]
            · cases z
          · cases z
theorem call_core {ms : List Bool} {rs : List RV} {us : List V} {pe e1 : Ev} (C : Cur K B F H e σ) (q : RRs K B F H e σ rs us) (za : argsE ms rs e = some (pe, e1)) :
    us.length = ms.length ∧ ∃ F1, Rel K F1 H pe (us.map some) ∧ ∀ F' H' p', Cur K (bg pe.length F1 H pe (us.map some)) F' H' p' (us.map some) → Cur K B F' H' (backE ms rs p' e1) σ ∧
      (∀ v u, RR K (bg pe.length F1 H pe (us.map some)) F' H' p' (us.map some) (.tmp v) u → RR K B F' H' (backE ms rs p' e1) σ (.tmp v) u) ∧
      (∀ (j : Nat) (v w : Val) (u : V), rs[j]? = some (.tmp w) → us[j]? = some u → p'[j]? = some (.own v) → RR K B F' H' (backE ms rs p' e1) σ (.tmp v) u) := by
  obtain ⟨F1, C1, s1, R1, o1, m1, f1, p1⟩ := args_ok C q za
  have lp : pe.length = us.length := by simpa using R1.len
  refine ⟨by rw [← lp, ← argsE_len za], F1, R1, fun F' H' p' C' => ?_⟩
  have up : ∀ {j : Nat} {o : V}, us[j]? = some o → (us.map some)[j]? = some (some o) := fun {j o} y => by simp [y]
  have at_ : ∀ (j : Nat) (v : Val), p'[j]? = some (.own v) → ∃ a, us[j]? = some (.ref a) ∧ F' a = none ∧ CellR K F' H' v a ∧ B.mine a ∧ ¬ Own e1 σ a := fun j v y => by
    have jl : j < us.length := by
      have := (List.getElem?_eq_some_iff.mp y).1
      have e1 : p'.length = pe.length := C'.ln
      omega
    have uj : us[j]? = some us[j] := List.getElem?_eq_getElem jl
    obtain ⟨a, a1, a2, a3⟩ := C'.rel.slot j _ _ y (up uj)
    have a1' : us[j]? = some (.ref a) := by rw [uj]; exact a1
    obtain ⟨_, w, b1⟩ := C'.par j v (by show j < pe.length; omega) y
    obtain ⟨c1, c2, _⟩ := m1 a ⟨j, w, b1, up a1'⟩
    exact ⟨a, a1', a2, a3, c1, c2⟩
  obtain ⟨D1, D2⟩ := back_ok (call_mid C1 (fun a y => ⟨(m1 a y).1, (m1 a y).2.1⟩) C') q at_ (fun i j v w a y1 y2 y3 y4 => C'.rel.inj i j v w a y1 y2 (up y3) (up y4)) p1
  refine ⟨D1, fun v u z => ?_, fun j v w u h1 h2 h3 => ?_⟩
  · obtain ⟨t, x1, x2, x3, x4, x5⟩ := z
    refine ⟨t, x1, x2, x3, fun y => ?_, ?_⟩
    · rcases D2 t y with y | ⟨k, v', i, y1, y2, y3⟩
      · rcases x5 with x5 | x5
        · exact (m1 t x5).2.1 y
        · obtain ⟨i, v', w1, w2⟩ := y
          obtain ⟨b, b1, b2, b3⟩ := C1.rel.slot i _ _ w1 w2
          cases b1
          obtain ⟨o, b4⟩ := b3.some
          have x5' : H t = none := x5
          rw [x5'] at b4; cases b4
      · exact x4 ⟨k, v', y1, up y2⟩
    · rcases x5 with x5 | x5
      · exact (m1 t x5).1
      · exact .inr (C1.post.kp t x5)
  · obtain ⟨a, a1, a2, a3, a4, a5⟩ := at_ j v h3
    rw [h2] at a1
    cases a1
    refine ⟨a, rfl, a2, a3, fun y => ?_, a4⟩
    rcases D2 a y with y | ⟨k, v', i, y1, y2, y3⟩
    · exact a5 y
    · have := C'.rel.inj j k v v' a h3 y1 (up h2) (up y2)
      subst this
      rw [h1] at y3
      cases y3
theorem call_ok {ms : List Bool} {f : M RV} {rs : List RV} {us : List V} {Q : VK} {n : Nat} (C : Cur K B F H e σ) (q : RRs K B F H e σ rs us) (h : At K W (RR K) B (runF ms f rs) F e σ H Q) (hn : ms.length = n) : spG K n f us H Q (WE W σ) := by
  unfold At runF at h
  cases za : argsE ms rs e with
  | none => simp only [za] at h
  | some pr =>
    obtain ⟨pe, e1⟩ := pr
    simp only [za] at h
    obtain ⟨len, F1, R1, mid⟩ := call_core C q za
    refine ⟨len.trans hn, pe.length, F1, pe, R1, ?_⟩
    unfold At
    cases zf : f pe with
    | bad => simp only [zf] at h
    | rs x p' =>
      simp only [zf] at h
      exact fun F' H' cls d C' X' => h F' H' cls d (mid F' H' p' C').1 X'
    | ok r p' =>
      cases r with
      | bor i => simp only [zf] at h
      | dat v =>
        simp only [zf] at h
        exact fun F' H' u C' r' => h F' H' u (mid F' H' p' C').1 r'
      | tmp v =>
        simp only [zf] at h
        exact fun F' H' u C' r' => h F' H' u (mid F' H' p' C').1 ((mid F' H' p' C').2.1 v u r')
end
end Pu
set_option Elab.async false
set_option linter.all false
set_option maxRecDepth 100000
namespace Pu
open PySem PySem.Spec PyProof.Rows L2
section
variable {K : PySem.W.Frag} {W : WX} {B : Bg} {F H : Hp} {σ : Sig} {e : Ev}
theorem RRs.dats {ds : List Val} {dvs : List V} (h : VRs K F ds dvs) : RRs K B F H e σ (ds.map .dat) dvs := by
  induction ds generalizing dvs with
  | nil => cases h; exact .nil
  | cons d ds ih => cases h with
    | cons a b => exact .cons a (fun v z => nomatch z) (ih b)
theorem RRs.app {rs : List RV} {us : List V} {ds : List Val} {dvs : List V} (h : RRs K B F H e σ rs us) (g : VRs K F ds dvs) : RRs K B F H e σ (rs ++ ds.map .dat) (us ++ dvs) := by
  induction h with
  | nil => exact RRs.dats g
  | cons r d t ih =>
    rename_i r' u' rs us
    refine .cons r (fun v z j w h1 h2 => ?_) ih
    replace h1 : (rs ++ ds.map RV.dat)[j]? = some (.tmp w) := h1
    replace h2 : (us ++ dvs)[j]? = some u' := h2
    have tl := t.length
    by_cases hj : j < rs.length
    · rw [List.getElem?_append_left hj] at h1
      rw [List.getElem?_append_left (by omega)] at h2
      exact d v z j w h1 h2
    · rw [List.getElem?_append_right (by omega), List.getElem?_map] at h1
      cases q : ds[j - rs.length]? with
      | none => rw [q] at h1; cases h1
      | some z => rw [q] at h1; cases h1
end
section
variable {X : Cx} {W : WX} {k n : Nat} {f C : Addr} {fd : FuncData} {ps : List Str} {x m : Str} {p pos apos : Pos} {e o : Expr} {es : List Expr} {mf mo : M RV} {mr : M (List RV)} {dvs : List V} {ds : List Value} {dl : List Val}
theorem se_call (ms : List Bool) (F : FnG X.prog X.w X.K X.mg X.base k f fd ps (spG X.K n mf)) (G : Good X k W) (gl : Gl X x) (at_ : X.mg x = some (.ref f)) (kp : PySem.W.keepIn X.K (.ref f) = true)
    (hb : Binds X.K fd ps ds) (hd : Vals dvs ds) (hc : VC X.K dl dvs) (ha : SA X W (e :: es) mr) (hn : ms.length = n := by rfl) (n1 : (x == ("__debug__" : Str)) = false := by decide)
    (n2 : starEach (e :: es) X.env = (false, eval e X.env) :: starEach es X.env := by rfl) (n3 : (backTo pos (starEach es X.env)).any (·.1) = false := by rfl) :
    SE X W (.Call (.Name x p) (e :: es) [] pos) (mCall ms mf mr dl) := by
  refine PE.imp (pg_call F G.room G.gd G.tk gl at_ kp hb hd ha n1 n2 n3) fun σ H Q h => ?_
  obtain ⟨np, F, e, R, h⟩ := h
  exact use (R1 := RRs X.K) (Cur.refl R) h fun rs e1 F1 H1 us C1 q1 _ h1 => call_ok C1 (q1.app (hc F1)) h1 hn
theorem RRs.front {K : PySem.W.Frag} {B : Bg} {F1 H1 F2 H2 : Hp} {e1 e2 : Ev} {σ : Sig} {r : RV} {u : V} {rs : List RV} {us : List V} (C1 : Cur K B F1 H1 e1 σ) (q1 : RR K B F1 H1 e1 σ r u) (c2 : Cur K (bg B.np F1 H1 e1 σ) F2 H2 e2 σ)
    (q2 : RRs K (bg B.np F1 H1 e1 σ) F2 H2 e2 σ rs us) : RRs K B F2 H2 e2 σ (r :: rs) (u :: us) := by
  refine .cons (q1.carry c2) (fun v e3 j w e4 e5 => ?_) (Carry.out C1 q2)
  subst e3
  obtain ⟨t, z1, z2, z3, z4, z5⟩ := q1
  obtain ⟨o, z6⟩ := z3.some
  subst z1
  obtain ⟨t', y1, y2, y3, y4, y5⟩ := q2.mem_tmp e4 e5
  cases y1
  rcases y5 with y5 | y5
  · exact z4 y5
  · have y6 : H1 t = none := y5
    rw [z6] at y6; cases y6
theorem RR.grow {K : PySem.W.Frag} {B : Bg} {F H : Hp} {e : Ev} {σ : Sig} {o : HO} {a : Addr} {r : RV} {u : V} (h : H a = none) (q : RR K B F H e σ r u) : RR K B F (upd H a o) e σ r u := by
  cases r with
  | dat v => exact q
  | bor i => exact q
  | tmp v =>
    obtain ⟨t, z1, z2, z3, z4, z5⟩ := q
    obtain ⟨x, z6⟩ := z3.some
    exact ⟨t, z1, z2, z3.mono (Same.refl _) (upd_ne (ne_of_none z6 h)), z4, z5⟩
theorem RRs.grow {K : PySem.W.Frag} {B : Bg} {F H : Hp} {e : Ev} {σ : Sig} {o : HO} {a : Addr} {rs : List RV} {us : List V} (h : H a = none) (q : RRs K B F H e σ rs us) : RRs K B F (upd H a o) e σ rs us := by
  induction q with
  | nil => exact .nil
  | cons r d _ ih => exact .cons (r.grow h) d ih
theorem make_ok {K : PySem.W.Frag} {B : Bg} {F H : Hp} {e : Ev} {σ : Sig} {C' : Str} {ms : List Bool} {rs : List RV} {us : List V} {Q : VK} {y dx : Addr} (C : Cur K B F H e σ) (q : RRs K B F H e σ rs us) (hy : H y = none) (hx : H dx = none) (ne : dx ≠ y) (hn : ms.length + 1 = n)
    (h : At K W (RR K) B (runMk C' ms mf rs) F e σ H Q) : spG K n mf (.ref y :: us) (upd (upd H dx (.own y)) y (.ins (He.ga K C') dx [])) (fun v H2 => v = .non ∧ Q (.ref y) H2) (WE W σ) := by
  have hy2 : upd H dx (.own y) y = none := by rw [upd_ne (Ne.symm ne)]; exact hy
  obtain ⟨C1, _, _, _⟩ := C.grow (o := .own y) hx
  obtain ⟨C2, n2, f2, m2⟩ := C1.grow (o := .ins (He.ga K C') dx []) hy2
  have q2 : RRs K B F (upd (upd H dx (.own y)) y (.ins (He.ga K C') dx [])) e σ (.tmp (.obj C' [] []) :: rs) (.ref y :: us) := by
    refine .cons ⟨y, rfl, f2, ⟨dx, [], upd_same, rfl, .nil⟩, n2, m2⟩ (fun v z j w h1 h2 => ?_) ((q.grow hx).grow hy2)
    obtain ⟨t, a1, a2, a3, _⟩ := q.mem_tmp h1 h2
    cases a1
    obtain ⟨o, a4⟩ := a3.some
    rw [hy] at a4; cases a4
  unfold At runMk at h
  cases za : argsE (true :: ms) (.tmp (.obj C' [] []) :: rs) e with
  | none => simp only [za] at h
  | some pr =>
    obtain ⟨pe, e1⟩ := pr
    simp only [za] at h
    obtain ⟨len, F1, R1, mid⟩ := call_core C2 q2 za
    refine ⟨len.trans hn, pe.length, F1, pe, R1, ?_⟩
    unfold At
    cases zf : mf pe with
    | bad => simp only [zf] at h
    | rs x p' =>
      simp only [zf] at h
      exact fun F' H' cls d C' X' => h F' H' cls d (mid F' H' p' C').1 X'
    | ok r p' =>
      cases r with
      | bor i => simp only [zf] at h
      | tmp v => simp only [zf] at h
      | dat v => cases v with
        | non =>
          simp only [zf] at h
          cases z0 : p'[0]? with
          | none => simp only [z0] at h
          | some sl => cases sl with
            | un => simp only [z0] at h
            | dat w => simp only [z0] at h
            | own v =>
              simp only [z0] at h
              intro F' H' u C3 r'
              obtain ⟨D1, D2, D3⟩ := mid F' H' p' C3
              have eu : u = .non := by cases r'; rfl
              exact ⟨eu, h F' H' (.ref y) D1 (D3 0 v _ _ rfl rfl z0)⟩
        | _ => simp only [zf] at h
theorem se_make {C' : Str} (ms : List Bool) (Mk : Mk X.K (He.ga X.K C') f) (F : FnG X.prog X.w X.K X.mg X.base k f fd ps (spG X.K n mf)) (G : Good X (k + 1) W) (gl : Gl X x) (at_ : X.mg x = some (.ref (He.ga X.K C'))) (hb : Binds X.K fd ps ds) (hd : Vals dvs ds) (hc : VC X.K dl dvs)
    (ha : SA X W (e :: es) mr) (hn : ms.length + 1 = n := by rfl) (n1 : (x == ("__debug__" : Str)) = false := by decide) (n2 : starEach (e :: es) X.env = (false, eval e X.env) :: starEach es X.env := by rfl)
    (n3 : (backTo pos (starEach es X.env)).any (·.1) = false := by rfl) : SE X W (.Call (.Name x p) (e :: es) [] pos) (mMake C' ms mf mr dl) := by
  refine PE.imp (pg_make Mk F G.room G.gd G.tk gl at_ hb hd ha n1 n2 n3) fun σ H Q h => ?_
  obtain ⟨np, F, e, R, h⟩ := h
  exact use (R1 := RRs X.K) (Cur.refl R) h fun rs e1 F1 H1 us C1 q1 _ h1 y dx hy hx ne => make_ok C1 (q1.app (hc F1)) hy hx ne hn h1
end
end Pu
set_option Elab.async false
set_option linter.all false
set_option maxRecDepth 100000
namespace Pu
open PySem PySem.Spec PyProof.Rows L2
section
variable {K : PySem.W.Frag} {W : WX} {α β : Type} {R1 : Bg → Hp → Hp → Ev → Sig → α → β → Prop} {B : Bg} {F F' H H' : Hp} {e e' : Ev} {σ σ' : Sig} {ws : List Nat}
theorem useG [Carry K R1] {m : M α} {f : α → M Unit} {Q : Sig → Hp → Prop} {G : β → Hp → Prop} (C : Cur K B F H e σ) (h : AtG K W ws B (m.bind f) e σ Q)
    (k : ∀ r e1 F1 H1 x, Cur K B F1 H1 e1 σ → R1 B F1 H1 e1 σ r x → Cur K (bg B.np F H e σ) F1 H1 e1 σ → AtG K W ws B (f r) e1 σ Q → G x H1) : tM K W R1 m σ H G := by
  refine ⟨B.np, F, e, C.rel, ?_⟩
  unfold AtG M.bind at h
  unfold At
  cases hm : m e with
  | bad => rw [hm] at h; exact h
  | rs x e' =>
    rw [hm] at h
    intro F' H' cls d C' X'
    exact h F' H' σ cls d (C.trans C') X'
  | ok r e' =>
    rw [hm] at h
    intro F' H' u C' r'
    exact k r e' F' H' u (C.trans C') (Carry.out C r') C' h
theorem Cur.writeOwn {i : Nat} {v w : Val} {t : Addr} {o' : HO} (C : Cur K B F H e σ) (he : e[i]? = some (.own v)) (hs : σ[i]? = some (some (.ref t))) (h : CellR K F (upd H t o') w t) : Cur K B F (upd H t o') (e.set i (.own w)) σ := by
  obtain ⟨a, h1, h2, h3⟩ := C.rel.slot i _ _ he hs
  cases h1
  obtain ⟨o, ho, hpl⟩ := h3.someP
  have ot : Own e σ t := ⟨i, v, he, hs⟩
  have no : ¬ Own (e.set i .un) σ t := fun ⟨j, w, b1, b2⟩ => by
    rcases getset b1 with ⟨_, z3, _⟩ | ⟨z3, b1⟩
    · cases z3
    · exact z3 (C.rel.inj i j v w t he b1 hs b2)
  have C1 := ((C.forget (i := i)).write (o' := o') h2 no (C.own t ot) ho hpl).again (i := i) (v := w) hs h2 h no (C.own t ot) fun hi => C.par i v hi he
  rw [List.set_set] at C1
  exact C1
end
def mApp (mo ma : M RV) : M RV := mo.bind fun r => (M.rd r).bind fun v0 => match r, v0 with
  | .bor i, .lst _ => ma.bind fun s => (M.dt s).bind fun v => fun e => match e[i]? with
    | some (Slot.own (.lst xs)) => if xs.length < sizeLine then .ok (.dat .non) (e.set i (.own (.lst (xs ++ [v])))) else .bad
    | _ => .bad
  | _, _ => M.bad
section
variable {X : Cx} {W : WX} {o i : Expr} {mo mi : M RV} {pos : Pos} {ws : List Nat}
theorem sg_sb (ho : SE X W o mo) (hi : SE X W i mi)
    (ha : ∀ v, assign (.Subscript o i pos) X.env v = (do
      let ov ← holding [v] (eval o X.env)
      let iv ← holding [v, ov] (eval i X.env)
      standAt pos
      holding [v, ov, iv] (setItem ov iv v)
      release [v, ov, iv] []) := by intro _; rfl) : SG X W ws (.Subscript o i pos) (gSb mo mi) := by
  refine PG.imp (pg_sub ho hi (set_list (X := X)) ha) fun u σ H Q h => ?_
  obtain ⟨np, F, e, v, R, rv, h⟩ := h
  refine useG (R1 := RR X.K) (Cur.refl R) h fun r e1 F1 H1 x C1 q1 _ h1 => ?_
  refine useG (R1 := RR X.K) C1 h1 fun s e2 F2 H2 y C2 q2 c2 h2 => ?_
  obtain ⟨k, rk, h3⟩ := AtG.rd C2.rel q2 h2
  cases r with
  | dat v => exact h3.elim
  | tmp v => exact h3.elim
  | bor j => cases k with
    | int k =>
      have hj : σ[j]? = some (some x) := q1
      unfold AtG at h3
      dsimp only at h3
      cases z : e2[j]? with
      | none => simp only [z] at h3
      | some sl => cases sl with
        | un => simp only [z] at h3
        | dat w => simp only [z] at h3
        | own w => cases w with
          | lst xs =>
            simp only [z] at h3
            obtain ⟨b, b1, b2, us, b3, b4⟩ := C2.rel.slot j _ _ z hj
            cases b1
            cases z2 : ixN xs.length k with
            | none => simp only [z2] at h3
            | some n =>
              simp only [z2] at h3
              refine ⟨b, us, k, n, rfl, rk.int, b3, by rw [← b4.length]; exact z2, ?_⟩
              exact h3 F2 _ σ (C2.writeOwn z hj ⟨_, upd_same, b4.set (rv.mono C2.post.sub) n⟩) Upd.refl
          | _ => simp only [z] at h3
    | _ => exact h3.elim
end
theorem lookV_ok {K : PySem.W.Frag} {F : Hp} {f : Str} {w : Val} : ∀ {fs : List Str} {vs : List Val} {us : List V}, VRs K F vs us → lookV f fs vs = some w → ∃ u, (fs.zip us).lookup f = some u ∧ VR K F w u
  | [], vs, us, _, h => by simp [lookV] at h
  | g :: fs, [], us, _, h => by simp [lookV] at h
  | g :: fs, v :: vs, _, .cons (u := u) (us := us) a b, h => by
    unfold lookV at h
    show ∃ u', (match f == g with | true => some u | false => (fs.zip us).lookup f) = some u' ∧ VR K F w u'
    by_cases hg : g = f
    · rw [if_pos hg] at h
      cases h
      exact ⟨u, by rw [hg, beq_self_eq_true], a⟩
    · rw [if_neg hg] at h
      rw [beq_eq_false_iff_ne.mpr (Ne.symm hg)]
      exact lookV_ok b h
section
variable {X : Cx} {W : WX} {o : Expr} {mo mf : M RV} {pos : Pos} {C' f : Str} {k : Nat} {g p : Addr} {fd : FuncData} {ps : List Str}
theorem se_get (c : Cls X.K (He.ga X.K C')) (n : NoAttr X.K (He.ga X.K C') f) (ho : SE X W o mo) (hb : attributeBase o f X.env (eval o X.env) = eval o X.env := by rfl) : SE X W (.Attribute o f pos) (mGet C' f mo) := by
  refine PE.imp (pe_fld ho hb) fun σ H Q h => ?_
  obtain ⟨np, F, e, R, h⟩ := h
  refine use (R1 := RR X.K) (Cur.refl R) h fun r e1 F1 H1 u C1 q1 _ h1 => ?_
  obtain ⟨v0, rv, h2⟩ := At.rd C1.rel q1 h1
  cases v0 with
  | obj C2 fs vs =>
    dsimp only at h2
    by_cases hC : C2 = C'
    · rw [if_pos hC] at h2
      subst hC
      obtain ⟨a, dx, us, rfl, z1, z2, z3⟩ := rv.obj C1.rel.sub
      cases z : lookV f fs vs with
      | none => simp only [z] at h2; exact h2.elim
      | some w =>
        simp only [z] at h2
        obtain ⟨u, l1, l2⟩ := lookV_ok z3 z
        exact ⟨a, _, dx, _, u, rfl, z1, c, n, l1, h2.ok rfl C1 l2⟩
    · rw [if_neg hC] at h2
      exact h2.elim
  | _ => exact h2.elim
theorem prop_go {C a dx : Addr} {fs : List (Str × V)} {pins : List (Addr × Obj)} {σ : Sig} {H : Hp} {s : Shared} {Q : VK} {b : Bool} {sp : Sp} {E' : Value → Shared → Prop} (I : Inv X pins σ H s) (ea : H a = some (.ins C dx fs)) (c : Cls X.K C) (hp : PropOf X.K C f p g)
    (F : FnG X.prog X.w X.K X.mg X.base k g fd ps sp) (hr : Room (k + 1) X.A) (hG : X.A.guards = some []) (hb : Binds X.K fd ps []) (h : sp [.ref a] H Q (fun _ _ _ => False)) :
    wpAny (model X.prog X.w) X.A (getAttr (.ref a) f b) (EP X pins σ Q) E' s := by
  obtain ⟨mA, O, _⟩ := ins_get I.hok ea
  obtain ⟨od, J, _⟩ := O.look
  obtain ⟨tl, isProp⟩ := hp.rec_
  obtain ⟨plain, look⟩ := PySem.W.plainGet_of (c.get f)
  have known : (PySem.W.clsIn X.K C).isSome = true := by
    obtain ⟨cd, e, -⟩ := PySem.W.any_some c.hd
    rw [e]; rfl
  have I' := I.tok (s.toks + 1)
  have one : Vals [V.ref a] [Value.ref a] := .cons rfl .nil
  have bt := hb { s with toks := s.toks + 1 } [.ref a] I'.kIn (F.many _ _ _ _ h)
  have runs := F.goes X.A.in1 X.stack { s with toks := s.toks + 1 } H ⟨[.ref a], []⟩ [.ref a] [.ref a] Q (fun _ _ _ => False) hr.in1 (by first | exact hG | simpa using hG) I'.env0.in1 bt one h
  refine PySem.W.get_bind I.kIn J plain (PySem.W.findObj_data known hp.at_ hp.get hp.tak) look (wpAny_call (PySem.W.prop_get (s := { s with toks := s.toks + 1 }) I.kIn isProp (codeAny_mono runs fun res s' got => ?_)))
  cases res with
  | error z =>
    obtain ⟨_, _, _, _, _, _, _, _, _, _, _, _, no⟩ := got
    exact no.elim
  | ok fl => cases fl with
    | next => exact got.elim
    | brk => exact got.elim
    | cont => exact got.elim
    | ret u =>
      obtain ⟨v, H', J3, rv, q3⟩ := I'.after got
      show wpAny _ _ (handedOut u) _ _ _
      rw [PySem.W.handedOut_of (handed_of rv)]
      exact wpAny_pure ⟨v, H', J3, rv, q3⟩
def cProp (C : Addr) (sp : Sp) (ta : TE) : TE := fun σ H Q => ta σ H fun x H1 => ∃ a dx fs, x = .ref a ∧ H1 a = some (.ins C dx fs) ∧ sp [.ref a] H1 Q (fun _ _ _ => False)
theorem pg_prop {C : Addr} {ta : TE} {sp : Sp} (he : PE X o ta) (c : Cls X.K C) (hp : PropOf X.K C f p g) (F : FnG X.prog X.w X.K X.mg X.base k g fd ps sp) (hr : Room (k + 1) X.A) (hG : X.A.guards = some []) (hb : Binds X.K fd ps [])
    (plain : attributeBase o f X.env (eval o X.env) = eval o X.env) : PE X (.Attribute o f pos) (cProp C sp ta) := by
  constructor
  intro pins s σ H Q I h
  refine attr_of plain (thn (he.run pins s σ H _ I h) ?_)
  rintro u s1 ⟨y, H1, I1, ry, a, dx, fs, rfl, ea, q⟩
  obtain rfl : u = Value.ref a := ry
  exact prop_go I1 ea c hp F hr hG hb q
theorem se_prop (ho : SE X W o mo) (c : Cls X.K (He.ga X.K C')) (hp : PropOf X.K (He.ga X.K C') f p g) (F : FnG X.prog X.w X.K X.mg X.base k g fd ps (spG X.K 1 mf)) (G : Good X (k + 1) W) (hb : Binds X.K fd ps [])
    (plain : attributeBase o f X.env (eval o X.env) = eval o X.env := by rfl) : SE X W (.Attribute o f pos) (mProp C' mf mo) := by
  refine PE.imp (pg_prop ho c hp F G.room G.gd hb plain) fun σ H Q h => ?_
  obtain ⟨np, F, e, R, h⟩ := h
  refine use (R1 := RR X.K) (Cur.refl R) h fun r e1 F1 H1 u C1 q1 _ h1 => ?_
  obtain ⟨v0, rv, h2⟩ := At.rd C1.rel q1 h1
  cases v0 with
  | obj C2 fs vs =>
    dsimp only at h2
    by_cases hC : C2 = C'
    · rw [if_pos hC] at h2
      subst hC
      obtain ⟨a, dx, us, rfl, z1, z2, z3⟩ := rv.obj C1.rel.sub
      refine ⟨a, dx, _, rfl, z1, ?_⟩
      have h3 : At X.K noW (RR X.K) (bg np F H e σ) (runF [true] mf [r]) F1 e1 σ H1 Q := by
        unfold At noRs at h2
        unfold At
        cases z : runF [true] mf [r] e1 with
        | bad => simp only [z] at h2
        | rs x e' => simp only [z] at h2
        | ok y e' => simp only [z] at h2; exact h2
      exact call_ok (W := noW) C1 (RRs.cons q1 (fun _ _ j w z => by simp at z) RRs.nil) h3 rfl
    · rw [if_neg hC] at h2
      exact h2.elim
  | _ => exact h2.elim
end
theorem put_ok {K : PySem.W.Frag} {F : Hp} {f : Str} {w : Val} {y : V} (r : VR K F w y) : ∀ {fs : List Str} {vs : List Val} {us : List V}, fs.length = us.length → VRs K F vs us →
    ∃ us', putF f y (fs.zip us) = (putFs f fs).zip us' ∧ (putFs f fs).length = us'.length ∧ VRs K F (putVs f w fs vs) us'
  | [], vs, us, h, q => by
    have : us = [] := List.eq_nil_of_length_eq_zero h.symm
    subst this
    cases q
    exact ⟨[y], rfl, rfl, .cons r .nil⟩
  | g :: fs, [], us0, h, q => by cases q; simp at h
  | g :: fs, v :: vs, us0, h, q => by
    cases q with
    | cons a b =>
    rename_i u us
    have hl : fs.length = us.length := by simpa using h
    show ∃ us', (if g = f then (g, y) :: fs.zip us else (g, u) :: putF f y (fs.zip us)) = (putFs f (g :: fs)).zip us' ∧ _ ∧ _
    unfold putFs putVs
    by_cases hg : g = f
    · rw [if_pos hg, if_pos hg, if_pos hg]
      exact ⟨y :: us, rfl, by simp [hl], .cons r b⟩
    · rw [if_neg hg, if_neg hg, if_neg hg]
      obtain ⟨us', e1, e2, e3⟩ := put_ok r (f := f) hl b
      exact ⟨u :: us', by rw [e1]; rfl, by simp [e2], .cons a e3⟩
section
variable {X : Cx} {W : WX} {o x : Expr} {mo mv : M RV} {pos pos' : Pos} {C' f : Str} {np : Nat}
theorem ss_put (c : Cls X.K (He.ga X.K C')) (n : NoAttr X.K (He.ga X.K C') f) (ho : SE X W o mo) (hv : SE X W x mv) (hs : swapsWith x (some (.Attribute o f pos')) pos.line X.env = pure false := by rfl) : SS X W np (.Assign [.Attribute o f pos'] x pos) (mPut C' f mo mv) := by
  refine PS.imp (ps_fld ho hv hs) fun D σ H h => ?_
  obtain ⟨F, e, R, h⟩ := h
  refine useX (R1 := RR X.K) (Cur.refl R) h fun r e1 F1 H1 u C1 q1 _ h1 => ?_
  obtain ⟨F2, e2, v, C2, _, r2, h2, _⟩ := AtS.dt C1 q1 h1
  refine useX (R1 := RR X.K) C2 h2 fun r3 e3 F3 H3 y C3 q3 c3 h3 => ?_
  cases r3 with
  | dat v => exact h3.elim
  | tmp v => exact h3.elim
  | bor i =>
    have hi : σ[i]? = some (some y) := q3
    unfold AtS at h3
    dsimp only at h3
    cases z : e3[i]? with
    | none => simp only [z] at h3
    | some sl => cases sl with
      | un => simp only [z] at h3
      | dat w => simp only [z] at h3
      | own w => cases w with
        | obj C2 fs vs =>
          simp only [z] at h3
          by_cases hh : C2 = C' ∧ fs.length < 1000
          · rw [if_pos hh] at h3
            obtain ⟨rfl, hl⟩ := hh
            obtain ⟨b, b1, b2, dx, us, b3, b4, b5⟩ := C3.rel.slot i _ _ z hi
            cases b1
            obtain ⟨us', p1, p2, p3⟩ := put_ok (f := f) (r2.mono c3.post.sub) b4 b5
            refine ⟨b, _, dx, _, rfl, b3, c, n, by rw [List.length_zip, ← b4, Nat.min_self]; exact hl, ?_⟩
            exact h3 F3 _ σ (C3.writeOwn z hi ⟨dx, us', by rw [upd_same, p1], p2, p3⟩)
          · rw [if_neg hh] at h3
            exact h3.elim
        | _ => simp only [z] at h3
end
end Pu
set_option Elab.async false
set_option linter.all false
set_option maxRecDepth 100000
namespace Pu
open PySem PySem.Spec PyProof.Rows L2
structure KB (K : PySem.W.Frag) (fd : FuncData) (ps : List Str) (n : Nat) (ks : List Str) (g : List Nat) : Prop where
  to : ∀ (s : Shared) (us ws : List Value), K.In s.heap → us.length = n → ws.length = ks.length → BindsTo s fd ⟨us, ks.zip ws⟩ (ps.zip (sel g (us ++ ws)))
  nd : g.Nodup
section
theorem kb_of {K : PySem.W.Frag} {x qual : Str} {params : Arguments} {body : List Stmt} {scope : Scope} {kws : List (Str × V)} {f : Addr} {fd : FuncData} {ps ks : List Str} {n : Nat} {g : List Nat} (F : FunD K x qual params body scope [] kws f fd) (nd : g.Nodup)
    (h : ∀ (kV doc pm : Value) (an : Option Addr) (cdv ct : Value) (us ws : List Value), us.length = n → ws.length = ks.length → bindArgs (PySem.W.fnOf x qual params body scope .none kV doc pm an cdv ct) ⟨us, ks.zip ws⟩ = pure (ps.zip (sel g (us ++ ws)))) : KB K fd ps n ks g := by
  obtain ⟨_, _, dV, kV, doc, pm, an, cdv, ct, _, rfl, _, _, none_, -⟩ := F.ex
  rcases none_ with ⟨-, rfl⟩ | ⟨no, -⟩
  · exact ⟨fun s us ws _ l1 l2 => .of_eq (h kV doc pm an cdv ct us ws l1 l2), nd⟩
  · exact absurd rfl no
variable {K : PySem.W.Frag} {W : WX} {B : Bg} {F H : Hp} {σ : Sig} {e : Ev}
theorem sel_vals {us : List V} {xs : List Value} (h : Vals us xs) : ∀ {g : List Nat}, Vals (Pu.sel g us) (Pu.sel g xs) := by
  have at_ : ∀ {us : List V} {xs : List Value} {i : Nat} {u : V}, Vals us xs → us[i]? = some u → ∃ x, xs[i]? = some x ∧ RelV u x := fun {us xs i u} h => by
    induction h generalizing i with
    | nil => intro z; simp at z
    | cons a b ih => cases i with
      | zero => intro z; simp at z; subst z; exact ⟨_, rfl, a⟩
      | succ i => intro z; exact ih (by simpa using z)
  intro g
  induction g with
  | nil => exact .nil
  | cons i g ih =>
    unfold Pu.sel
    cases hx : us[i]? with
    | none =>
      have hy : xs[i]? = none := List.getElem?_eq_none (by rw [← h.length]; exact List.getElem?_eq_none_iff.mp hx)
      simp only [hy]
      exact ih
    | some u =>
      obtain ⟨x, hy, r⟩ := at_ h hx
      simp only [hy]
      exact .cons r ih
end
abbrev SK (X : Cx) (W : WX) (kws : List Keyword) (m : M (List RV)) : Prop := PK X kws (tA X.K W m)
theorem PK.imp {X : Cx} {kws : List Keyword} {t t' : TA} (h : PK X kws t) (q : ∀ σ H Q, t' σ H Q → t σ H Q) : PK X kws t' := ⟨fun p pins s σ H Q I z => h.run p pins s σ H Q I (q σ H Q z)⟩
theorem sk_nil {X : Cx} {W : WX} : SK X W [] mNil := PK.imp pk_nil fun σ H Q h => by
  obtain ⟨np, F, e, R, h⟩ := h
  exact h.ok rfl (Cur.refl R) .nil
theorem sk_cons {X : Cx} {W : WX} {a : Expr} {nm : Option Str} {kpos : Pos} {kws : List Keyword} {ma : M RV} {mr : M (List RV)} (ha : SE X W a ma) (hr : SK X W kws mr) : SK X W (⟨nm, a, kpos⟩ :: kws) (mCons ma mr) := by
  refine PK.imp (pk_cons ha hr) fun σ H Q h => ?_
  obtain ⟨np, F, e, R, h⟩ := h
  refine use (Cur.refl R) h fun r1 e1 F1 H1 x C1 q1 _ h1 => ?_
  refine useS (R1 := RRs X.K) C1 h1 fun rs e2 F2 H2 xs C2 q2 c2 h2 => ?_
  exact h2.ok rfl C2 (RRs.front C1 q1 c2 q2)
def mCallK (ms : List Bool) (f : M RV) (as ks : M (List RV)) (n m : Nat) (g : List Nat) : M RV := as.bind fun rs => ks.bind fun zs => if rs.length = n ∧ zs.length = m then runF ms f (sel g (rs ++ zs)) else M.bad
end Pu
set_option Elab.async false
set_option linter.all false
set_option maxRecDepth 100000
namespace Pu
open PySem PySem.Spec PyProof.Rows L2
section
variable {K : PySem.W.Frag} {W : WX} {α β α' β' : Type} {R1 : Bg → Hp → Hp → Ev → Sig → α → β → Prop} {R2 : Bg → Hp → Hp → Ev → Sig → α' → β' → Prop} {B : Bg} {F H : Hp} {e : Ev} {σ : Sig}
theorem At.part [Carry K R1] {m : M α} {f : α → M α'} {Q : β' → Hp → Prop} {G : β → Hp → Prop} (C : Cur K B F H e σ) (h : At K W R2 B (m.bind f) F e σ H Q)
    (k : ∀ r e1 F1 H1 x, Cur K B F1 H1 e1 σ → R1 B F1 H1 e1 σ r x → Cur K (bg B.np F H e σ) F1 H1 e1 σ → At K W R2 B (f r) F1 e1 σ H1 Q → G x H1) : At K W R1 (bg B.np F H e σ) m F e σ H G := by
  unfold At M.bind at h
  unfold At
  cases hm : m e with
  | bad => rw [hm] at h; exact h
  | rs x e' =>
    rw [hm] at h
    exact fun F' H' cls d C' X' => h F' H' cls d (C.trans C') X'
  | ok r e' =>
    rw [hm] at h
    exact fun F' H' u C' r' => k r e' F' H' u (C.trans C') (Carry.out C r') C' h
end
theorem se_neg {X : Cx} {W : WX} {a : Expr} {ma : M RV} {pos : Pos} (ha : SE X W a ma) : SE X W (.UnaryOp .USub a pos) (mNeg ma) := by
  refine PE.imp (pe_un un_neg ha) fun σ H Q h => ?_
  obtain ⟨np, F, e, R, h⟩ := h
  refine use (R1 := RR X.K) (Cur.refl R) h fun r1 e1 F1 H1 x C1 q1 _ h1 => ?_
  obtain ⟨v, rv, h2⟩ := At.rd C1.rel q1 h1
  cases v with
  | int i => exact ⟨i, rv.int, h2.ok rfl C1 (VR.int _)⟩
  | _ => exact h2.elim
section
variable {X : Cx} {W : WX} {a b c : Expr} {ma mb mc : M RV} {pos : Pos} {f g : Val → Val → M RV} {r r' : R2} {op op' : CmpOp}
theorem chain_ok {K : PySem.W.Frag} (hf : OpV K W f r) (hg : OpV K W g r') {σ : Sig} {H : Hp} {Q : VK} (h : tE K W (mChain f g ma mb mc) σ H Q) : tChain r r' (tE K W ma) (tE K W mb) (tE K W mc) σ H Q := by
  obtain ⟨np, F, e, R, h⟩ := h
  refine use (R1 := RR K) (Cur.refl R) h fun r1 e1 F1 H1 x C1 q1 _ h1 => ?_
  refine use (R1 := RR K) C1 h1 fun r2 e2 F2 H2 y C2 q2 c2 h2 => ?_
  obtain ⟨v, rv, h3⟩ := At.rd C2.rel (q1.carry c2) h2
  obtain ⟨w, rw_, h4⟩ := At.rd C2.rel q2 h3
  refine hf (Cur.refl (np := (bg np F H e σ).np) C2.rel) rv rw_ (At.part (R1 := RR K) C2 h4 fun z e3 F3 H3 u C3 q3 c3 h5 => ?_)
  obtain ⟨k, rk, h6⟩ := At.rd C3.rel q3 h5
  cases k with
  | bl k => cases k with
    | true =>
      refine ⟨true, rk.bl, ?_⟩
      rw [if_pos rfl]
      refine use (R1 := RR K) C3 h6 fun r4 e4 F4 H4 w4 C4 q4 c4 h7 => ?_
      obtain ⟨w', rw', h8⟩ := At.rd C4.rel ((q2.carry c3).carry c4) h7
      obtain ⟨x', rx', h9⟩ := At.rd C4.rel q4 h8
      exact hg C4 rw' rx' h9
    | false =>
      refine ⟨false, rk.bl, ?_⟩
      rw [if_neg (by decide)]
      exact h6.ok rfl C3 (VR.bl false)
  | _ => exact h6.elim
theorem se_chain (ho : OpR X (compareOp op) r) (ho' : OpR X (compareOp op') r') (hf : OpV X.K W f r) (hg : OpV X.K W g r') (ha : SE X W a ma) (hb : SE X W b mb) (hc : SE X W c mc)
    (hm : lastMarks [op, op'] [b, c] = false := by with_unfolding_all rfl) : SE X W (.Compare a [op, op'] [b, c] pos) (mChain f g ma mb mc) :=
  PE.imp (pe_chain ho ho' ha hb hc hm) fun _ _ _ h => chain_ok hf hg h
theorem test_of {K : PySem.W.Frag} {m : M RV} (hb2 : ∀ e r' e', m e = .ok r' e' → ∃ b, r' = .dat (.bl b)) {σ : Sig} {H : Hp} {Q : Bool → Hp → Prop} (h : tT K W (mTru m) σ H Q) : tE K W m σ H fun x H' => ∃ k, x = .bl k ∧ Q k H' := by
  obtain ⟨np, F, e, R, h⟩ := h
  refine ⟨np, F, e, R, ?_⟩
  unfold At mTru M.bind at h
  unfold At
  cases z : m e with
  | bad => rw [z] at h; exact h
  | rs x e' => rw [z] at h; exact h
  | ok r' e' =>
    rw [z] at h
    intro F' H' u C q
    obtain ⟨b, rfl⟩ := hb2 _ _ _ z
    have eu : u = .bl b := by cases q; rfl
    subst eu
    exact ⟨b, rfl, h F' H' b C rfl⟩
theorem bind_ok {α β : Type} {m : M α} {k : α → M β} {e e2 : Ev} {b : β} (h : m.bind k e = .ok b e2) : ∃ a e1, m e = .ok a e1 ∧ k a e1 = .ok b e2 := by
  unfold M.bind at h
  cases z : m e with
  | ok a e1 => simp only [z] at h; exact ⟨a, e1, rfl, h⟩
  | rs _ _ => simp only [z] at h; cases h
  | bad => simp only [z] at h; cases h
theorem chain_bl (hg : ∀ v w e r' e', g v w e = .ok r' e' → ∃ b, r' = .dat (.bl b)) : ∀ e r' e', mChain f g ma mb mc e = .ok r' e' → ∃ b, r' = .dat (.bl b) := by
  intro e r' e' h
  obtain ⟨r1, e1, -, h⟩ := bind_ok h
  obtain ⟨r2, e2, -, h⟩ := bind_ok h
  obtain ⟨v, e3, -, h⟩ := bind_ok h
  obtain ⟨w, e4, -, h⟩ := bind_ok h
  obtain ⟨z, e5, -, h⟩ := bind_ok h
  obtain ⟨k, e6, -, h⟩ := bind_ok h
  cases k with
  | bl k => cases k with
    | false => cases h; exact ⟨false, rfl⟩
    | true =>
      obtain ⟨t, e7, -, h⟩ := bind_ok h
      obtain ⟨w', e8, -, h⟩ := bind_ok h
      obtain ⟨x, e9, -, h⟩ := bind_ok h
      exact hg _ _ _ _ _ h
  | _ => cases h
theorem st_chain (ho : OpR X (compareOp op) r) (ho' : OpR X (compareOp op') r') (hf : OpV X.K W f r) (hg : OpV X.K W g r') (hb2 : ∀ v w e r' e', g v w e = .ok r' e' → ∃ b, r' = .dat (.bl b)) (ha : SE X W a ma) (hb : SE X W b mb) (hc : SE X W c mc)
    (hm : lastMarks [op, op'] [b, c] = false := by with_unfolding_all rfl) : ST X W (.Compare a [op, op'] [b, c] pos) (mTru (mChain f g ma mb mc)) :=
  PT.imp (pt_chain ho ho' ha hb hc hm) fun _ _ _ h => chain_ok hf hg (test_of (chain_bl hb2) h)
end
theorem VRs.cut {K : PySem.W.Frag} {F : Hp} {vs : List Val} {us : List V} (h : VRs K F vs us) (lo hi : Option Int) : VRs K F (cutA vs lo hi) (cutV us lo hi) := by
  unfold cutA cutV
  rw [h.length]
  exact (h.drop _).take _
abbrev SO (X : Cx) (W : WX) (e : Option Expr) (m : M (Option Int)) : Prop := PO X e (tM X.K W (fun _ _ _ _ _ (a b : Option Int) => a = b) m)
section
variable {X : Cx} {W : WX} {a : Expr} {lo hi : Option Expr} {ma : M RV} {ml mh : M (Option Int)} {pos p2 : Pos}
theorem PO.imp {e : Option Expr} {t t' : TO} (h : PO X e t) (q : ∀ σ H Q, t' σ H Q → t σ H Q) : PO X e t' := ⟨fun pins s σ H Q I z => h.run pins s σ H Q I (q σ H Q z)⟩
theorem so_none : SO X W none mNoP := PO.imp po_none fun σ H Q ⟨np, F, e, R, h⟩ => h.ok rfl (Cur.refl R) rfl
theorem so_some (ha : SE X W a ma) : SO X W (some a) (mPt ma) := by
  refine PO.imp (po_some ha) fun σ H Q h => ?_
  obtain ⟨np, F, e, R, h⟩ := h
  refine use (R1 := RR X.K) (Cur.refl R) h fun r1 e1 F1 H1 x C1 q1 _ h1 => ?_
  obtain ⟨v, rv, h2⟩ := At.rd C1.rel q1 h1
  cases v with
  | int i => exact ⟨i, rv.int, h2.ok rfl C1 rfl⟩
  | _ => exact h2.elim
theorem se_slice (ha : SE X W a ma) (hl : SO X W lo ml) (hh : SO X W hi mh) : SE X W (.Subscript a (.Slice lo hi none p2) pos) (mSl ma ml mh) := by
  refine PE.imp (pe_slice (SlR.or sl_list (SlR.or sl_tupA sl_str)) ha hl hh) fun σ H Q h => ?_
  obtain ⟨np, F, e, R, h⟩ := h
  refine use (R1 := RR X.K) (Cur.refl R) h fun r e1 F1 H1 x C1 q1 _ h1 => ?_
  refine use (R1 := fun _ _ _ _ _ (a b : Option Int) => a = b) C1 h1 fun l e2 F2 H2 l' C2 q2 c2 h2 => ?_
  refine use (R1 := fun _ _ _ _ _ (a b : Option Int) => a = b) C2 h2 fun u e3 F3 H3 u' C3 q3 c3 h3 => ?_
  obtain ⟨v, rv, h4⟩ := At.rd C3.rel ((q1.carry c2).carry c3) h3
  have el : l = l' := q2
  have eu : u = u' := q3
  subst el eu
  cases v with
  | lst xs =>
    obtain ⟨p, us, rfl, z1, z2⟩ := rv.lst C3.rel.sub
    refine .inl ⟨p, us, rfl, .inl z1, fun t ht => ?_⟩
    obtain ⟨C4, n4, f4, m4⟩ := C3.grow (o := .lst (cutV us l u)) ht
    exact h4.ok (r := RV.tmp (.lst (cutA xs l u))) rfl C4 ⟨t, rfl, f4, ⟨_, upd_same, z2.cut l u⟩, n4, m4⟩
  | tup xs =>
    obtain ⟨p, us, rfl, z1, z2⟩ := rv.tup C3.rel.sub
    refine .inr (.inl ⟨p, us, rfl, z1, fun hw => ?_, fun hw t ht => ?_⟩)
    · have e1 : cutA xs l u = xs := by
        unfold cutA
        rw [z2.length, hw.1, hw.2, List.drop_zero, Nat.sub_zero, ← z2.length, List.take_length]
      have h5 := h4
      rw [show slV (.tup xs) l u = M.ret (.dat (.tup (cutA xs l u))) from rfl, e1] at h5
      rcases rv with rv | ⟨_, _, no⟩
      · exact h5.ok rfl C3 rv
      · exact no.elim
    · obtain ⟨C4, s4, e4⟩ := C3.growF (o := .tup (cutV us l u)) ht
      exact h4.ok rfl C4 (VR.tup (SqT.of e4) ((z2.mono s4 |> fun z => z.cut l u)))
  | str z =>
    rw [rv.str]
    by_cases hz : z.length ≤ sizeLine
    · rw [show slV (.str z) l u = M.ret (.dat (.str (cutS z l u))) from by simp only [slV, hz, if_true]] at h4
      exact .inr (.inr ⟨z, rfl, hz, h4.ok rfl C3 (VR.str _)⟩)
    · rw [show slV (.str z) l u = M.bad from by simp only [slV, hz, if_false]] at h4
      exact h4.elim
  | _ => exact h4.elim
end
end Pu
set_option Elab.async false
set_option linter.all false
set_option maxRecDepth 100000
namespace Pu
open PySem PySem.Spec PyProof.Rows L2
def setsS : List Nat → List V → Sig → Sig
  | i :: is, u :: us, σ => setsS is us (σ.set i (some u))
  | _, _, σ => σ
section
variable {K : PySem.W.Frag} {W : WX} {B : Bg} {F H : Hp} {D : Ends}
theorem RRs.setOwn {e : Ev} {σ : Sig} {i : Nat} {t : Addr} {v : Val} {rs : List RV} {us : List V} (h : RRs K B F H e σ rs us) (n : noBor rs = true) (d : ∀ (j : Nat) w, rs[j]? = some (.tmp w) → us[j]? ≠ some (.ref t)) :
    RRs K B F H (e.set i (.own v)) (σ.set i (some (.ref t))) rs us := by
  induction h with
  | nil => exact .nil
  | cons r c q ih =>
    rename_i r' u' rs us
    refine .cons ?_ c (ih ?_ fun j w z => ?_)
    · cases r' with
      | dat w => exact r
      | bor j => cases n
      | tmp w =>
        obtain ⟨t', z1, z2, z3, z4, z5⟩ := r
        refine ⟨t', z1, z2, z3, fun ⟨j, x, y1, y2⟩ => ?_, z5⟩
        rcases getset y1 with ⟨z, _, _⟩ | ⟨z, y1⟩
        · subst z
          rcases getset y2 with ⟨_, y3, _⟩ | ⟨z', _⟩
          · have et : V.ref t' = V.ref t := Option.some.inj y3
            exact d 0 w rfl (by rw [z1, et]; rfl)
          · exact z' rfl
        · rw [List.getElem?_set_ne z] at y2
          exact z4 ⟨j, x, y1, y2⟩
    · cases r' <;> first | exact n | cases n
    · have := d (j + 1) w (by simpa using z)
      simpa using this
theorem RRs.setDat {e : Ev} {σ : Sig} {i : Nat} {u : V} {v : Val} {rs : List RV} {us : List V} (h : RRs K B F H e σ rs us) (n : noBor rs = true) : RRs K B F H (e.set i (.dat v)) (σ.set i (some u)) rs us := by
  induction h with
  | nil => exact .nil
  | cons r c q ih =>
    rename_i r' u' rs us
    refine .cons ?_ c (ih ?_)
    · cases r' with
      | dat w => exact r
      | bor j => cases n
      | tmp w =>
        obtain ⟨t', z1, z2, z3, z4, z5⟩ := r
        exact ⟨t', z1, z2, z3, fun z => z4 (z.unset Slot.dat_ne), z5⟩
    · cases r' <;> first | exact n | cases n
theorem sets_ok : ∀ {is : List Nat} {rs : List RV} {us : List V} {e : Ev} {σ : Sig}, Cur K B F H e σ → RRs K B F H e σ rs us → noBor rs = true → ((∀ i ∈ is, B.np ≤ i) ∨ ∀ r ∈ rs, ∃ v, r = .dat v) → Cur K B F H (setsE is rs e) (setsS is us σ)
  | [], rs, us, e, σ, C, _, _, _ => by cases rs <;> cases us <;> exact C
  | i :: is, _, _, e, σ, C, .nil, _, _ => C
  | i :: is, r :: rs, u :: us, e, σ, C, .cons a d t, n, hp => by
    have n' : noBor rs = true := by cases r <;> first | exact n | cases n
    have hp' : (∀ i ∈ is, B.np ≤ i) ∨ ∀ r ∈ rs, ∃ v, r = .dat v := by
      rcases hp with hp | hp
      · exact .inl fun j hj => hp j (List.mem_cons_of_mem _ hj)
      · exact .inr fun j hj => hp j (List.mem_cons_of_mem _ hj)
    show Cur K B F H (setsE is rs (e.set i (slotOf r))) (setsS is us (σ.set i (some u)))
    cases r with
    | dat v => exact sets_ok (C.setDat a) (t.setDat n') n' hp'
    | bor j => cases n
    | tmp v =>
      have hi : B.np ≤ i := by
        rcases hp with hp | hp
        · exact hp i (List.mem_cons_self ..)
        · obtain ⟨w, z⟩ := hp _ (List.mem_cons_self ..); cases z
      obtain ⟨a0, rfl, x2, x3, x4, x5⟩ := a
      exact sets_ok (C.setOwn x2 x3 x4 x5 hi) (t.setOwn n' fun j w z => d v rfl j w z) n' hp'
end
theorem noBor_dat : ∀ {vs : List Val}, noBor (vs.map .dat) = true
  | [] => rfl
  | _ :: vs => noBor_dat (vs := vs)
section
variable {X : Cx} {W : WX} {np k : Nat} {a b c : Expr} {ms : M (List RV)} {px py pz pt pos : Pos} {x y z : Str} {kt : Nat}
theorem par_ok {K : PySem.W.Frag} {B : Bg} {F H : Hp} {e : Ev} {σ : Sig} {D : Ends} {p : Bool} {is : List Nat} {rs : List RV} {us : List V} (hp : p = true ∨ ∀ i ∈ is, B.np ≤ i) (C : Cur K B F H e σ) (q : RRs K B F H e σ rs us)
    (h : AtS K W B (if rs.length = is.length then (if noBor rs = true ∧ p = false then fun e => .ok .nx (setsE is rs e) else (M.dts rs).bind fun vs => fun e => .ok .nx (setsE is (vs.map .dat) e)) else M.bad) F e σ H D) : us.length = is.length ∧ D.nx (setsS is us σ) H := by
  by_cases hl : rs.length = is.length
  · rw [if_pos hl] at h
    refine ⟨q.length.symm.trans hl, ?_⟩
    by_cases hb : noBor rs = true ∧ p = false
    · rw [if_pos hb] at h
      refine h.nx rfl (sets_ok C q hb.1 (.inl ?_))
      rcases hp with hp | hp
      · rw [hb.2] at hp; cases hp
      · exact hp
    · rw [if_neg hb] at h
      obtain ⟨F2, e2, vs, C2, _, r2, h2⟩ := AtS.dts C q h
      refine h2.nx rfl (sets_ok C2 (RRs.dats r2) noBor_dat (.inr fun r hr => ?_))
      obtain ⟨v, _, z⟩ := List.mem_map.mp hr
      exact ⟨v, z.symm⟩
  · rw [if_neg hl] at h
    exact h.elim
theorem ss_par (i j : Nat) (p : Bool) {k2 pt2} (G : Good X k W) (ha : SA X W [a, b] ms) (hp : p = true ∨ ∀ n ∈ [i, j], np ≤ n := by decide) (hij : i ≠ j := by decide) (hi : X.N[i]? = some x := by rfl) (hj : X.N[j]? = some y := by rfl)
    (hx : X.env.scope.names.lookup x = some .local := by rfl) (hy : X.env.scope.names.lookup y = some .local := by rfl)
    (hw : swappedStores [.Tuple [.Name x px, .Name y py] kt pt] (.Tuple [a, b] k2 pt2) X.env = pure (some [x, y]) := by rfl)
    (hs : swapsWithSole [.Tuple [.Name x px, .Name y py] kt pt] (.Tuple [a, b] k2 pt2) pos.line X.env = pure false := by rfl) :
    SS X W np (.Assign [.Tuple [.Name x px, .Name y py] kt pt] (.Tuple [a, b] k2 pt2) pos) (mPar p [i, j] ms) := by
  refine PS.imp (ps_par G.calm G.nd hi hj hij hx hy ha hw hs) fun D σ H h => ?_
  obtain ⟨F, e, R, h⟩ := h
  refine useX (R1 := RRs X.K) (Cur.refl R) h fun rs e1 F1 H1 us C1 q1 _ h1 => ?_
  obtain ⟨l, w⟩ := par_ok hp C1 q1 h1
  match us, l, w with
  | [u, v], _, w => exact ⟨u, v, rfl, w⟩
end
def oAddI := oI fun i j => .int (i + j)
section
variable {K : PySem.W.Frag} {W : WX} {α β : Type} {R1 : Bg → Hp → Hp → Ev → Sig → α → β → Prop} {B : Bg} {F H : Hp} {e : Ev} {σ : Sig} {D : Ends}
theorem AtS.part [Carry K R1] {m : M α} {f : α → S} {G : β → Hp → Prop} (C : Cur K B F H e σ) (h : AtS K W B (m.bind f) F e σ H D)
    (k : ∀ r e1 F1 H1 x, Cur K B F1 H1 e1 σ → R1 B F1 H1 e1 σ r x → Cur K (bg B.np F H e σ) F1 H1 e1 σ → AtS K W B (f r) F1 e1 σ H1 D → G x H1) : At K W R1 (bg B.np F H e σ) m F e σ H G := by
  unfold AtS M.bind at h
  unfold At
  cases hm : m e with
  | bad => rw [hm] at h; exact h
  | rs x e' =>
    rw [hm] at h
    exact fun F' H' cls d C' X' => h F' H' σ cls d (C.trans C') X'
  | ok r e' =>
    rw [hm] at h
    exact fun F' H' u C' r' => k r e' F' H' u (C.trans C') (Carry.out C r') C' h
end
def mRep (a b : M RV) : M RV := a.bind fun r => b.bind fun s => (M.rd s).bind fun k => match r, k with
  | .tmp (.lst xs), .int n => if -9223372036854775808 ≤ n ∧ n < 9223372036854775808 ∧ xs.length * n.toNat ≤ sizeLine then M.ret (.tmp (.lst (List.replicate n.toNat xs).flatten)) else M.bad
  | _, _ => M.bad
structure Isi (K : PySem.W.Frag) (C : Addr) : Prop where
  cls : Cls K C
  at_ : PySem.W.findIn K (.ref C) "__class__" = some (some (.builtin "object.__class__"))
  get : PySem.W.specialIn K (.builtin "object.__class__") "__get__" = some (some (.builtin "getset_descriptor.__get__"))
  tak : PySem.W.takesIn K (.builtin "object.__class__") = some true
  obj : PySem.W.mroIn K C (.type "object") = some true
structure TOk (K : PySem.W.Frag) (T : List (Tg × Tg × Bool)) : Prop where
  ans : ∀ e ∈ T, PySem.W.kitOne K (tagT K e.1) (tagT K e.2.1) = some e.2.2
  own : ∀ e ∈ T, ∀ C, e.1 = .inr C → Isi K (He.ga K C)
theorem tag_of {K : PySem.W.Frag} {F H : Hp} {v : Val} {u : V} {a : Tg} (s : Same F H) (r : RdR K F H v u) (h : tagV v = some a) (own : ∀ C, a = .inr C → Isi K (He.ga K C)) : TyX K H u (tagT K a) := by
  cases v with
  | non => cases h; rw [r.non]; exact .base .non
  | bl b => cases h; rw [r.bl]; exact .base (.bl b)
  | int i => cases h; rw [r.int]; exact .base (.int i)
  | str x => cases h; rw [r.str]; exact .base (.str x)
  | ty n => cases h
  | glo x => cases h
  | tup xs =>
    cases h
    obtain ⟨p, us, rfl, z, _⟩ := r.tup s
    rcases z with (z | ⟨o, z⟩) | ⟨o, its, n, z1, z2, _⟩
    · exact .base (.tup z)
    · exact .fTuple z
    · exact .kTuple z1 z2
  | lst xs =>
    cases h
    obtain ⟨p, us, rfl, z, _⟩ := r.lst s
    rcases z with z | ⟨o, z⟩
    · exact .base (.lst z)
    · exact .base (.frz z)
  | obj C fs vs =>
    cases h
    obtain ⟨p, dx, us, rfl, z, _⟩ := r.obj s
    obtain ⟨i1, i2, i3, i4, i5⟩ := own C rfl
    exact .base (.ins z i1 i2 i3 i4 i5)
  | dct ks vs =>
    cases h
    obtain ⟨p, us, rfl, z, _⟩ := r.dct s
    exact .base (.dK z)
theorem v_isi {K : PySem.W.Frag} {W : WX} {T : List (Tg × Tg × Bool)} (hT : TOk K T) : FnV K W (fIsi T) (rIsi K) := by
  intro B F H e σ vs us Q C r h
  unfold fIsi at h
  split at h
  · rename_i v c
    split at h
    · rename_i a b ha hb
      cases z : T.find? fun e => decide (e.1 = a ∧ e.2.1 = b) with
      | none => simp only [z] at h; exact h.elim
      | some en =>
        simp only [z] at h
        obtain ⟨u, w, rfl, r1, r2⟩ := r.two
        have m := List.mem_of_find?_eq_some z
        have p := List.find?_some z
        have p' : en.1 = a ∧ en.2.1 = b := of_decide_eq_true p
        obtain ⟨rfl, rfl⟩ := p'
        refine ⟨u, w, _, tagT K en.2.1, en.2.2, rfl, ?_, tag_of C.rel.sub r1 ha (hT.own en m), hT.ans en m, h.ok rfl C (VR.bl _)⟩
        cases c with
        | ty n => cases hb' : en.2.1 with
          | inl n' =>
            rw [hb'] at hb
            cases hb
            rw [r2.ty]
            exact .ty n
          | inr C' => rw [hb'] at hb; cases hb
        | glo D => cases hb' : en.2.1 with
          | inr C' =>
            rw [hb'] at hb
            cases hb
            rw [r2.glo]
            exact .own _
          | inl n' => rw [hb'] at hb; cases hb
        | _ => cases hb
    · exact h.elim
  · exact h.elim
end Pu
set_option Elab.async false
set_option linter.all false
set_option maxRecDepth 100000
set_option maxHeartbeats 2000000
namespace Pu
open PySem PySem.Spec PyProof.Rows L2
def TabsB (K : PySem.W.Frag) (mg : Str → Option Value) (base : Heap) : Prop := ∀ p ∈ tabs3 K, LamX.TabB base mg p.1 p.2.1
theorem mem_tabs {K : PySem.W.Frag} {p : Addr × Str} (h : p ∈ tabsOf K) : ∃ c, (c, p) ∈ tabs3 K := by
  unfold tabsOf at h
  obtain ⟨q, h1, rfl⟩ := List.mem_map.mp h
  exact ⟨q.1, h1⟩
theorem law_goes {P : Program} {w : World} {K : PySem.W.Frag} {mg mb : Str → Option Value} {k : Nat} {fa a : Addr} {fd : FuncData} {x : Str} {sp : Sp} {s : Shared} {vs : List Value} {ns : List Int}
    (inK : K.In s.heap) (nl : ∀ b o, K.lookup b = some o → o.cls ≠ .type "list") (te : TabsE K s.heap) (globals : s.heap.Ns mainGlobals mg) (blts : s.heap.Ns builtinsNs mb) (boots : ∀ y : Str, y ≠ "__name__" → mb y = bootBuiltins y) (unlimited : s.heap.NoLimit) (calm : s.gens = #[])
    (hbm : ∃ (bm : Addr) (ob : Obj), mg "__builtins__" = some (.ref bm) ∧ bm ≠ builtinsNs ∧ s.heap.get? bm = some ob ∧ ob.cls = .type "module" ∧ ob.dict = some builtinsNs ∧ ob.data = .plain)
    (script : s.heap.get? a = some { cls := .type "list", data := .seq vs.toArray }) (allInt : IntsAre vs ns) (few : ns.length ≤ sizeLine) (room : Room k callerA)
    (F : ∀ base : Heap, K.In base → base.Ns mainGlobals mg → TabsB K mg base → FnG P w K mg base k fa fd [x] sp) (bt : ∀ (s : Shared) (u : Value), BindsTo s fd ⟨[u], []⟩ [(x, u)])
    (wish : ∀ H : Hp, Rd H a (.lst (ns.map V.int)) → LamX.Tabs (tabsOf K) H → sp [.ref a] H (fun v _ => v = .bl true) fun _ _ _ => False) :
    codeAny (model P w) callerA (.call (.ref fa) ⟨[.ref a], []⟩) (fun r s' => r = .ok (.ret (.bool true)) ∧ OldK s.heap s'.heap ∧ s'.os = s.os ∧ AllBare s'.gens) s := by
  have outK : K.lookup a = none := by
    cases q : K.lookup a with
    | none => rfl
    | some o =>
      have := inK a o q
      rw [script] at this
      cases this
      exact absurd rfl (nl a _ q)
  have tabAt : ∀ b, b ∈ (tabsOf K).map (·.1) → ∃ p ∈ tabs3 K, p.2.1 = b := fun b hb => by
    obtain ⟨p, hp, rfl⟩ := List.mem_map.mp hb
    obtain ⟨c, hc⟩ := mem_tabs hp
    exact ⟨_, hc, rfl⟩
  have tabIs : ∀ b, b ∈ (tabsOf K).map (·.1) → s.heap.get? b = some { cls := .none, data := .fields #[] } := fun b hb => by
    obtain ⟨p, hp, rfl⟩ := tabAt b hb
    exact te.empty p hp
  have tabMem : ∀ p ∈ tabs3 K, p.2.1 ∈ (tabsOf K).map (·.1) := fun p hp => List.mem_map.mpr ⟨p.2, List.mem_map.mpr ⟨p, hp, rfl⟩, rfl⟩
  have noTab : a ∉ (tabsOf K).map (·.1) := fun z => by
    have q := tabIs a z
    rw [script] at q
    cases (congrArg Obj.data (Option.some.inj q) : Data.seq vs.toArray _ = Data.fields #[])
  -- the script and the tables are tracked; nobody writes the script
  obtain ⟨H, here, tabs, only⟩ : ∃ H : Hp, H a = some (.frz { cls := .type "list", data := .seq vs.toArray } (.lst (ns.map V.int))) ∧ (∀ b, b ∈ (tabsOf K).map (·.1) → H b = some (.tbl #[])) ∧ ∀ b, b ≠ a → b ∉ (tabsOf K).map (·.1) → H b = none :=
    ⟨fun b => if b = a then some (.frz { cls := .type "list", data := .seq vs.toArray } (.lst (ns.map V.int))) else if b ∈ (tabsOf K).map (·.1) then some (.tbl #[]) else none, if_pos rfl, fun b hb => (if_neg fun z => noTab (by rw [← z]; exact hb)).trans (if_pos hb), fun b ne nt => (if_neg ne).trans (if_neg nt)⟩
  have sound : HOk P w H s.heap := fun b u z => by
    by_cases ne : b = a
    · subst ne
      rw [here] at z
      cases z
      exact ⟨script, by rw [List.length_map]; exact few, vs, _, vals_ints allInt, script⟩
    · by_cases hb : b ∈ (tabsOf K).map (·.1)
      · rw [tabs b hb] at z
        cases z
        exact tabIs b hb
      · rw [only b ne hb] at z; cases z
  have under : ∀ {b : Addr} {o : Obj}, s.heap.get? b = some o → b ≠ a → o ≠ { cls := .none, data := .fields #[] } → (hidT s.heap H).get? b = some o := fun {b o} e ne nt => hidT_get e (only _ ne fun hb => nt (Option.some.inj (e.symm.trans (tabIs b hb))))
  have table : ∀ {b : Addr} {m : Str → Option Value}, s.heap.Ns b m → (hidT s.heap H).Ns b m := fun {b m} h => by
    obtain ⟨o, es, ep, e, d, r⟩ := h
    refine ⟨o, es, ep, under e (fun z => ?_) (fun z => ?_), d, r⟩
    · subst z
      rw [script] at e
      cases e
      cases (show Data.seq vs.toArray _ = Data.dict es ep from d)
    · subst z
      cases (show Data.fields #[] = Data.dict es ep from d)
  have inB : K.In (hidT s.heap H) := fun b o e => hidT_get (inK b o e) (only b (fun z => by rw [z, outK] at e; cases e) fun hb => by
    obtain ⟨p, hp, rfl⟩ := tabAt b hb
    rw [te.out p hp] at e; cases e)
  have module_ : Mod K mg (hidT s.heap H) := by
    obtain ⟨mc, u1, u2⟩ := unlimited
    exact ⟨inB, table globals, ⟨mb, table blts, boots⟩, ⟨mc, table u1, u2⟩⟩
  have noFrame : ∀ b, b ∈ frs ([] : List Env) → False := fun b hb => by
    have : b ∈ ([] : List Addr) := hb
    simp at this
  have TB : TabsB K mg (hidT s.heap H) := fun p hp => by
    refine ⟨PySem.W.codeHd_of_K inB (te.hd p hp), ?_, fun z => ?_⟩
    · obtain ⟨bm, ob, b1, b2, b3, b4, b5, b6⟩ := hbm
      have nG : bm ≠ mainGlobals := fun q => by
        obtain ⟨o, es, ep, e, hd, _⟩ := globals
        rw [q, e] at b3
        cases b3
        rw [hd] at b6
        cases b6
      have nP : bm ≠ p.2.1 := fun q => by
        rw [q, te.empty p hp] at b3
        cases b3
        cases b6
      refine ⟨bm, ob, b1, b2, nG, nP, under b3 (fun q => ?_) (fun q => ?_), b4, b5, b6⟩
      · rw [q, script] at b3
        cases b3
        cases b6
      · rw [q] at b6
        cases b6
    · obtain ⟨o, es, ep, e, hd, _⟩ := globals
      rw [z, te.empty p hp] at e
      cases e
      cases hd
  have start : Env0 P w K mg (hidT s.heap H) callerA [] s H := ⟨rfl, module_, fun _ _ e => of_hidT e, Nat.le_of_eq (hidT_size _ _), trivial, fun b hb => (noFrame b hb).elim, sound, .of_eq calm⟩
  have tabsH : LamX.Tabs (tabsOf K) H := fun p hp => LamX.TabS.nil (tabs _ (List.mem_map.mpr ⟨p, hp, rfl⟩))
  have runs := (F _ inB (table globals) TB).goes callerA [] s H ⟨[.ref a], []⟩ [.ref a] [.ref a] _ _ room rfl start (bt s (.ref a)) (.cons rfl .nil) (wish H (.inr ⟨_, here⟩) tabsH)
  refine codeAny_mono runs fun res s' got => ?_
  match res, got with
  | .error z, got =>
    obtain ⟨_, _, _, _, _, _, _, _, _, _, _, _, no⟩ := got
    exact no.elim
  | .ok (.ret u), got =>
    obtain ⟨v, H', sameOs, bare, kept, sound', rel, isTrue⟩ := got
    have isTrue' : v = .bl true := isTrue
    subst isTrue'
    have eu : u = Value.bool true := rel
    have grown : ∀ b, b ∈ (tabsOf K).map (·.1) → ∃ more : Array Value, s'.heap.get? b = some { cls := .none, data := .fields more } := fun b hb => by
      obtain ⟨more, z⟩ := kept.tbls b #[] (tabs b hb)
      exact ⟨_, sound' b _ z⟩
    have stays : ∀ b o, b ∉ (tabsOf K).map (·.1) → s.heap.get? b = some o → s'.heap.get? b = some o := fun b o nb e => by
      by_cases ne : b = a
      · subst ne
        have still := (sound' b _ (kept.frzs b _ _ here)).1
        rw [script] at e
        cases e
        exact still
      · exact kept.keep b o e (only b ne nb) (fun hb => noFrame b hb) (by simp)
    refine ⟨by rw [eu], ⟨fun b o e => ?_, fun b o e => ?_⟩, sameOs, bare⟩
    · by_cases hb : b ∈ (tabsOf K).map (·.1)
      · obtain ⟨more, hm⟩ := grown b hb
        obtain ⟨p, hp, rfl⟩ := tabAt b hb
        have e' := te.empty p hp
        rw [e] at e'
        cases e'
        exact .inr (.inl ⟨((PySem.W.codeHd_of_K inK (te.hd p hp)).tab e).isCodeTable, rfl, #[], more, rfl, by rw [Array.empty_append]; exact hm⟩)
      · exact .inl (stays b o hb e)
    · by_cases hb : b ∈ (tabsOf K).map (·.1)
      · obtain ⟨more, hm⟩ := grown b hb
        exact ⟨_, hm⟩
      · exact ⟨o, stays b o hb e⟩
theorem prop_ok {K : PySem.W.Frag} {C f : Str} (h : (Fy.prop C f).ok K = true) : PropOf K (He.ga K C) f (He.ma K (He.ga K C) f) (gA K C f) := by
  unfold Fy.ok at h
  simp only [Bool.and_eq_true, decide_eq_true_eq] at h
  obtain ⟨h1, h2, h3, h4⟩ := h
  refine ⟨He.eqO_ok h1, He.eqO_ok h2, h3, ?_⟩
  unfold gA
  split at h4
  · rename_i g rest e
    exact ⟨rest, by rw [e]⟩
  · cases h4
theorem isi_ok {K : PySem.W.Frag} {C : Str} (h : (Fy.isi C).ok K = true) : Isi K (He.ga K C) := by
  unfold Fy.ok at h
  simp only [Bool.and_eq_true, decide_eq_true_eq] at h
  obtain ⟨h1, h2, h3, h4, h5⟩ := h
  exact ⟨He.cls_ok h5, He.eqO_ok h1, He.eqO_ok h2, h3, h4⟩
theorem kit_ok {K : PySem.W.Frag} {a b : Tg} {r : Bool} (h : (Fy.kit a b r).ok K = true) : PySem.W.kitOne K (tagT K a) (tagT K b) = some r := of_decide_eq_true h
theorem noLists_ok {K : PySem.W.Frag} (h : noLists K = true) : ∀ b o, K.lookup b = some o → o.cls ≠ .type "list" := by
  intro b o e z
  have go : ∀ {l : List (Addr × Obj)}, l.lookup b = some o → (b, o) ∈ l := fun {l} => by
    induction l with
    | nil => intro q; cases q
    | cons p l ih =>
      intro q
      obtain ⟨c, d⟩ := p
      by_cases hc : b = c
      · subst hc
        rw [List.lookup_cons_self] at q
        cases q
        exact List.mem_cons_self ..
      · rw [List.lookup_cons, beq_eq_false_iff_ne.mpr hc] at q
        exact List.mem_cons_of_mem _ (ih q)
  have := List.all_eq_true.mp h _ (go e)
  simp only [z] at this
  simp at this
theorem walk_goes {l : PySem.W.OpenLaw} {n k : Nat} {q : Program} {loose : List Str} {XP : (Str → Option Value) → Heap → Prop} {YP : World → Heap → Prop} {d : DefRec} {x : Str}
    (hn : l.most = some n) (hn2 : n ≤ sizeLine) (hdf : d.params.defaults = []) (room : Room k callerA)
    (F : ∀ (w : World) (mg : Str → Option Value) (fa : Addr) (h : Heap), YP w h → h.Ns mainGlobals mg → mg d.name = some (.ref fa) →
      ∃ (K : PySem.W.Frag) (fd : FuncData) (f : M RV), K.In h ∧ noLists K = true ∧ TabsE K h ∧ (∀ (s : Shared) (u : Value), BindsTo s fd ⟨[u], []⟩ [(x, u)]) ∧
        (∀ ns : List Int, ns.length ≤ n → ∃ e', f [.dat (.lst (ns.map .int))] = .ok (.dat (.bl true)) e') ∧
        ∀ base : Heap, K.In base → base.Ns mainGlobals mg → TabsB K mg base → FnG l.prog w K mg base k fa fd [x] (spG K 1 f)) :
    PySem.W.WalkO q loose XP YP l.row.toRowW d [] (fun f vs => PySem.call f vs) := by
  refine Att.attach_call hn hdf fun w s₀ s₁ mg mb fa o pm cd doc a vs ns G Y ho hd hcd hmg script allInt hlen calm => ?_
  obtain ⟨K, fd, f, inK, nl, te, bt, good, prom⟩ := F w mg fa _ Y G.T.g hmg
  refine law_goes inK (noLists_ok nl) te G.T.g G.T.b G.T.builtins G.T.nolimit calm G.T.bmain script allInt (Nat.le_trans hlen hn2) room prom bt fun H rd tb => ?_
  have iv : ∀ {F : Hp} {ns : List Int}, VRs K F (ns.map .int) (ns.map V.int) := fun {F ns} => by
    induction ns with
    | nil => exact .nil
    | cons i ns ih => exact .cons (.int i) ih
  -- known from the beginning: the script alone
  obtain ⟨F0, f1, f2⟩ : ∃ F0 : Hp, F0 a = H a ∧ ∀ b, b ≠ a → F0 b = none := ⟨fun b => if b = a then H b else none, if_pos rfl, fun b ne => if_neg ne⟩
  have rel : Rel K F0 H [.dat (.lst (ns.map .int))] [some (V.ref a)] := by
    refine ⟨fun b o q => ?_, rfl, fun i sl o h1 h2 => ?_, fun i j v w b h1 => ?_, tb, fun b ps q => ?_⟩
    · by_cases ne : b = a
      · subst ne; rw [f1] at q; exact q
      · rw [f2 b ne] at q; cases q
    · cases i with
      | zero =>
        cases h1; cases h2
        refine ⟨_, rfl, .lst ?_ iv⟩
        rcases rd with q | ⟨o, q⟩
        · exact .inl (f1.trans q)
        · exact .inr ⟨o, f1.trans q⟩
      | succ i => simp at h1
    · cases i with
      | zero => cases h1
      | succ i => simp at h1
    · by_cases ne : b = a
      · subst ne
        rw [f1] at q
        rcases rd with z | ⟨o, z⟩ <;> rw [z] at q <;> cases q
      · rw [f2 b ne] at q; cases q
  obtain ⟨e', he⟩ := good ns hlen
  refine ⟨rfl, 1, F0, _, rel, ?_⟩
  unfold At
  rw [he]
  intro F' H' u C r
  cases r
  rfl
end Pu
set_option Elab.async false
set_option linter.all false
set_option maxRecDepth 100000
namespace Pu
open PySem PySem.Spec PyProof.Rows L2
theorem noTakes {X : Cx} : L2N.Takes X noW := by
  intro u s' q
  obtain ⟨_, _, _, _, _, _, _, _, _, _, _, _, _, _, _, _, _, no⟩ := q
theorem Good.blk {X : Cx} {k : Nat} {W : WX} (G : Good X k W) {s : Shared} {H : Hp} {scope : Scope} {cenv : Env} {fp : List Addr} : Good (X.blk s H scope cenv fp) k noW :=
  ⟨G.nd, G.calm, G.room, G.gd, noTakes, PassesOwn.never⟩
structure FnB (P : Program) (w : World) (K : PySem.W.Frag) (mg : Str → Option Value) (base : Heap) (k : Nat) (d : He5.DefA) (ps : List Str) (n : Nat) (m : M RV) : Prop where
  ex : ∃ fd, FunD K d.name d.qual d.params d.body d.scope (d.dvs K) (d.kws K) (d.at_ K) fd ∧ FnG P w K mg base k (d.at_ K) fd ps (spG K n m)
structure BindD (d : He5.DefA) (ps : List Str) : Prop where
  dfl : d.dfl = []
  kwd : d.kwd = []
  all : ∀ (kV doc pm : Value) (an : Option Addr) (cdv ct : Value) (us : List Value), us.length = ps.length → bindArgs (PySem.W.fnOf d.name d.qual d.params d.body d.scope .none kV doc pm an cdv ct) ⟨us, []⟩ = pure (ps.zip us)
structure BindK (d : He5.DefA) (ps : List Str) (n : Nat) (ks : List Str) (g : List Nat) : Prop where
  dfl : d.dfl = []
  nd : g.Nodup
  all : ∀ (kV doc pm : Value) (an : Option Addr) (cdv ct : Value) (us ws : List Value), us.length = n → ws.length = ks.length → bindArgs (PySem.W.fnOf d.name d.qual d.params d.body d.scope .none kV doc pm an cdv ct) ⟨us, ks.zip ws⟩ = pure (ps.zip (sel g (us ++ ws)))
section
variable {P : Program} {w : World} {K : PySem.W.Frag} {mg : Str → Option Value} {base : Heap} {k j n : Nat} {d : He5.DefA} {ps : List Str} {m : M RV}
theorem FnB.up (B : FnB P w K mg base j d ps n m) (h : j ≤ k := by decide) : FnB P w K mg base k d ps n m := by
  obtain ⟨fd, D, F⟩ := B.ex
  exact ⟨fd, D, F.up h⟩
theorem FnB.parts (B : FnB P w K mg base k d ps n m) (bd : BindD d ps) : ∃ fd, FnG P w K mg base k (d.at_ K) fd ps (spG K n m) ∧ Binds K fd ps [] ∧ PySem.W.keepIn K (.ref (d.at_ K)) = true := by
  obtain ⟨fd, D, F⟩ := B.ex
  refine ⟨fd, F, ?_, D.kp⟩
  have e : d.dvs K = [] := by unfold He5.DefA.dvs; rw [bd.dfl]; rfl
  rw [e] at D
  exact D.bindsN bd.all
theorem FnB.partsK {ks : List Str} {g : List Nat} {c : Nat} (B : FnB P w K mg base k d ps n m) (bd : BindK d ps c ks g) : ∃ fd, FnG P w K mg base k (d.at_ K) fd ps (spG K n m) ∧ KB K fd ps c ks g ∧ PySem.W.keepIn K (.ref (d.at_ K)) = true := by
  obtain ⟨fd, D, F⟩ := B.ex
  refine ⟨fd, F, ?_, D.kp⟩
  have e : d.dvs K = [] := by unfold He5.DefA.dvs; rw [bd.dfl]; rfl
  rw [e] at D
  exact kb_of D bd.nd bd.all
theorem fnB_of {N : List Str} {nn : Nat} {mb : S} (D : ∃ fd, FunD K d.name d.qual d.params d.body d.scope (d.dvs K) (d.kws K) (d.at_ K) fd) (S : FnScope N ps d.scope) (h1 : ps.length = n) (h2 : N.length = nn)
    (hb : ∀ (cdv : Value) (A : Around) (outer : List Env) (s : Shared) (H : Hp) (E : XK), Good (cxOf (L2N.CX P w) P w K mg base N d.qual d.scope (d.at_ K) cdv A outer s H E) k (fun c d _ H => E c d H) →
      SB (cxOf (L2N.CX P w) P w K mg base N d.qual d.scope (d.at_ K) cdv A outer s H E) (fun c d _ H => E c d H) n d.body mb) : FnB P w K mg base (k + 1) d ps n (fnDen n nn mb) := by
  obtain ⟨fd, D⟩ := D
  exact ⟨fd, D, fn_ok D S h1 h2 hb⟩
end
section
variable {X : Cx} {W : WX} {k n : Nat} {d : He5.DefA} {ps : List Str} {x m : Str} {p pos apos : Pos} {e o : Expr} {es : List Expr} {mf mo : M RV} {mr mk : M (List RV)} {kws : List Keyword}
theorem se_callD (ms : List Bool) (B : FnB X.prog X.w X.K X.mg X.base k d ps n mf) (bd : BindD d ps) (G : Good X k W) (gl : Gl X x) (at_ : X.mg x = some (.ref (d.at_ X.K))) (ha : SA X W (e :: es) mr) (hn : ms.length = n := by rfl) (n1 : (x == ("__debug__" : Str)) = false := by decide)
    (n2 : starEach (e :: es) X.env = (false, eval e X.env) :: starEach es X.env := by rfl) (n3 : (backTo pos (starEach es X.env)).any (·.1) = false := by rfl) : SE X W (.Call (.Name x p) (e :: es) [] pos) (mCall ms mf mr []) := by
  obtain ⟨fd, F, hb, kp⟩ := B.parts bd
  exact se_call ms F G gl at_ kp hb .nil VC.nil ha hn n1 n2 n3
theorem se_makeD {C : Str} (ms : List Bool) (Mk : Mk X.K (He.ga X.K C) (d.at_ X.K)) (B : FnB X.prog X.w X.K X.mg X.base k d ps n mf) (bd : BindD d ps) (G : Good X (k + 1) W) (gl : Gl X x) (at_ : X.mg x = some (.ref (He.ga X.K C))) (ha : SA X W (e :: es) mr) (hn : ms.length + 1 = n := by rfl) (n1 : (x == ("__debug__" : Str)) = false := by decide)
    (n2 : starEach (e :: es) X.env = (false, eval e X.env) :: starEach es X.env := by rfl) (n3 : (backTo pos (starEach es X.env)).any (·.1) = false := by rfl) : SE X W (.Call (.Name x p) (e :: es) [] pos) (mMake C ms mf mr []) := by
  obtain ⟨fd, F, hb, kp⟩ := B.parts bd
  exact se_make ms Mk F G gl at_ hb .nil VC.nil ha hn n1 n2 n3
theorem se_propD {C f : Str} (ho : SE X W o mo) (c : Cls X.K (He.ga X.K C)) {p : Addr} (hp : PropOf X.K (He.ga X.K C) f p (d.at_ X.K)) (B : FnB X.prog X.w X.K X.mg X.base k d ps 1 mf) (bd : BindD d ps) (G : Good X (k + 1) W)
    (plain : attributeBase o f X.env (eval o X.env) = eval o X.env := by rfl) : SE X W (.Attribute o f pos) (mProp C mf mo) := by
  obtain ⟨fd, F, hb, kp⟩ := B.parts bd
  exact se_prop ho c hp F G hb plain
end
section
variable {X : Cx} {W : WX} {x : Str} {pos : Pos}
theorem se_gInt {i : Int} (gl : Gl X x) (h : ∃ t, X.mg x = some (.int i t)) (hd : (x == ("__debug__" : Str)) = false := by decide) : SE X W (.Name x pos) (mV (.int i)) := by
  obtain ⟨t, e⟩ := h
  exact se_gloV (u := .int i) gl e ⟨t, rfl⟩ (fun _ => .int i) hd
theorem se_gStr {z : Str} (gl : Gl X x) (h : ∃ t, X.mg x = some (.str z t)) (hd : (x == ("__debug__" : Str)) = false := by decide) : SE X W (.Name x pos) (mV (.str z)) := by
  obtain ⟨t, e⟩ := h
  exact se_gloV (u := .str z) gl e ⟨t, rfl⟩ (fun _ => .str z) hd
def flatG : Val → Bool
  | .non | .bl _ | .int _ | .str _ | .ty _ | .glo _ => true
  | _ => false
theorem gv_ok {K : PySem.W.Frag} {F : Hp} : ∀ {vs : List Val}, vs.all flatG = true → VRs K F vs ((vs.map gv).map (He.Dv.v K))
  | [], _ => .nil
  | v :: vs, h => by
    rw [List.all_cons, Bool.and_eq_true] at h
    refine .cons ?_ (gv_ok h.2)
    have h1 := h.1
    cases v with
    | non => exact .non
    | bl b => exact .bl b
    | int i => exact .int i
    | str z => exact .str z
    | ty n => exact .ty n
    | glo z => exact .glo z
    | _ => cases h1
theorem se_gTup {vs : List Val} (gl : Gl X x) (at_ : X.mg x = some (.ref (He.ga X.K x))) (h : He.tupB X.K x (vs.map gv) = true) (hf : vs.all flatG = true := by rfl) (hd : (x == ("__debug__" : Str)) = false := by decide) : SE X W (.Name x pos) (mV (.tup vs)) :=
  se_gloV (u := .ref (He.ga X.K x)) gl at_ rfl (fun F => .tup (He.tupB_ok h F) (gv_ok hf)) hd
end
theorem funD_fd {K : PySem.W.Frag} {x x' q q' : Str} {p p' : Arguments} {b b' : List Stmt} {sc sc' : Scope} {dvs dvs' : List V} {kws kws' : List (Str × V)} {f : Addr} {fd fd' : FuncData} (F : FunD K x q p b sc dvs kws f fd) (F' : FunD K x' q' p' b' sc' dvs' kws' f fd') : fd = fd' := by
  obtain ⟨_, _, _, _, _, _, _, _, _, _, _, l1, _⟩ := F.ex
  obtain ⟨_, _, _, _, _, _, _, _, _, _, _, l2, _⟩ := F'.ex
  rw [l1] at l2
  cases l2
  rfl
end Pu
set_option Elab.async false
set_option linter.all false
set_option maxRecDepth 100000
namespace Pu.O
open PySem PySem.Spec PyProof.Rows L2 Pu
section
variable {α β : Type} {m : M α} {e : Ev} {Q Q' : α → Ev → Prop} {R : β → Ev → Prop}
theorem ok_ex : Ok m e Q ↔ ∃ a e', m e = .ok a e' ∧ Q a e' := by
  unfold Ok
  cases h : m e with
  | ok a e' => exact ⟨fun z => ⟨a, e', rfl, z⟩, fun ⟨b, f, z, y⟩ => by cases z; exact y⟩
  | _ => exact ⟨fun z => z.elim, fun ⟨b, f, z, y⟩ => nomatch z⟩
theorem ok_bind {f : α → M β} : Ok (m.bind f) e R ↔ Ok m e fun a e' => Ok (f a) e' R := by
  unfold Ok M.bind
  cases m e <;> rfl
theorem ok_bad : Ok M.bad e Q ↔ False := Iff.rfl
theorem ok_ite {c : Prop} [Decidable c] {a b : M α} : Ok (if c then a else b) e Q ↔ (c → Ok a e Q) ∧ (¬c → Ok b e Q) := by
  by_cases h : c <;> simp [h]
end
variable {e : Ev}
theorem ok_mV {v : Val} {Q : RV → Ev → Prop} : Ok (mV v) e Q ↔ Q (.dat v) e := Iff.rfl
theorem ok_rdD {v : Val} {Q : Val → Ev → Prop} : Ok (M.rd (.dat v)) e Q ↔ Q v e := Iff.rfl
theorem ok_rdT {v : Val} {Q : Val → Ev → Prop} : Ok (M.rd (.tmp v)) e Q ↔ Q v e := Iff.rfl
theorem ok_dtD {v : Val} {Q : Val → Ev → Prop} : Ok (M.dt (.dat v)) e Q ↔ Q v e := Iff.rfl
theorem ok_dtT {v : Val} {Q : Val → Ev → Prop} : Ok (M.dt (.tmp v)) e Q ↔ Q v e := Iff.rfl
theorem ok_rds0 {Q : List Val → Ev → Prop} : Ok (M.rds []) e Q ↔ Q [] e := Iff.rfl
theorem ok_rdsC {r : RV} {rs : List RV} {Q : List Val → Ev → Prop} : Ok (M.rds (r :: rs)) e Q ↔ Ok (M.rd r) e fun v e1 => Ok (M.rds rs) e1 fun vs e2 => Q (v :: vs) e2 := by
  show Ok ((M.rd r).bind fun v => (M.rds rs).bind fun vs => M.ret (v :: vs)) e Q ↔ _
  rw [ok_bind]
  simp only [ok_bind, ok_ret]
theorem ok_dts0 {Q : List Val → Ev → Prop} : Ok (M.dts []) e Q ↔ Q [] e := Iff.rfl
theorem ok_dtsC {r : RV} {rs : List RV} {Q : List Val → Ev → Prop} : Ok (M.dts (r :: rs)) e Q ↔ Ok (M.dt r) e fun v e1 => Ok (M.dts rs) e1 fun vs e2 => Q (v :: vs) e2 := by
  show Ok ((M.dt r).bind fun v => (M.dts rs).bind fun vs => M.ret (v :: vs)) e Q ↔ _
  rw [ok_bind]
  simp only [ok_bind, ok_ret]
theorem ok_nil {Q : List RV → Ev → Prop} : Ok mNil e Q ↔ Q [] e := Iff.rfl
theorem ok_cons {a : M RV} {r : M (List RV)} {Q : List RV → Ev → Prop} : Ok (mCons a r) e Q ↔ Ok a e fun x e1 => Ok r e1 fun xs e2 => Q (x :: xs) e2 := by
  unfold mCons; simp only [ok_bind, ok_ret]
theorem ok_bin {f : Val → Val → M RV} {a b : M RV} {Q : RV → Ev → Prop} : Ok (mBin f a b) e Q ↔ Ok a e fun r e1 => Ok b e1 fun s e2 => Ok (M.rd r) e2 fun v e3 => Ok (M.rd s) e3 fun w e4 => Ok (f v w) e4 Q := by
  unfold mBin; simp only [ok_bind]
theorem ok_cb {f : List Val → M RV} {ms : M (List RV)} {Q : RV → Ev → Prop} : Ok (mCB f ms) e Q ↔ Ok ms e fun rs e1 => Ok (M.rds rs) e1 fun vs e2 => Ok (f vs) e2 Q := by
  unfold mCB; simp only [ok_bind]
theorem ok_tup {r : M (List RV)} {Q : RV → Ev → Prop} : Ok (mTup r) e Q ↔ Ok r e fun rs e1 => Ok (M.dts rs) e1 fun vs e2 => vs.length ≤ sizeLine ∧ Q (.dat (.tup vs)) e2 := by
  unfold mTup
  simp only [ok_bind, ok_ite, ok_ret, ok_bad]
  apply iff_of_eq; congr 1; funext rs e1; congr 1; funext vs e2
  apply propext
  by_cases h : vs.length ≤ sizeLine <;> simp [h]
theorem ok_lst {r : M (List RV)} {Q : RV → Ev → Prop} : Ok (mLst r) e Q ↔ Ok r e fun rs e1 => Ok (M.dts rs) e1 fun vs e2 => vs.length ≤ sizeLine ∧ Q (.tmp (.lst vs)) e2 := by
  unfold mLst
  simp only [ok_bind, ok_ite, ok_ret, ok_bad]
  apply iff_of_eq; congr 1; funext rs e1; congr 1; funext vs e2
  apply propext
  by_cases h : vs.length ≤ sizeLine <;> simp [h]
theorem ok_tru {m : M RV} {Q : Bool → Ev → Prop} : Ok (mTru m) e Q ↔ Ok m e fun r e1 => Ok (M.rd r) e1 fun v e2 => Ok (truV v) e2 Q := by
  unfold mTru; simp only [ok_bind]
theorem ok_truB {b : Bool} {Q : Bool → Ev → Prop} : Ok (truV (.bl b)) e Q ↔ Q b e := Iff.rfl
theorem ok_truI {i : Int} {Q : Bool → Ev → Prop} : Ok (truV (.int i)) e Q ↔ Q (i != 0) e := Iff.rfl
theorem ok_truN {Q : Bool → Ev → Prop} : Ok (truV .non) e Q ↔ Q false e := Iff.rfl
theorem ok_truL {xs : List Val} {Q : Bool → Ev → Prop} : Ok (truV (.lst xs)) e Q ↔ Q (!xs.isEmpty) e := Iff.rfl
theorem ok_truT {xs : List Val} {Q : Bool → Ev → Prop} : Ok (truV (.tup xs)) e Q ↔ Q (!xs.isEmpty) e := Iff.rfl
theorem ok_and {a b : M Bool} {Q : Bool → Ev → Prop} : Ok (mAnd a b) e Q ↔ Ok a e fun c e1 => (c = true → Ok b e1 Q) ∧ (¬ c = true → Q false e1) := by
  unfold mAnd; simp only [ok_bind, ok_ite, ok_ret]
theorem ok_or {a b : M Bool} {Q : Bool → Ev → Prop} : Ok (mOr a b) e Q ↔ Ok a e fun c e1 => (c = true → Q true e1) ∧ (¬ c = true → Ok b e1 Q) := by
  unfold mOr; simp only [ok_bind, ok_ite, ok_ret]
theorem ok_not {a : M Bool} {Q : Bool → Ev → Prop} : Ok (mNot a) e Q ↔ Ok a e fun c e1 => Q (!c) e1 := by
  unfold mNot; simp only [ok_bind, ok_ret]
theorem ok_ifE {c : M Bool} {a b : M RV} {Q : RV → Ev → Prop} : Ok (mIfE c a b) e Q ↔ Ok c e fun k e1 => (k = true → Ok a e1 Q) ∧ (¬ k = true → Ok b e1 Q) := by
  unfold mIfE; simp only [ok_bind, ok_ite]
theorem ok_andV {a b : M RV} {Q : RV → Ev → Prop} : Ok (mAndV a b) e Q ↔ Ok a e fun r e1 => Ok (M.rd r) e1 fun v e2 => match v with
    | .bl c => (c = true → Ok b e2 Q) ∧ (¬ c = true → Q (.dat (.bl false)) e2)
    | _ => False := by
  unfold mAndV; simp only [ok_bind]
  apply iff_of_eq; congr 1; funext r e1; congr 1; funext v e2
  cases v <;> simp only [ok_ite, ok_mV, ok_bad]
theorem ok_orV {a b : M RV} {Q : RV → Ev → Prop} : Ok (mOrV a b) e Q ↔ Ok a e fun r e1 => Ok (M.rd r) e1 fun v e2 => match v with
    | .bl c => (c = true → Q (.dat (.bl true)) e2) ∧ (¬ c = true → Ok b e2 Q)
    | _ => False := by
  unfold mOrV; simp only [ok_bind]
  apply iff_of_eq; congr 1; funext r e1; congr 1; funext v e2
  cases v <;> simp only [ok_ite, ok_mV, ok_bad]
theorem ok_notV {a : M RV} {Q : RV → Ev → Prop} : Ok (mNotV a) e Q ↔ Ok a e fun r e1 => Ok (M.rd r) e1 fun v e2 => match v with
    | .bl c => Q (.dat (.bl (!c))) e2
    | _ => False := by
  unfold mNotV; simp only [ok_bind]
  apply iff_of_eq; congr 1; funext r e1; congr 1; funext v e2
  cases v <;> simp only [ok_mV, ok_bad]
theorem ok_neg {a : M RV} {Q : RV → Ev → Prop} : Ok (mNeg a) e Q ↔ Ok a e fun r e1 => Ok (M.rd r) e1 fun v e2 => match v with
    | .int i => Q (.dat (.int (-i))) e2
    | _ => False := by
  unfold mNeg; simp only [ok_bind]
  apply iff_of_eq; congr 1; funext r e1; congr 1; funext v e2
  cases v <;> simp only [ok_mV, ok_bad]
theorem ok_chain {f g : Val → Val → M RV} {a b c : M RV} {Q : RV → Ev → Prop} : Ok (mChain f g a b c) e Q ↔ Ok a e fun r e1 => Ok b e1 fun s e2 => Ok (M.rd r) e2 fun v e3 => Ok (M.rd s) e3 fun w e4 => Ok (f v w) e4 fun z e5 => Ok (M.rd z) e5 fun k e6 => match k with
    | .bl k => (k = true → Ok c e6 fun t e7 => Ok (M.rd s) e7 fun w' e8 => Ok (M.rd t) e8 fun x e9 => Ok (g w' x) e9 Q) ∧ (¬ k = true → Q (.dat (.bl false)) e6)
    | _ => False := by
  unfold mChain; simp only [ok_bind]
  apply iff_of_eq; congr 1; funext r e1; congr 1; funext s e2; congr 1; funext v e3; congr 1; funext w e4; congr 1; funext z e5; congr 1; funext k e6
  cases k with
  | bl k => cases k <;> simp [ok_bind, ok_mV]
  | _ => simp only [ok_bad]
theorem ok_seq {a b : S} {Q : Out → Ev → Prop} : Ok (mSeq a b) e Q ↔ Ok a e fun o e1 => match o with
    | .nx => Ok b e1 Q
    | .bk => Q .bk e1
    | .ct => Q .ct e1
    | .rt r => Q (.rt r) e1 := by
  unfold Ok mSeq
  cases a e with
  | ok o e' => cases o <;> exact Iff.rfl
  | _ => exact Iff.rfl
theorem ok_skip {Q : Out → Ev → Prop} : Ok mSkip e Q ↔ Q .nx e := Iff.rfl
theorem ok_retS {m : M RV} {Q : Out → Ev → Prop} : Ok (mRet m) e Q ↔ Ok m e fun r e1 => Q (.rt r) e1 := by
  unfold mRet; rw [ok_bind]; exact Iff.rfl
theorem ok_retN {Q : Out → Ev → Prop} : Ok mRetN e Q ↔ Q (.rt (.dat .non)) e := Iff.rfl
theorem ok_bk {Q : Out → Ev → Prop} : Ok mBk e Q ↔ Q .bk e := Iff.rfl
theorem ok_ct {Q : Out → Ev → Prop} : Ok mCt e Q ↔ Q .ct e := Iff.rfl
theorem ok_ex1 {m : M RV} {Q : Out → Ev → Prop} : Ok (mEx m) e Q ↔ Ok m e fun _ e1 => Q .nx e1 := by
  unfold mEx; rw [ok_bind]; exact Iff.rfl
theorem ok_if {c : M Bool} {a b : S} {Q : Out → Ev → Prop} : Ok (mIf c a b) e Q ↔ Ok c e fun k e1 => (k = true → Ok a e1 Q) ∧ (¬ k = true → Ok b e1 Q) := by
  unfold mIf; simp only [ok_bind, ok_ite]
theorem ok_set {i : Nat} {m : M RV} {Q : Out → Ev → Prop} : Ok (mSet i m) e Q ↔ Ok m e fun r e1 => match r with
    | .dat v => Q .nx (e1.set i (.dat v))
    | .tmp v => Q .nx (e1.set i (.own v))
    | .bor j => Ok (M.dt (.bor j)) e1 fun v e2 => Q .nx (e2.set i (.dat v)) := by
  unfold mSet; rw [ok_bind]
  apply iff_of_eq; congr 1; funext r e1
  cases r with
  | dat v => rfl
  | tmp v => rfl
  | bor j => exact propext (by show Ok ((M.dt (.bor j)).bind _) e1 Q ↔ _; rw [ok_bind]; exact Iff.rfl)
theorem ok_setP {i : Nat} {m : M RV} {Q : Out → Ev → Prop} : Ok (mSetP i m) e Q ↔ Ok m e fun r e1 => Ok (M.dt r) e1 fun v e2 => Q .nx (e2.set i (.dat v)) := by
  unfold mSetP; simp only [ok_bind]; exact Iff.rfl
theorem ok_asg {mg : Val → M Unit} {m : M RV} {Q : Out → Ev → Prop} : Ok (mAsg mg m) e Q ↔ Ok m e fun r e1 => Ok (M.dt r) e1 fun v e2 => Ok (mg v) e2 fun _ e3 => Q .nx e3 := by
  unfold mAsg; simp only [ok_bind]; exact Iff.rfl
theorem ok_gN {i : Nat} {v : Val} {Q : Unit → Ev → Prop} : Ok (gN i v) e Q ↔ Q () (e.set i (.dat v)) := Iff.rfl
theorem ok_gsN {Q : Unit → Ev → Prop} : Ok (gsN []) e Q ↔ Q () e := Iff.rfl
theorem ok_gsC {m : Val → M Unit} {ms : List Val → M Unit} {v : Val} {vs : List Val} {Q : Unit → Ev → Prop} : Ok (gsC m ms (v :: vs)) e Q ↔ Ok (m v) e fun _ e1 => Ok (ms vs) e1 Q := by
  show Ok ((m v).bind fun _ => ms vs) e Q ↔ _
  rw [ok_bind]
theorem ok_gT {n : Nat} {ms : List Val → M Unit} {xs : List Val} {Q : Unit → Ev → Prop} : Ok (gT n ms (.tup xs)) e Q ↔ xs.length = n ∧ Ok (ms xs) e Q := by
  show Ok (if xs.length = n then ms xs else M.bad) e Q ↔ _
  by_cases h : xs.length = n <;> simp [h, ok_bad]
theorem ok_gSb {mo mi : M RV} {v : Val} {Q : Unit → Ev → Prop} : Ok (gSb mo mi v) e Q ↔ Ok mo e fun r e1 => Ok mi e1 fun s e2 => Ok (M.rd s) e2 fun k e3 => match r, k with
    | .bor j, .int k => (match e3[j]? with
      | some (.own (.lst xs)) => (match ixN xs.length k with
        | some n => Q () (e3.set j (.own (.lst (xs.set n v))))
        | none => False)
      | _ => False)
    | _, _ => False := by
  unfold gSb; simp only [ok_bind]
  apply iff_of_eq; congr 1; funext r e1; congr 1; funext s e2; congr 1; funext k e3
  cases r with
  | bor j => cases k with
    | int k =>
      apply propext
      unfold Ok
      dsimp only
      cases e3[j]? with
      | none => exact Iff.rfl
      | some sl => cases sl with
        | own w => cases w with
          | lst xs =>
            dsimp only
            cases ixN xs.length k <;> exact Iff.rfl
          | _ => exact Iff.rfl
        | _ => exact Iff.rfl
    | _ => rfl
  | _ => cases k <;> rfl
theorem ok_par {p : Bool} {is : List Nat} {as : M (List RV)} {Q : Out → Ev → Prop} : Ok (mPar p is as) e Q ↔ Ok as e fun rs e1 => rs.length = is.length ∧ ((noBor rs = true ∧ p = false → Q .nx (setsE is rs e1)) ∧ (¬ (noBor rs = true ∧ p = false) → Ok (M.dts rs) e1 fun vs e2 => Q .nx (setsE is (vs.map .dat) e2))) := by
  unfold mPar; rw [ok_bind]
  apply iff_of_eq; congr 1; funext rs e1
  apply propext
  by_cases h : rs.length = is.length
  · rw [if_pos h]
    by_cases hb : noBor rs = true ∧ p = false
    · rw [if_pos hb]
      exact ⟨fun z => ⟨h, fun _ => z, fun y => absurd hb y⟩, fun z => z.2.1 hb⟩
    · rw [if_neg hb]
      simp only [ok_bind]
      refine ⟨fun z => ⟨h, fun y => absurd y hb, fun _ => z⟩, fun z => z.2.2 hb⟩
  · rw [if_neg h]
    simp [h, ok_bad]
theorem ok_put {C f : Str} {mo mv : M RV} {Q : Out → Ev → Prop} : Ok (mPut C f mo mv) e Q ↔ Ok mv e fun r0 e1 => Ok (M.dt r0) e1 fun v e2 => Ok mo e2 fun r e3 => match r with
    | .bor i => (match e3[i]? with
      | some (.own (.obj C' fs vs)) => C' = C ∧ fs.length < 1000 ∧ Q .nx (e3.set i (.own (.obj C (putFs f fs) (putVs f v fs vs))))
      | _ => False)
    | _ => False := by
  unfold mPut; simp only [ok_bind]
  apply iff_of_eq; congr 1; funext r0 e1; congr 1; funext v e2; congr 1; funext r e3
  cases r with
  | bor i =>
    apply propext
    unfold Ok
    dsimp only
    cases e3[i]? with
    | none => exact Iff.rfl
    | some sl => cases sl with
      | own w => cases w with
        | obj C' fs vs =>
          dsimp only
          by_cases h : C' = C ∧ fs.length < 1000
          · simp [h]
          · rw [if_neg h]
            exact ⟨fun z => z.elim, fun z => h ⟨z.1, z.2.1⟩⟩
        | _ => exact Iff.rfl
      | _ => exact Iff.rfl
  | _ => rfl
theorem ok_get {C f : Str} {mo : M RV} {Q : RV → Ev → Prop} : Ok (mGet C f mo) e Q ↔ Ok mo e fun r e1 => Ok (M.rd r) e1 fun v e2 => match v with
    | .obj C' fs vs => C' = C ∧ (match lookV f fs vs with
      | some w => Q (.dat w) e2
      | none => False)
    | _ => False := by
  unfold mGet; simp only [ok_bind]
  apply iff_of_eq; congr 1; funext r e1; congr 1; funext v e2
  cases v with
  | obj C' fs vs =>
    apply propext
    dsimp only
    by_cases h : C' = C
    · simp only [h, if_true, true_and]
      cases lookV f fs vs <;> exact Iff.rfl
    · simp [h, ok_bad]
  | _ => rfl
theorem ok_run {ms : List Bool} {f : M RV} {rs : List RV} {Q : RV → Ev → Prop} : Ok (runF ms f rs) e Q ↔ match argsE ms rs e with
    | some (p, e1) => Ok f p fun r p' => match r with
      | .dat v => Q (.dat v) (backE ms rs p' e1)
      | .tmp v => Q (.tmp v) (backE ms rs p' e1)
      | .bor _ => False
    | none => False := by
  unfold Ok runF
  cases argsE ms rs e with
  | none => exact Iff.rfl
  | some pr =>
    obtain ⟨p, e1⟩ := pr
    dsimp only
    cases f p with
    | ok r p' => cases r <;> exact Iff.rfl
    | _ => exact Iff.rfl
theorem ok_call {ms : List Bool} {f : M RV} {as : M (List RV)} {Q : RV → Ev → Prop} : Ok (mCall ms f as []) e Q ↔ Ok as e fun rs e1 => Ok (runF ms f rs) e1 Q := by
  unfold mCall; simp only [ok_bind, List.map_nil, List.append_nil]
theorem ok_callK {ms : List Bool} {f : M RV} {as ks : M (List RV)} {n m : Nat} {g : List Nat} {Q : RV → Ev → Prop} : Ok (mCallK ms f as ks n m g) e Q ↔ Ok as e fun rs e1 => Ok ks e1 fun zs e2 => (rs.length = n ∧ zs.length = m) ∧ Ok (runF ms f (sel g (rs ++ zs))) e2 Q := by
  unfold mCallK; simp only [ok_bind]
  apply iff_of_eq; congr 1; funext rs e1; congr 1; funext zs e2
  apply propext
  by_cases h : rs.length = n ∧ zs.length = m <;> simp [h, ok_bad]
theorem ok_make {C : Str} {ms : List Bool} {f : M RV} {as : M (List RV)} {Q : RV → Ev → Prop} : Ok (mMake C ms f as []) e Q ↔ Ok as e fun rs e1 => match argsE (true :: ms) (.tmp (.obj C [] []) :: rs) e1 with
    | some (p, e2) => Ok f p fun r p' => match r with
      | .dat .non => (match p'[0]? with
        | some (Slot.own v) => Q (.tmp v) (backE (true :: ms) (.tmp (.obj C [] []) :: rs) p' e2)
        | _ => False)
      | _ => False
    | none => False := by
  unfold mMake; simp only [ok_bind, List.map_nil, List.append_nil]
  apply iff_of_eq; congr 1; funext rs e1
  apply propext
  unfold Ok runMk
  cases argsE (true :: ms) (.tmp (.obj C [] []) :: rs) e1 with
  | none => exact Iff.rfl
  | some pr =>
    obtain ⟨p, e2⟩ := pr
    dsimp only
    cases f p with
    | ok r p' => cases r with
      | dat v => cases v with
        | non =>
          dsimp only
          cases p'[0]? with
          | none => exact Iff.rfl
          | some sl => cases sl <;> exact Iff.rfl
        | _ => exact Iff.rfl
      | _ => exact Iff.rfl
    | _ => exact Iff.rfl
theorem ok_prop {C : Str} {f mo : M RV} {Q : RV → Ev → Prop} : Ok (mProp C f mo) e Q ↔ Ok mo e fun r e1 => Ok (M.rd r) e1 fun v e2 => match v with
    | .obj C' _ _ => C' = C ∧ Ok (runF [true] f [r]) e2 Q
    | _ => False := by
  unfold mProp; simp only [ok_bind]
  apply iff_of_eq; congr 1; funext r e1; congr 1; funext v e2
  cases v with
  | obj C' fs vs =>
    apply propext
    dsimp only
    by_cases h : C' = C
    · simp only [h, if_true, true_and]
      unfold Ok noRs
      cases runF [true] f [r] e2 <;> exact Iff.rfl
    · simp [h, ok_bad]
  | _ => rfl
theorem ok_den {n nn : Nat} {b : S} {Q : RV → Ev → Prop} (h : e.length = n) : Ok (fnDen n nn b) e Q ↔ Ok b (e ++ List.replicate (nn - n) Slot.un) fun o e' => match o with
    | .nx => Q (.dat .non) (outE (e'.take n))
    | .rt (.dat v) => Q (.dat v) (outE (e'.take n))
    | .rt (.tmp v) => Q (.tmp v) (outE (e'.take n))
    | .rt (.bor i) => (match e'[i]? with
      | some (.own v) => Q (.tmp v) (outE ((e'.set i .un).take n))
      | some (.dat v) => Q (.dat v) (outE (e'.take n))
      | _ => False)
    | _ => False := by
  unfold Ok fnDen
  rw [if_pos h]
  cases b (e ++ List.replicate (nn - n) Slot.un) with
  | ok o e' => cases o with
    | rt r => cases r with
      | bor i =>
        dsimp only [retV]
        cases e'[i]? with
        | none => exact Iff.rfl
        | some sl => cases sl <;> exact Iff.rfl
      | _ => exact Iff.rfl
    | _ => exact Iff.rfl
  | _ => exact Iff.rfl
theorem ok_for {mi : M (List Val)} {mt : Val → M Unit} {mb : S} {Q : Out → Ev → Prop} : Ok (mFor mi mt mb) e Q ↔ Ok mi e fun vs e1 => Ok (loopS mt mb vs) e1 Q := by
  unfold mFor; rw [ok_bind]
theorem ok_loop0 {mt : Val → M Unit} {mb : S} {Q : Out → Ev → Prop} : Ok (loopS mt mb []) e Q ↔ Q .nx e := Iff.rfl
theorem ok_loopC {mt : Val → M Unit} {mb : S} {v : Val} {vs : List Val} {Q : Out → Ev → Prop} : Ok (loopS mt mb (v :: vs)) e Q ↔ Ok (mt v) e fun _ e1 => Ok mb e1 fun o e2 => match o with
    | .nx => Ok (loopS mt mb vs) e2 Q
    | .ct => Ok (loopS mt mb vs) e2 Q
    | .bk => Q .nx e2
    | .rt r => Q (.rt r) e2 := by
  unfold Ok
  conv => lhs; unfold loopS
  cases mt v e with
  | ok u e1 =>
    dsimp only
    cases mb e1 with
    | ok o e2 => cases o <;> exact Iff.rfl
    | _ => exact Iff.rfl
  | _ => exact Iff.rfl
theorem Ok.loop {mt : Val → M Unit} {mb : S} (P : Nat → Ev → Prop) : ∀ {vs : List Val} {e : Ev} {i : Nat}, P i e → (∀ (j : Nat) (v : Val) (e : Ev), vs[j]? = some v → P (i + j) e → Ok (mt v) e fun _ e1 => Ok mb e1 fun o e2 => (o = .nx ∨ o = .ct) ∧ P (i + j + 1) e2) →
    Ok (loopS mt mb vs) e fun o e' => o = .nx ∧ P (i + vs.length) e'
  | [], e, i, h, _ => by rw [ok_loop0]; exact ⟨rfl, h⟩
  | v :: vs, e, i, h, st => by
    rw [ok_loopC]
    refine Ok.mono (st 0 v e rfl h) fun _ e1 h1 => Ok.mono h1 fun o e2 h2 => ?_
    have go : Ok (loopS mt mb vs) e2 fun o e' => o = .nx ∧ P (i + (v :: vs).length) e' := by
      have := Ok.loop (i := i + 1) P (vs := vs) (e := e2) h2.2 fun j w e3 hj hp => by
        have := st (j + 1) w e3 (by simpa using hj) (by rw [show i + (j + 1) = i + 1 + j by omega]; exact hp)
        rw [show i + 1 + j + 1 = i + (j + 1) + 1 by omega]; exact this
      refine Ok.mono this fun o e' q => ⟨q.1, ?_⟩
      rw [List.length_cons, show i + (vs.length + 1) = i + 1 + vs.length by omega]; exact q.2
    rcases h2.1 with q | q <;> subst q <;> exact go
theorem ok_items {m : M RV} {Q : List Val → Ev → Prop} : Ok (mItems m) e Q ↔ Ok m e fun r e1 => Ok (M.dt r) e1 fun v e2 => match v with
    | .lst xs => Q xs e2
    | .tup xs => Q xs e2
    | _ => False := by
  unfold mItems; simp only [ok_bind]
  apply iff_of_eq; congr 1; funext r e1; congr 1; funext v e2
  cases v <;> rfl
theorem ok_rng1 {m : M RV} {Q : List Val → Ev → Prop} : Ok (mRng1 m) e Q ↔ Ok m e fun r e1 => Ok (M.rd r) e1 fun v e2 => match v with
    | .int j => (-4611686018427387904 ≤ j ∧ j < 4611686018427387904) ∧ Q (rangeV 0 j) e2
    | _ => False := by
  unfold mRng1; simp only [ok_bind]
  apply iff_of_eq; congr 1; funext r e1; congr 1; funext v e2
  cases v with
  | int j =>
    apply propext
    dsimp only
    by_cases h : -4611686018427387904 ≤ j ∧ j < 4611686018427387904 <;> simp [h, ok_bad, ok_ret]
  | _ => rfl
theorem ok_rng2 {a b : M RV} {Q : List Val → Ev → Prop} : Ok (mRng2 a b) e Q ↔ Ok a e fun r e1 => Ok b e1 fun s e2 => Ok (M.rd r) e2 fun v e3 => Ok (M.rd s) e3 fun w e4 => match v, w with
    | .int i, .int j => (-4611686018427387904 ≤ i ∧ i < 4611686018427387904 ∧ -4611686018427387904 ≤ j ∧ j < 4611686018427387904) ∧ Q (rangeV i j) e4
    | _, _ => False := by
  unfold mRng2; simp only [ok_bind]
  apply iff_of_eq; congr 1; funext r e1; congr 1; funext s e2; congr 1; funext v e3; congr 1; funext w e4
  cases v with
  | int i => cases w with
    | int j =>
      apply propext
      dsimp only
      by_cases h : -4611686018427387904 ≤ i ∧ i < 4611686018427387904 ∧ -4611686018427387904 ≤ j ∧ j < 4611686018427387904
      · rw [if_pos h]; exact ⟨fun z => ⟨h, z⟩, fun z => z.2⟩
      · rw [if_neg h]; exact ⟨fun z => z.elim, fun z => h z.1⟩
    | _ => rfl
  | _ => cases w <;> rfl
theorem ok_comp {ws : List Nat} {mi : M (List Val)} {mt : Val → M Unit} {mc : M Bool} {me : M RV} {Q : RV → Ev → Prop} : Ok (mComp ws mi mt mc me) e Q ↔ Ok mi e fun vs e1 => Ok (compS ws mt mc me vs []) (wipeE e1 ws) fun acc e2 => Q (.tmp (.lst acc)) e2 := by
  unfold mComp; rw [ok_bind]
  apply iff_of_eq; congr 1; funext vs e1
  apply propext
  unfold Ok
  dsimp only
  cases compS ws mt mc me vs [] (wipeE e1 ws) <;> exact Iff.rfl
theorem ok_yes {Q : Bool → Ev → Prop} : Ok mYes e Q ↔ Q true e := Iff.rfl
theorem ok_sl {a : M RV} {lo hi : M (Option Int)} {Q : RV → Ev → Prop} : Ok (mSl a lo hi) e Q ↔ Ok a e fun r e1 => Ok lo e1 fun l e2 => Ok hi e2 fun u e3 => Ok (M.rd r) e3 fun v e4 => Ok (slV v l u) e4 Q := by
  unfold mSl; simp only [ok_bind]
theorem ok_noP {Q : Option Int → Ev → Prop} : Ok mNoP e Q ↔ Q none e := Iff.rfl
theorem ok_pt {a : M RV} {Q : Option Int → Ev → Prop} : Ok (mPt a) e Q ↔ Ok a e fun r e1 => Ok (M.rd r) e1 fun v e2 => match v with
    | .int i => Q (some i) e2
    | _ => False := by
  unfold mPt; simp only [ok_bind]
  apply iff_of_eq; congr 1; funext r e1; congr 1; funext v e2
  cases v <;> rfl
theorem ok_slL {xs : List Val} {l u : Option Int} {Q : RV → Ev → Prop} : Ok (slV (.lst xs) l u) e Q ↔ Q (.tmp (.lst (cutA xs l u))) e := Iff.rfl
theorem ok_slT {xs : List Val} {l u : Option Int} {Q : RV → Ev → Prop} : Ok (slV (.tup xs) l u) e Q ↔ Q (.dat (.tup (cutA xs l u))) e := Iff.rfl
theorem ok_rep {a b : M RV} {Q : RV → Ev → Prop} : Ok (mRep a b) e Q ↔ Ok a e fun r e1 => Ok b e1 fun s e2 => Ok (M.rd s) e2 fun k e3 => match r, k with
    | .tmp (.lst xs), .int n => (-9223372036854775808 ≤ n ∧ n < 9223372036854775808 ∧ xs.length * n.toNat ≤ sizeLine) ∧ Q (.tmp (.lst (List.replicate n.toNat xs).flatten)) e3
    | _, _ => False := by
  unfold mRep; simp only [ok_bind]
  apply iff_of_eq; congr 1; funext r e1; congr 1; funext s e2; congr 1; funext k e3
  cases r with
  | tmp v => cases v with
    | lst xs => cases k with
      | int n =>
        apply propext
        dsimp only
        by_cases h : -9223372036854775808 ≤ n ∧ n < 9223372036854775808 ∧ xs.length * n.toNat ≤ sizeLine
        · rw [if_pos h]; exact ⟨fun z => ⟨h, z⟩, fun z => z.2⟩
        · rw [if_neg h]; exact ⟨fun z => z.elim, fun z => h z.1⟩
      | _ => rfl
    | _ => cases k <;> rfl
  | _ => cases k <;> rfl
theorem ok_app {mo ma : M RV} {Q : RV → Ev → Prop} : Ok (mApp mo ma) e Q ↔ Ok mo e fun r e1 => Ok (M.rd r) e1 fun v0 e2 => match r, v0 with
    | .bor i, .lst _ => Ok ma e2 fun s e3 => Ok (M.dt s) e3 fun v e4 => (match e4[i]? with
      | some (.own (.lst xs)) => xs.length < sizeLine ∧ Q (.dat .non) (e4.set i (.own (.lst (xs ++ [v]))))
      | _ => False)
    | _, _ => False := by
  unfold mApp; simp only [ok_bind]
  apply iff_of_eq; congr 1; funext r e1; congr 1; funext v0 e2
  cases r with
  | bor i => cases v0 with
    | lst xs0 =>
      apply propext
      dsimp only
      simp only [ok_bind]
      apply iff_of_eq; congr 1; funext s e3; congr 1; funext v e4
      apply propext
      unfold Ok
      dsimp only
      cases e4[i]? with
      | none => exact Iff.rfl
      | some sl => cases sl with
        | own w => cases w with
          | lst xs =>
            dsimp only
            by_cases h : xs.length < sizeLine <;> simp [h]
          | _ => exact Iff.rfl
        | _ => exact Iff.rfl
    | _ => rfl
  | _ => cases v0 <;> rfl
end Pu.O
namespace Pu
open PySem PySem.Spec PyProof.Rows L2
section
variable {α β : Type} {m : M α} {e : Ev} {Q Q' : α → Ev → Prop} {R : β → Ev → Prop}
theorem ok_ex : Ok m e Q ↔ ∃ a e', m e = .ok a e' ∧ Q a e' := O.ok_ex
theorem ok_bind {f : α → M β} : Ok (m.bind f) e R ↔ Ok m e fun a e' => Ok (f a) e' R := O.ok_bind
theorem ok_bad : Ok M.bad e Q ↔ False := O.ok_bad
theorem ok_ite {c : Prop} [Decidable c] {a b : M α} : Ok (if c then a else b) e Q ↔ (c → Ok a e Q) ∧ (¬c → Ok b e Q) := O.ok_ite
end
variable {e : Ev}
theorem ok_mV {v : Val} {Q : RV → Ev → Prop} : Ok (mV v) e Q ↔ Q (.dat v) e := O.ok_mV
theorem ok_rdD {v : Val} {Q : Val → Ev → Prop} : Ok (M.rd (.dat v)) e Q ↔ Q v e := O.ok_rdD
theorem ok_rdT {v : Val} {Q : Val → Ev → Prop} : Ok (M.rd (.tmp v)) e Q ↔ Q v e := O.ok_rdT
theorem ok_dtD {v : Val} {Q : Val → Ev → Prop} : Ok (M.dt (.dat v)) e Q ↔ Q v e := O.ok_dtD
theorem ok_dtT {v : Val} {Q : Val → Ev → Prop} : Ok (M.dt (.tmp v)) e Q ↔ Q v e := O.ok_dtT
theorem ok_rds0 {Q : List Val → Ev → Prop} : Ok (M.rds []) e Q ↔ Q [] e := O.ok_rds0
theorem ok_rdsC {r : RV} {rs : List RV} {Q : List Val → Ev → Prop} : Ok (M.rds (r :: rs)) e Q ↔ Ok (M.rd r) e fun v e1 => Ok (M.rds rs) e1 fun vs e2 => Q (v :: vs) e2 := O.ok_rdsC
theorem ok_dts0 {Q : List Val → Ev → Prop} : Ok (M.dts []) e Q ↔ Q [] e := O.ok_dts0
theorem ok_dtsC {r : RV} {rs : List RV} {Q : List Val → Ev → Prop} : Ok (M.dts (r :: rs)) e Q ↔ Ok (M.dt r) e fun v e1 => Ok (M.dts rs) e1 fun vs e2 => Q (v :: vs) e2 := O.ok_dtsC
theorem ok_nil {Q : List RV → Ev → Prop} : Ok mNil e Q ↔ Q [] e := O.ok_nil
theorem ok_cons {a : M RV} {r : M (List RV)} {Q : List RV → Ev → Prop} : Ok (mCons a r) e Q ↔ Ok a e fun x e1 => Ok r e1 fun xs e2 => Q (x :: xs) e2 := O.ok_cons
theorem ok_bin {f : Val → Val → M RV} {a b : M RV} {Q : RV → Ev → Prop} : Ok (mBin f a b) e Q ↔ Ok a e fun r e1 => Ok b e1 fun s e2 => Ok (M.rd r) e2 fun v e3 => Ok (M.rd s) e3 fun w e4 => Ok (f v w) e4 Q := O.ok_bin
theorem ok_cb {f : List Val → M RV} {ms : M (List RV)} {Q : RV → Ev → Prop} : Ok (mCB f ms) e Q ↔ Ok ms e fun rs e1 => Ok (M.rds rs) e1 fun vs e2 => Ok (f vs) e2 Q := O.ok_cb
theorem ok_tup {r : M (List RV)} {Q : RV → Ev → Prop} : Ok (mTup r) e Q ↔ Ok r e fun rs e1 => Ok (M.dts rs) e1 fun vs e2 => vs.length ≤ sizeLine ∧ Q (.dat (.tup vs)) e2 := O.ok_tup
theorem ok_lst {r : M (List RV)} {Q : RV → Ev → Prop} : Ok (mLst r) e Q ↔ Ok r e fun rs e1 => Ok (M.dts rs) e1 fun vs e2 => vs.length ≤ sizeLine ∧ Q (.tmp (.lst vs)) e2 := O.ok_lst
theorem ok_tru {m : M RV} {Q : Bool → Ev → Prop} : Ok (mTru m) e Q ↔ Ok m e fun r e1 => Ok (M.rd r) e1 fun v e2 => Ok (truV v) e2 Q := O.ok_tru
theorem ok_truB {b : Bool} {Q : Bool → Ev → Prop} : Ok (truV (.bl b)) e Q ↔ Q b e := O.ok_truB
theorem ok_truI {i : Int} {Q : Bool → Ev → Prop} : Ok (truV (.int i)) e Q ↔ Q (i != 0) e := O.ok_truI
theorem ok_truN {Q : Bool → Ev → Prop} : Ok (truV .non) e Q ↔ Q false e := O.ok_truN
theorem ok_truL {xs : List Val} {Q : Bool → Ev → Prop} : Ok (truV (.lst xs)) e Q ↔ Q (!xs.isEmpty) e := O.ok_truL
theorem ok_truT {xs : List Val} {Q : Bool → Ev → Prop} : Ok (truV (.tup xs)) e Q ↔ Q (!xs.isEmpty) e := O.ok_truT
theorem ok_and {a b : M Bool} {Q : Bool → Ev → Prop} : Ok (mAnd a b) e Q ↔ Ok a e fun c e1 => (c = true → Ok b e1 Q) ∧ (¬ c = true → Q false e1) := O.ok_and
theorem ok_or {a b : M Bool} {Q : Bool → Ev → Prop} : Ok (mOr a b) e Q ↔ Ok a e fun c e1 => (c = true → Q true e1) ∧ (¬ c = true → Ok b e1 Q) := O.ok_or
theorem ok_not {a : M Bool} {Q : Bool → Ev → Prop} : Ok (mNot a) e Q ↔ Ok a e fun c e1 => Q (!c) e1 := O.ok_not
theorem ok_ifE {c : M Bool} {a b : M RV} {Q : RV → Ev → Prop} : Ok (mIfE c a b) e Q ↔ Ok c e fun k e1 => (k = true → Ok a e1 Q) ∧ (¬ k = true → Ok b e1 Q) := O.ok_ifE
theorem ok_andV {a b : M RV} {Q : RV → Ev → Prop} : Ok (mAndV a b) e Q ↔ Ok a e fun r e1 => Ok (M.rd r) e1 fun v e2 => match v with
    | .bl c => (c = true → Ok b e2 Q) ∧ (¬ c = true → Q (.dat (.bl false)) e2)
    | _ => False := O.ok_andV
theorem ok_orV {a b : M RV} {Q : RV → Ev → Prop} : Ok (mOrV a b) e Q ↔ Ok a e fun r e1 => Ok (M.rd r) e1 fun v e2 => match v with
    | .bl c => (c = true → Q (.dat (.bl true)) e2) ∧ (¬ c = true → Ok b e2 Q)
    | _ => False := O.ok_orV
theorem ok_notV {a : M RV} {Q : RV → Ev → Prop} : Ok (mNotV a) e Q ↔ Ok a e fun r e1 => Ok (M.rd r) e1 fun v e2 => match v with
    | .bl c => Q (.dat (.bl (!c))) e2
    | _ => False := O.ok_notV
theorem ok_neg {a : M RV} {Q : RV → Ev → Prop} : Ok (mNeg a) e Q ↔ Ok a e fun r e1 => Ok (M.rd r) e1 fun v e2 => match v with
    | .int i => Q (.dat (.int (-i))) e2
    | _ => False := O.ok_neg
theorem ok_chain {f g : Val → Val → M RV} {a b c : M RV} {Q : RV → Ev → Prop} : Ok (mChain f g a b c) e Q ↔ Ok a e fun r e1 => Ok b e1 fun s e2 => Ok (M.rd r) e2 fun v e3 => Ok (M.rd s) e3 fun w e4 => Ok (f v w) e4 fun z e5 => Ok (M.rd z) e5 fun k e6 => match k with
    | .bl k => (k = true → Ok c e6 fun t e7 => Ok (M.rd s) e7 fun w' e8 => Ok (M.rd t) e8 fun x e9 => Ok (g w' x) e9 Q) ∧ (¬ k = true → Q (.dat (.bl false)) e6)
    | _ => False := O.ok_chain
theorem ok_seq {a b : S} {Q : Out → Ev → Prop} : Ok (mSeq a b) e Q ↔ Ok a e fun o e1 => match o with
    | .nx => Ok b e1 Q
    | .bk => Q .bk e1
    | .ct => Q .ct e1
    | .rt r => Q (.rt r) e1 := O.ok_seq
theorem ok_skip {Q : Out → Ev → Prop} : Ok mSkip e Q ↔ Q .nx e := O.ok_skip
theorem ok_retS {m : M RV} {Q : Out → Ev → Prop} : Ok (mRet m) e Q ↔ Ok m e fun r e1 => Q (.rt r) e1 := O.ok_retS
theorem ok_retN {Q : Out → Ev → Prop} : Ok mRetN e Q ↔ Q (.rt (.dat .non)) e := O.ok_retN
theorem ok_bk {Q : Out → Ev → Prop} : Ok mBk e Q ↔ Q .bk e := O.ok_bk
theorem ok_ct {Q : Out → Ev → Prop} : Ok mCt e Q ↔ Q .ct e := O.ok_ct
theorem ok_ex1 {m : M RV} {Q : Out → Ev → Prop} : Ok (mEx m) e Q ↔ Ok m e fun _ e1 => Q .nx e1 := O.ok_ex1
theorem ok_if {c : M Bool} {a b : S} {Q : Out → Ev → Prop} : Ok (mIf c a b) e Q ↔ Ok c e fun k e1 => (k = true → Ok a e1 Q) ∧ (¬ k = true → Ok b e1 Q) := O.ok_if
theorem ok_set {i : Nat} {m : M RV} {Q : Out → Ev → Prop} : Ok (mSet i m) e Q ↔ Ok m e fun r e1 => match r with
    | .dat v => Q .nx (e1.set i (.dat v))
    | .tmp v => Q .nx (e1.set i (.own v))
    | .bor j => Ok (M.dt (.bor j)) e1 fun v e2 => Q .nx (e2.set i (.dat v)) := O.ok_set
theorem ok_setP {i : Nat} {m : M RV} {Q : Out → Ev → Prop} : Ok (mSetP i m) e Q ↔ Ok m e fun r e1 => Ok (M.dt r) e1 fun v e2 => Q .nx (e2.set i (.dat v)) := O.ok_setP
theorem ok_asg {mg : Val → M Unit} {m : M RV} {Q : Out → Ev → Prop} : Ok (mAsg mg m) e Q ↔ Ok m e fun r e1 => Ok (M.dt r) e1 fun v e2 => Ok (mg v) e2 fun _ e3 => Q .nx e3 := O.ok_asg
theorem ok_gN {i : Nat} {v : Val} {Q : Unit → Ev → Prop} : Ok (gN i v) e Q ↔ Q () (e.set i (.dat v)) := O.ok_gN
theorem ok_gsN {Q : Unit → Ev → Prop} : Ok (gsN []) e Q ↔ Q () e := O.ok_gsN
theorem ok_gsC {m : Val → M Unit} {ms : List Val → M Unit} {v : Val} {vs : List Val} {Q : Unit → Ev → Prop} : Ok (gsC m ms (v :: vs)) e Q ↔ Ok (m v) e fun _ e1 => Ok (ms vs) e1 Q := O.ok_gsC
theorem ok_gT {n : Nat} {ms : List Val → M Unit} {xs : List Val} {Q : Unit → Ev → Prop} : Ok (gT n ms (.tup xs)) e Q ↔ xs.length = n ∧ Ok (ms xs) e Q := O.ok_gT
theorem ok_gSb {mo mi : M RV} {v : Val} {Q : Unit → Ev → Prop} : Ok (gSb mo mi v) e Q ↔ Ok mo e fun r e1 => Ok mi e1 fun s e2 => Ok (M.rd s) e2 fun k e3 => match r, k with
    | .bor j, .int k => (match e3[j]? with
      | some (.own (.lst xs)) => (match ixN xs.length k with
        | some n => Q () (e3.set j (.own (.lst (xs.set n v))))
        | none => False)
      | _ => False)
    | _, _ => False := O.ok_gSb
theorem ok_par {p : Bool} {is : List Nat} {as : M (List RV)} {Q : Out → Ev → Prop} : Ok (mPar p is as) e Q ↔ Ok as e fun rs e1 => rs.length = is.length ∧ ((noBor rs = true ∧ p = false → Q .nx (setsE is rs e1)) ∧ (¬ (noBor rs = true ∧ p = false) → Ok (M.dts rs) e1 fun vs e2 => Q .nx (setsE is (vs.map .dat) e2))) := O.ok_par
theorem ok_put {C f : Str} {mo mv : M RV} {Q : Out → Ev → Prop} : Ok (mPut C f mo mv) e Q ↔ Ok mv e fun r0 e1 => Ok (M.dt r0) e1 fun v e2 => Ok mo e2 fun r e3 => match r with
    | .bor i => (match e3[i]? with
      | some (.own (.obj C' fs vs)) => C' = C ∧ fs.length < 1000 ∧ Q .nx (e3.set i (.own (.obj C (putFs f fs) (putVs f v fs vs))))
      | _ => False)
    | _ => False := O.ok_put
theorem ok_get {C f : Str} {mo : M RV} {Q : RV → Ev → Prop} : Ok (mGet C f mo) e Q ↔ Ok mo e fun r e1 => Ok (M.rd r) e1 fun v e2 => match v with
    | .obj C' fs vs => C' = C ∧ (match lookV f fs vs with
      | some w => Q (.dat w) e2
      | none => False)
    | _ => False := O.ok_get
theorem ok_run {ms : List Bool} {f : M RV} {rs : List RV} {Q : RV → Ev → Prop} : Ok (runF ms f rs) e Q ↔ match argsE ms rs e with
    | some (p, e1) => Ok f p fun r p' => match r with
      | .dat v => Q (.dat v) (backE ms rs p' e1)
      | .tmp v => Q (.tmp v) (backE ms rs p' e1)
      | .bor _ => False
    | none => False := O.ok_run
theorem ok_call {ms : List Bool} {f : M RV} {as : M (List RV)} {Q : RV → Ev → Prop} : Ok (mCall ms f as []) e Q ↔ Ok as e fun rs e1 => Ok (runF ms f rs) e1 Q := O.ok_call
theorem ok_callK {ms : List Bool} {f : M RV} {as ks : M (List RV)} {n m : Nat} {g : List Nat} {Q : RV → Ev → Prop} : Ok (mCallK ms f as ks n m g) e Q ↔ Ok as e fun rs e1 => Ok ks e1 fun zs e2 => (rs.length = n ∧ zs.length = m) ∧ Ok (runF ms f (sel g (rs ++ zs))) e2 Q := O.ok_callK
theorem ok_make {C : Str} {ms : List Bool} {f : M RV} {as : M (List RV)} {Q : RV → Ev → Prop} : Ok (mMake C ms f as []) e Q ↔ Ok as e fun rs e1 => match argsE (true :: ms) (.tmp (.obj C [] []) :: rs) e1 with
    | some (p, e2) => Ok f p fun r p' => match r with
      | .dat .non => (match p'[0]? with
        | some (Slot.own v) => Q (.tmp v) (backE (true :: ms) (.tmp (.obj C [] []) :: rs) p' e2)
        | _ => False)
      | _ => False
    | none => False := O.ok_make
theorem ok_prop {C : Str} {f mo : M RV} {Q : RV → Ev → Prop} : Ok (mProp C f mo) e Q ↔ Ok mo e fun r e1 => Ok (M.rd r) e1 fun v e2 => match v with
    | .obj C' _ _ => C' = C ∧ Ok (runF [true] f [r]) e2 Q
    | _ => False := O.ok_prop
theorem ok_den {n nn : Nat} {b : S} {Q : RV → Ev → Prop} (h : e.length = n) : Ok (fnDen n nn b) e Q ↔ Ok b (e ++ List.replicate (nn - n) Slot.un) fun o e' => match o with
    | .nx => Q (.dat .non) (outE (e'.take n))
    | .rt (.dat v) => Q (.dat v) (outE (e'.take n))
    | .rt (.tmp v) => Q (.tmp v) (outE (e'.take n))
    | .rt (.bor i) => (match e'[i]? with
      | some (.own v) => Q (.tmp v) (outE ((e'.set i .un).take n))
      | some (.dat v) => Q (.dat v) (outE (e'.take n))
      | _ => False)
    | _ => False := O.ok_den h
theorem ok_for {mi : M (List Val)} {mt : Val → M Unit} {mb : S} {Q : Out → Ev → Prop} : Ok (mFor mi mt mb) e Q ↔ Ok mi e fun vs e1 => Ok (loopS mt mb vs) e1 Q := O.ok_for
theorem ok_loop0 {mt : Val → M Unit} {mb : S} {Q : Out → Ev → Prop} : Ok (loopS mt mb []) e Q ↔ Q .nx e := O.ok_loop0
theorem ok_loopC {mt : Val → M Unit} {mb : S} {v : Val} {vs : List Val} {Q : Out → Ev → Prop} : Ok (loopS mt mb (v :: vs)) e Q ↔ Ok (mt v) e fun _ e1 => Ok mb e1 fun o e2 => match o with
    | .nx => Ok (loopS mt mb vs) e2 Q
    | .ct => Ok (loopS mt mb vs) e2 Q
    | .bk => Q .nx e2
    | .rt r => Q (.rt r) e2 := O.ok_loopC
theorem Ok.loop {mt : Val → M Unit} {mb : S} (P : Nat → Ev → Prop) : ∀ {vs : List Val} {e : Ev} {i : Nat}, P i e → (∀ (j : Nat) (v : Val) (e : Ev), vs[j]? = some v → P (i + j) e → Ok (mt v) e fun _ e1 => Ok mb e1 fun o e2 => (o = .nx ∨ o = .ct) ∧ P (i + j + 1) e2) →
    Ok (loopS mt mb vs) e fun o e' => o = .nx ∧ P (i + vs.length) e' := O.Ok.loop P
theorem ok_items {m : M RV} {Q : List Val → Ev → Prop} : Ok (mItems m) e Q ↔ Ok m e fun r e1 => Ok (M.dt r) e1 fun v e2 => match v with
    | .lst xs => Q xs e2
    | .tup xs => Q xs e2
    | _ => False := O.ok_items
theorem ok_rng1 {m : M RV} {Q : List Val → Ev → Prop} : Ok (mRng1 m) e Q ↔ Ok m e fun r e1 => Ok (M.rd r) e1 fun v e2 => match v with
    | .int j => (-4611686018427387904 ≤ j ∧ j < 4611686018427387904) ∧ Q (rangeV 0 j) e2
    | _ => False := O.ok_rng1
theorem ok_rng2 {a b : M RV} {Q : List Val → Ev → Prop} : Ok (mRng2 a b) e Q ↔ Ok a e fun r e1 => Ok b e1 fun s e2 => Ok (M.rd r) e2 fun v e3 => Ok (M.rd s) e3 fun w e4 => match v, w with
    | .int i, .int j => (-4611686018427387904 ≤ i ∧ i < 4611686018427387904 ∧ -4611686018427387904 ≤ j ∧ j < 4611686018427387904) ∧ Q (rangeV i j) e4
    | _, _ => False := O.ok_rng2
theorem ok_comp {ws : List Nat} {mi : M (List Val)} {mt : Val → M Unit} {mc : M Bool} {me : M RV} {Q : RV → Ev → Prop} : Ok (mComp ws mi mt mc me) e Q ↔ Ok mi e fun vs e1 => Ok (compS ws mt mc me vs []) (wipeE e1 ws) fun acc e2 => Q (.tmp (.lst acc)) e2 := O.ok_comp
theorem ok_yes {Q : Bool → Ev → Prop} : Ok mYes e Q ↔ Q true e := O.ok_yes
theorem ok_sl {a : M RV} {lo hi : M (Option Int)} {Q : RV → Ev → Prop} : Ok (mSl a lo hi) e Q ↔ Ok a e fun r e1 => Ok lo e1 fun l e2 => Ok hi e2 fun u e3 => Ok (M.rd r) e3 fun v e4 => Ok (slV v l u) e4 Q := O.ok_sl
theorem ok_noP {Q : Option Int → Ev → Prop} : Ok mNoP e Q ↔ Q none e := O.ok_noP
theorem ok_pt {a : M RV} {Q : Option Int → Ev → Prop} : Ok (mPt a) e Q ↔ Ok a e fun r e1 => Ok (M.rd r) e1 fun v e2 => match v with
    | .int i => Q (some i) e2
    | _ => False := O.ok_pt
theorem ok_slL {xs : List Val} {l u : Option Int} {Q : RV → Ev → Prop} : Ok (slV (.lst xs) l u) e Q ↔ Q (.tmp (.lst (cutA xs l u))) e := O.ok_slL
theorem ok_slT {xs : List Val} {l u : Option Int} {Q : RV → Ev → Prop} : Ok (slV (.tup xs) l u) e Q ↔ Q (.dat (.tup (cutA xs l u))) e := O.ok_slT
theorem ok_rep {a b : M RV} {Q : RV → Ev → Prop} : Ok (mRep a b) e Q ↔ Ok a e fun r e1 => Ok b e1 fun s e2 => Ok (M.rd s) e2 fun k e3 => match r, k with
    | .tmp (.lst xs), .int n => (-9223372036854775808 ≤ n ∧ n < 9223372036854775808 ∧ xs.length * n.toNat ≤ sizeLine) ∧ Q (.tmp (.lst (List.replicate n.toNat xs).flatten)) e3
    | _, _ => False := O.ok_rep
theorem ok_app {mo ma : M RV} {Q : RV → Ev → Prop} : Ok (mApp mo ma) e Q ↔ Ok mo e fun r e1 => Ok (M.rd r) e1 fun v0 e2 => match r, v0 with
    | .bor i, .lst _ => Ok ma e2 fun s e3 => Ok (M.dt s) e3 fun v e4 => (match e4[i]? with
      | some (.own (.lst xs)) => xs.length < sizeLine ∧ Q (.dat .non) (e4.set i (.own (.lst (xs ++ [v]))))
      | _ => False)
    | _, _ => False := O.ok_app
end Pu
set_option Elab.async false
set_option linter.all false
set_option maxRecDepth 100000
namespace Pu
open PySem PySem.Spec PyProof.Rows L2
variable {e : Ev} {Q : RV → Ev → Prop}
theorem ok_ic {c : Int → Int → Prop} [∀ i j, Decidable (c i j)] {g : Int → Int → Val} {i j : Int} : Ok (oIC c g (.int i) (.int j)) e Q ↔ c i j ∧ Q (.dat (g i j)) e := by
  unfold oIC
  dsimp only
  by_cases h : c i j
  · rw [if_pos h]; exact ⟨fun z => ⟨h, z⟩, fun z => z.2⟩
  · rw [if_neg h]; exact ⟨fun z => z.elim, fun z => h z.1⟩
theorem ok_oSub {i j : Int} : Ok (oSub (.int i) (.int j)) e Q ↔ Q (.dat (.int (i - j))) e := Iff.rfl
theorem ok_oMul {i j : Int} : Ok (oMul (.int i) (.int j)) e Q ↔ cMul i j ∧ Q (.dat (.int (i * j))) e := ok_ic
theorem ok_oDiv {i j : Int} : Ok (oDiv (.int i) (.int j)) e Q ↔ cDiv i j ∧ Q (.dat (.int (i / j))) e := ok_ic
theorem ok_oMod {i j : Int} : Ok (oMod (.int i) (.int j)) e Q ↔ cMod i j ∧ Q (.dat (.int (i % j))) e := ok_ic
theorem ok_oPow {i j : Int} : Ok (oPow (.int i) (.int j)) e Q ↔ cPow i j ∧ Q (.dat (.int (i ^ j.toNat))) e := ok_ic
theorem ok_oLt {i j : Int} : Ok (oLt (.int i) (.int j)) e Q ↔ Q (.dat (.bl (decide (i < j)))) e := Iff.rfl
theorem ok_oLe {i j : Int} : Ok (oLe (.int i) (.int j)) e Q ↔ Q (.dat (.bl (decide (i ≤ j)))) e := Iff.rfl
theorem ok_oGt {i j : Int} : Ok (oGt (.int i) (.int j)) e Q ↔ Q (.dat (.bl (decide (j < i)))) e := Iff.rfl
theorem ok_oGe {i j : Int} : Ok (oGe (.int i) (.int j)) e Q ↔ Q (.dat (.bl (decide (j ≤ i)))) e := Iff.rfl
theorem ok_oAdd {i j : Int} : Ok (oAdd (.int i) (.int j)) e Q ↔ Q (.dat (.int (i + j))) e := Iff.rfl
theorem ok_oAddL {a b : List Val} : Ok (oAdd (.lst a) (.lst b)) e Q ↔ a.length + b.length ≤ sizeLine ∧ Q (.tmp (.lst (a ++ b))) e := by
  show Ok (if _ then _ else _) e Q ↔ _
  by_cases h : a.length + b.length ≤ sizeLine
  · rw [if_pos h]; exact ⟨fun z => ⟨h, z⟩, fun z => z.2⟩
  · rw [if_neg h]; exact ⟨fun z => z.elim, fun z => h z.1⟩
theorem ok_oAddT {a b : List Val} : Ok (oAdd (.tup a) (.tup b)) e Q ↔ a.length + b.length ≤ sizeLine ∧ Q (.dat (.tup (a ++ b))) e := by
  show Ok (if _ then _ else _) e Q ↔ _
  by_cases h : a.length + b.length ≤ sizeLine
  · rw [if_pos h]; exact ⟨fun z => ⟨h, z⟩, fun z => z.2⟩
  · rw [if_neg h]; exact ⟨fun z => z.elim, fun z => h z.1⟩
theorem ok_oAddI {i j : Int} : Ok (oAddI (.int i) (.int j)) e Q ↔ Q (.dat (.int (i + j))) e := Iff.rfl
theorem ok_oEqI {i j : Int} : Ok (oEq (.int i) (.int j)) e Q ↔ (dOk (.int i) = true ∧ dOk (.int j) = true) ∧ Q (.dat (.bl (veq (.int i) (.int j)))) e := by
  show Ok (if (dOk (.int i) && dOk (.int j)) = true then mV (.bl (veq (.int i) (.int j))) else M.bad) e Q ↔ _
  by_cases h : (dOk (.int i) && dOk (.int j)) = true
  · rw [if_pos h]; rw [Bool.and_eq_true] at h; exact ⟨fun z => ⟨h, z⟩, fun z => z.2⟩
  · rw [if_neg h]; rw [Bool.and_eq_true] at h; exact ⟨fun z => z.elim, fun z => h z.1⟩
theorem ok_oEqL {xs ys : List Val} : Ok (oEq (.lst xs) (.lst ys)) e Q ↔ (dOk (.lst xs) = true ∧ dOk (.lst ys) = true) ∧ Q (.dat (.bl (veq (.lst xs) (.lst ys)))) e := by
  show Ok (if (dOk (.lst xs) && dOk (.lst ys)) = true then mV (.bl (veq (.lst xs) (.lst ys))) else M.bad) e Q ↔ _
  by_cases h : (dOk (.lst xs) && dOk (.lst ys)) = true
  · rw [if_pos h]; rw [Bool.and_eq_true] at h; exact ⟨fun z => ⟨h, z⟩, fun z => z.2⟩
  · rw [if_neg h]; rw [Bool.and_eq_true] at h; exact ⟨fun z => z.elim, fun z => h z.1⟩
theorem ok_oEqT {xs ys : List Val} : Ok (oEq (.tup xs) (.tup ys)) e Q ↔ (dOk (.tup xs) = true ∧ dOk (.tup ys) = true) ∧ Q (.dat (.bl (veq (.tup xs) (.tup ys)))) e := by
  show Ok (if (dOk (.tup xs) && dOk (.tup ys)) = true then mV (.bl (veq (.tup xs) (.tup ys))) else M.bad) e Q ↔ _
  by_cases h : (dOk (.tup xs) && dOk (.tup ys)) = true
  · rw [if_pos h]; rw [Bool.and_eq_true] at h; exact ⟨fun z => ⟨h, z⟩, fun z => z.2⟩
  · rw [if_neg h]; rw [Bool.and_eq_true] at h; exact ⟨fun z => z.elim, fun z => h z.1⟩
theorem ok_oEqB {i j : Bool} : Ok (oEq (.bl i) (.bl j)) e Q ↔ (dOk (.bl i) = true ∧ dOk (.bl j) = true) ∧ Q (.dat (.bl (veq (.bl i) (.bl j)))) e := by
  show Ok (if (dOk (.bl i) && dOk (.bl j)) = true then mV (.bl (veq (.bl i) (.bl j))) else M.bad) e Q ↔ _
  by_cases h : (dOk (.bl i) && dOk (.bl j)) = true
  · rw [if_pos h]; rw [Bool.and_eq_true] at h; exact ⟨fun z => ⟨h, z⟩, fun z => z.2⟩
  · rw [if_neg h]; rw [Bool.and_eq_true] at h; exact ⟨fun z => z.elim, fun z => h z.1⟩
theorem ok_oEqN {i : Int} : Ok (oEq (.int i) (.non)) e Q ↔ (dOk (.int i) = true ∧ dOk (.non) = true) ∧ Q (.dat (.bl (veq (.int i) (.non)))) e := by
  show Ok (if (dOk (.int i) && dOk (.non)) = true then mV (.bl (veq (.int i) (.non))) else M.bad) e Q ↔ _
  by_cases h : (dOk (.int i) && dOk (.non)) = true
  · rw [if_pos h]; rw [Bool.and_eq_true] at h; exact ⟨fun z => ⟨h, z⟩, fun z => z.2⟩
  · rw [if_neg h]; rw [Bool.and_eq_true] at h; exact ⟨fun z => z.elim, fun z => h z.1⟩
theorem ok_oEqS {a b : Str} : Ok (oEq (.str a) (.str b)) e Q ↔ Q (.dat (.bl (decide (a = b)))) e := Iff.rfl
theorem ok_oNeI {i j : Int} : Ok (oNe (.int i) (.int j)) e Q ↔ (dOk (.int i) = true ∧ dOk (.int j) = true) ∧ Q (.dat (.bl (!veq (.int i) (.int j)))) e := by
  show Ok (if (dOk (.int i) && dOk (.int j)) = true then mV (.bl (!veq (.int i) (.int j))) else M.bad) e Q ↔ _
  by_cases h : (dOk (.int i) && dOk (.int j)) = true
  · rw [if_pos h]; rw [Bool.and_eq_true] at h; exact ⟨fun z => ⟨h, z⟩, fun z => z.2⟩
  · rw [if_neg h]; rw [Bool.and_eq_true] at h; exact ⟨fun z => z.elim, fun z => h z.1⟩
theorem ok_oNeL {xs ys : List Val} : Ok (oNe (.lst xs) (.lst ys)) e Q ↔ (dOk (.lst xs) = true ∧ dOk (.lst ys) = true) ∧ Q (.dat (.bl (!veq (.lst xs) (.lst ys)))) e := by
  show Ok (if (dOk (.lst xs) && dOk (.lst ys)) = true then mV (.bl (!veq (.lst xs) (.lst ys))) else M.bad) e Q ↔ _
  by_cases h : (dOk (.lst xs) && dOk (.lst ys)) = true
  · rw [if_pos h]; rw [Bool.and_eq_true] at h; exact ⟨fun z => ⟨h, z⟩, fun z => z.2⟩
  · rw [if_neg h]; rw [Bool.and_eq_true] at h; exact ⟨fun z => z.elim, fun z => h z.1⟩
theorem ok_oNeT {xs ys : List Val} : Ok (oNe (.tup xs) (.tup ys)) e Q ↔ (dOk (.tup xs) = true ∧ dOk (.tup ys) = true) ∧ Q (.dat (.bl (!veq (.tup xs) (.tup ys)))) e := by
  show Ok (if (dOk (.tup xs) && dOk (.tup ys)) = true then mV (.bl (!veq (.tup xs) (.tup ys))) else M.bad) e Q ↔ _
  by_cases h : (dOk (.tup xs) && dOk (.tup ys)) = true
  · rw [if_pos h]; rw [Bool.and_eq_true] at h; exact ⟨fun z => ⟨h, z⟩, fun z => z.2⟩
  · rw [if_neg h]; rw [Bool.and_eq_true] at h; exact ⟨fun z => z.elim, fun z => h z.1⟩
theorem ok_oNeB {i j : Bool} : Ok (oNe (.bl i) (.bl j)) e Q ↔ (dOk (.bl i) = true ∧ dOk (.bl j) = true) ∧ Q (.dat (.bl (!veq (.bl i) (.bl j)))) e := by
  show Ok (if (dOk (.bl i) && dOk (.bl j)) = true then mV (.bl (!veq (.bl i) (.bl j))) else M.bad) e Q ↔ _
  by_cases h : (dOk (.bl i) && dOk (.bl j)) = true
  · rw [if_pos h]; rw [Bool.and_eq_true] at h; exact ⟨fun z => ⟨h, z⟩, fun z => z.2⟩
  · rw [if_neg h]; rw [Bool.and_eq_true] at h; exact ⟨fun z => z.elim, fun z => h z.1⟩
theorem ok_oNeN {i : Int} : Ok (oNe (.int i) (.non)) e Q ↔ (dOk (.int i) = true ∧ dOk (.non) = true) ∧ Q (.dat (.bl (!veq (.int i) (.non)))) e := by
  show Ok (if (dOk (.int i) && dOk (.non)) = true then mV (.bl (!veq (.int i) (.non))) else M.bad) e Q ↔ _
  by_cases h : (dOk (.int i) && dOk (.non)) = true
  · rw [if_pos h]; rw [Bool.and_eq_true] at h; exact ⟨fun z => ⟨h, z⟩, fun z => z.2⟩
  · rw [if_neg h]; rw [Bool.and_eq_true] at h; exact ⟨fun z => z.elim, fun z => h z.1⟩
theorem ok_oNeS {a b : Str} : Ok (oNe (.str a) (.str b)) e Q ↔ Q (.dat (.bl (!decide (a = b)))) e := Iff.rfl
theorem ok_oIs {x : Val} : Ok (oIs x .non) e Q ↔ Q (.dat (.bl (isNon x))) e := Iff.rfl
theorem ok_oIsN {x : Val} : Ok (oIsN x .non) e Q ↔ Q (.dat (.bl (!isNon x))) e := Iff.rfl
theorem ok_ixL {xs : List Val} {i : Int} : Ok (oIx (.lst xs) (.int i)) e Q ↔ ∃ v, atI xs i = some v ∧ Q (.dat v) e := by
  show Ok (match atI xs i with
    | some v => mV v
    | none => M.bad) e Q ↔ _
  cases atI xs i with
  | none => simp [ok_bad]
  | some v => simp [ok_mV]
theorem ok_ixT {xs : List Val} {i : Int} : Ok (oIx (.tup xs) (.int i)) e Q ↔ ∃ v, atI xs i = some v ∧ Q (.dat v) e := by
  show Ok (match atI xs i with
    | some v => mV v
    | none => M.bad) e Q ↔ _
  cases atI xs i with
  | none => simp [ok_bad]
  | some v => simp [ok_mV]
theorem atI_lit {α : Type} {xs : List α} (k : Nat) {a : α} (h : xs[k]? = some a) : atI xs (k : Int) = some a := by
  have hl : k < xs.length := (List.getElem?_eq_some_iff.mp h).1
  unfold atI ixN
  rw [if_pos (by omega), if_pos (by omega)]
  simpa using h
theorem ixn_lit {n : Nat} (k : Nat) (h : k < n) : ixN n (k : Int) = some k := by
  unfold ixN
  rw [if_pos (by omega), if_pos (by omega)]
  simp
section
variable {a b c d f : Val} {l : List Val}
theorem ix_0 : Ok (oIx (.lst (a :: l)) (.int 0)) e Q ↔ Q (.dat a) e := by rw [ok_ixL, show atI (a :: l) 0 = some a from atI_lit 0 rfl]; simp
theorem ix_1 : Ok (oIx (.lst (a :: b :: l)) (.int 1)) e Q ↔ Q (.dat b) e := by rw [ok_ixL, show atI (a :: b :: l) 1 = some b from atI_lit 1 rfl]; simp
theorem ix_2 : Ok (oIx (.lst (a :: b :: c :: l)) (.int 2)) e Q ↔ Q (.dat c) e := by rw [ok_ixL, show atI (a :: b :: c :: l) 2 = some c from atI_lit 2 rfl]; simp
theorem ix_3 : Ok (oIx (.lst (a :: b :: c :: d :: l)) (.int 3)) e Q ↔ Q (.dat d) e := by rw [ok_ixL, show atI (a :: b :: c :: d :: l) 3 = some d from atI_lit 3 rfl]; simp
theorem ix_4 : Ok (oIx (.lst (a :: b :: c :: d :: f :: l)) (.int 4)) e Q ↔ Q (.dat f) e := by rw [ok_ixL, show atI (a :: b :: c :: d :: f :: l) 4 = some f from atI_lit 4 rfl]; simp
theorem it_0 : Ok (oIx (.tup (a :: l)) (.int 0)) e Q ↔ Q (.dat a) e := by rw [ok_ixT, show atI (a :: l) 0 = some a from atI_lit 0 rfl]; simp
theorem it_1 : Ok (oIx (.tup (a :: b :: l)) (.int 1)) e Q ↔ Q (.dat b) e := by rw [ok_ixT, show atI (a :: b :: l) 1 = some b from atI_lit 1 rfl]; simp
theorem it_2 : Ok (oIx (.tup (a :: b :: c :: l)) (.int 2)) e Q ↔ Q (.dat c) e := by rw [ok_ixT, show atI (a :: b :: c :: l) 2 = some c from atI_lit 2 rfl]; simp
theorem it_3 : Ok (oIx (.tup (a :: b :: c :: d :: l)) (.int 3)) e Q ↔ Q (.dat d) e := by rw [ok_ixT, show atI (a :: b :: c :: d :: l) 3 = some d from atI_lit 3 rfl]; simp
end
theorem ixn_0 {n : Nat} : ixN (n + 1) 0 = some 0 := ixn_lit 0 (by omega)
theorem ixn_1 {n : Nat} : ixN (n + 1 + 1) 1 = some 1 := ixn_lit 1 (by omega)
theorem ixn_2 {n : Nat} : ixN (n + 1 + 1 + 1) 2 = some 2 := ixn_lit 2 (by omega)
theorem atI_mem {xs : List Val} {i : Int} (h0 : 0 ≤ i) (h1 : i < xs.length) : ∃ v ∈ xs, atI xs i = some v := by
  have hl : i.toNat < xs.length := by omega
  refine ⟨xs[i.toNat], List.getElem_mem hl, ?_⟩
  unfold atI ixN
  rw [if_pos h0, if_pos h1]
  simp [List.getElem?_eq_getElem hl]
theorem ok_d1 {nn : Nat} {b : S} {s0 : Slot} : Ok (fnDen 1 nn b) [s0] Q ↔ Ok b ([s0] ++ List.replicate (nn - 1) Slot.un) fun o e' => match o with
    | .nx => Q (.dat .non) (outE (e'.take 1))
    | .rt (.dat v) => Q (.dat v) (outE (e'.take 1))
    | .rt (.tmp v) => Q (.tmp v) (outE (e'.take 1))
    | .rt (.bor i) => (match e'[i]? with
      | some (.own v) => Q (.tmp v) (outE ((e'.set i .un).take 1))
      | some (.dat v) => Q (.dat v) (outE (e'.take 1))
      | _ => False)
    | _ => False := ok_den rfl
theorem ok_d2 {nn : Nat} {b : S} {s0 s1 : Slot} : Ok (fnDen 2 nn b) [s0, s1] Q ↔ Ok b ([s0, s1] ++ List.replicate (nn - 2) Slot.un) fun o e' => match o with
    | .nx => Q (.dat .non) (outE (e'.take 2))
    | .rt (.dat v) => Q (.dat v) (outE (e'.take 2))
    | .rt (.tmp v) => Q (.tmp v) (outE (e'.take 2))
    | .rt (.bor i) => (match e'[i]? with
      | some (.own v) => Q (.tmp v) (outE ((e'.set i .un).take 2))
      | some (.dat v) => Q (.dat v) (outE (e'.take 2))
      | _ => False)
    | _ => False := ok_den rfl
theorem ok_d3 {nn : Nat} {b : S} {s0 s1 s2 : Slot} : Ok (fnDen 3 nn b) [s0, s1, s2] Q ↔ Ok b ([s0, s1, s2] ++ List.replicate (nn - 3) Slot.un) fun o e' => match o with
    | .nx => Q (.dat .non) (outE (e'.take 3))
    | .rt (.dat v) => Q (.dat v) (outE (e'.take 3))
    | .rt (.tmp v) => Q (.tmp v) (outE (e'.take 3))
    | .rt (.bor i) => (match e'[i]? with
      | some (.own v) => Q (.tmp v) (outE ((e'.set i .un).take 3))
      | some (.dat v) => Q (.dat v) (outE (e'.take 3))
      | _ => False)
    | _ => False := ok_den rfl
theorem ok_d4 {nn : Nat} {b : S} {s0 s1 s2 s3 : Slot} : Ok (fnDen 4 nn b) [s0, s1, s2, s3] Q ↔ Ok b ([s0, s1, s2, s3] ++ List.replicate (nn - 4) Slot.un) fun o e' => match o with
    | .nx => Q (.dat .non) (outE (e'.take 4))
    | .rt (.dat v) => Q (.dat v) (outE (e'.take 4))
    | .rt (.tmp v) => Q (.tmp v) (outE (e'.take 4))
    | .rt (.bor i) => (match e'[i]? with
      | some (.own v) => Q (.tmp v) (outE ((e'.set i .un).take 4))
      | some (.dat v) => Q (.dat v) (outE (e'.take 4))
      | _ => False)
    | _ => False := ok_den rfl
theorem ok_d5 {nn : Nat} {b : S} {s0 s1 s2 s3 s4 : Slot} : Ok (fnDen 5 nn b) [s0, s1, s2, s3, s4] Q ↔ Ok b ([s0, s1, s2, s3, s4] ++ List.replicate (nn - 5) Slot.un) fun o e' => match o with
    | .nx => Q (.dat .non) (outE (e'.take 5))
    | .rt (.dat v) => Q (.dat v) (outE (e'.take 5))
    | .rt (.tmp v) => Q (.tmp v) (outE (e'.take 5))
    | .rt (.bor i) => (match e'[i]? with
      | some (.own v) => Q (.tmp v) (outE ((e'.set i .un).take 5))
      | some (.dat v) => Q (.dat v) (outE (e'.take 5))
      | _ => False)
    | _ => False := ok_den rfl
theorem ok_d6 {nn : Nat} {b : S} {s0 s1 s2 s3 s4 s5 : Slot} : Ok (fnDen 6 nn b) [s0, s1, s2, s3, s4, s5] Q ↔ Ok b ([s0, s1, s2, s3, s4, s5] ++ List.replicate (nn - 6) Slot.un) fun o e' => match o with
    | .nx => Q (.dat .non) (outE (e'.take 6))
    | .rt (.dat v) => Q (.dat v) (outE (e'.take 6))
    | .rt (.tmp v) => Q (.tmp v) (outE (e'.take 6))
    | .rt (.bor i) => (match e'[i]? with
      | some (.own v) => Q (.tmp v) (outE ((e'.set i .un).take 6))
      | some (.dat v) => Q (.dat v) (outE (e'.take 6))
      | _ => False)
    | _ => False := ok_den rfl
theorem ok_d7 {nn : Nat} {b : S} {s0 s1 s2 s3 s4 s5 s6 : Slot} : Ok (fnDen 7 nn b) [s0, s1, s2, s3, s4, s5, s6] Q ↔ Ok b ([s0, s1, s2, s3, s4, s5, s6] ++ List.replicate (nn - 7) Slot.un) fun o e' => match o with
    | .nx => Q (.dat .non) (outE (e'.take 7))
    | .rt (.dat v) => Q (.dat v) (outE (e'.take 7))
    | .rt (.tmp v) => Q (.tmp v) (outE (e'.take 7))
    | .rt (.bor i) => (match e'[i]? with
      | some (.own v) => Q (.tmp v) (outE ((e'.set i .un).take 7))
      | some (.dat v) => Q (.dat v) (outE (e'.take 7))
      | _ => False)
    | _ => False := ok_den rfl
section
variable {l : List Slot} {v : Val} {P : Val → Ev → Prop}
theorem vD_0 : Ok (mVar 0) (.dat v :: l) Q ↔ Q (.dat v) (.dat v :: l) := Iff.rfl
theorem vO_0 : Ok (mVar 0) (.own v :: l) Q ↔ Q (.bor 0) (.own v :: l) := Iff.rfl
theorem rD_0 : Ok (M.rd (.bor 0)) (.dat v :: l) P ↔ P v (.dat v :: l) := Iff.rfl
theorem rO_0 : Ok (M.rd (.bor 0)) (.own v :: l) P ↔ P v (.own v :: l) := Iff.rfl
theorem kD_0 : Ok (M.dt (.bor 0)) (.dat v :: l) P ↔ P v (.dat v :: l) := Iff.rfl
theorem kO_0 : Ok (M.dt (.bor 0)) (.own v :: l) P ↔ P v (.dat v :: l) := Iff.rfl
theorem vD_1 {s0 : Slot} : Ok (mVar 1) (s0 :: .dat v :: l) Q ↔ Q (.dat v) (s0 :: .dat v :: l) := Iff.rfl
theorem vO_1 {s0 : Slot} : Ok (mVar 1) (s0 :: .own v :: l) Q ↔ Q (.bor 1) (s0 :: .own v :: l) := Iff.rfl
theorem rD_1 {s0 : Slot} : Ok (M.rd (.bor 1)) (s0 :: .dat v :: l) P ↔ P v (s0 :: .dat v :: l) := Iff.rfl
theorem rO_1 {s0 : Slot} : Ok (M.rd (.bor 1)) (s0 :: .own v :: l) P ↔ P v (s0 :: .own v :: l) := Iff.rfl
theorem kD_1 {s0 : Slot} : Ok (M.dt (.bor 1)) (s0 :: .dat v :: l) P ↔ P v (s0 :: .dat v :: l) := Iff.rfl
theorem kO_1 {s0 : Slot} : Ok (M.dt (.bor 1)) (s0 :: .own v :: l) P ↔ P v (s0 :: .dat v :: l) := Iff.rfl
theorem vD_2 {s0 s1 : Slot} : Ok (mVar 2) (s0 :: s1 :: .dat v :: l) Q ↔ Q (.dat v) (s0 :: s1 :: .dat v :: l) := Iff.rfl
theorem vO_2 {s0 s1 : Slot} : Ok (mVar 2) (s0 :: s1 :: .own v :: l) Q ↔ Q (.bor 2) (s0 :: s1 :: .own v :: l) := Iff.rfl
theorem rD_2 {s0 s1 : Slot} : Ok (M.rd (.bor 2)) (s0 :: s1 :: .dat v :: l) P ↔ P v (s0 :: s1 :: .dat v :: l) := Iff.rfl
theorem rO_2 {s0 s1 : Slot} : Ok (M.rd (.bor 2)) (s0 :: s1 :: .own v :: l) P ↔ P v (s0 :: s1 :: .own v :: l) := Iff.rfl
theorem kD_2 {s0 s1 : Slot} : Ok (M.dt (.bor 2)) (s0 :: s1 :: .dat v :: l) P ↔ P v (s0 :: s1 :: .dat v :: l) := Iff.rfl
theorem kO_2 {s0 s1 : Slot} : Ok (M.dt (.bor 2)) (s0 :: s1 :: .own v :: l) P ↔ P v (s0 :: s1 :: .dat v :: l) := Iff.rfl
theorem vD_3 {s0 s1 s2 : Slot} : Ok (mVar 3) (s0 :: s1 :: s2 :: .dat v :: l) Q ↔ Q (.dat v) (s0 :: s1 :: s2 :: .dat v :: l) := Iff.rfl
theorem vO_3 {s0 s1 s2 : Slot} : Ok (mVar 3) (s0 :: s1 :: s2 :: .own v :: l) Q ↔ Q (.bor 3) (s0 :: s1 :: s2 :: .own v :: l) := Iff.rfl
theorem rD_3 {s0 s1 s2 : Slot} : Ok (M.rd (.bor 3)) (s0 :: s1 :: s2 :: .dat v :: l) P ↔ P v (s0 :: s1 :: s2 :: .dat v :: l) := Iff.rfl
theorem rO_3 {s0 s1 s2 : Slot} : Ok (M.rd (.bor 3)) (s0 :: s1 :: s2 :: .own v :: l) P ↔ P v (s0 :: s1 :: s2 :: .own v :: l) := Iff.rfl
theorem kD_3 {s0 s1 s2 : Slot} : Ok (M.dt (.bor 3)) (s0 :: s1 :: s2 :: .dat v :: l) P ↔ P v (s0 :: s1 :: s2 :: .dat v :: l) := Iff.rfl
theorem kO_3 {s0 s1 s2 : Slot} : Ok (M.dt (.bor 3)) (s0 :: s1 :: s2 :: .own v :: l) P ↔ P v (s0 :: s1 :: s2 :: .dat v :: l) := Iff.rfl
theorem vD_4 {s0 s1 s2 s3 : Slot} : Ok (mVar 4) (s0 :: s1 :: s2 :: s3 :: .dat v :: l) Q ↔ Q (.dat v) (s0 :: s1 :: s2 :: s3 :: .dat v :: l) := Iff.rfl
theorem vO_4 {s0 s1 s2 s3 : Slot} : Ok (mVar 4) (s0 :: s1 :: s2 :: s3 :: .own v :: l) Q ↔ Q (.bor 4) (s0 :: s1 :: s2 :: s3 :: .own v :: l) := Iff.rfl
theorem rD_4 {s0 s1 s2 s3 : Slot} : Ok (M.rd (.bor 4)) (s0 :: s1 :: s2 :: s3 :: .dat v :: l) P ↔ P v (s0 :: s1 :: s2 :: s3 :: .dat v :: l) := Iff.rfl
theorem rO_4 {s0 s1 s2 s3 : Slot} : Ok (M.rd (.bor 4)) (s0 :: s1 :: s2 :: s3 :: .own v :: l) P ↔ P v (s0 :: s1 :: s2 :: s3 :: .own v :: l) := Iff.rfl
theorem kD_4 {s0 s1 s2 s3 : Slot} : Ok (M.dt (.bor 4)) (s0 :: s1 :: s2 :: s3 :: .dat v :: l) P ↔ P v (s0 :: s1 :: s2 :: s3 :: .dat v :: l) := Iff.rfl
theorem kO_4 {s0 s1 s2 s3 : Slot} : Ok (M.dt (.bor 4)) (s0 :: s1 :: s2 :: s3 :: .own v :: l) P ↔ P v (s0 :: s1 :: s2 :: s3 :: .dat v :: l) := Iff.rfl
theorem vD_5 {s0 s1 s2 s3 s4 : Slot} : Ok (mVar 5) (s0 :: s1 :: s2 :: s3 :: s4 :: .dat v :: l) Q ↔ Q (.dat v) (s0 :: s1 :: s2 :: s3 :: s4 :: .dat v :: l) := Iff.rfl
theorem vO_5 {s0 s1 s2 s3 s4 : Slot} : Ok (mVar 5) (s0 :: s1 :: s2 :: s3 :: s4 :: .own v :: l) Q ↔ Q (.bor 5) (s0 :: s1 :: s2 :: s3 :: s4 :: .own v :: l) := Iff.rfl
theorem rD_5 {s0 s1 s2 s3 s4 : Slot} : Ok (M.rd (.bor 5)) (s0 :: s1 :: s2 :: s3 :: s4 :: .dat v :: l) P ↔ P v (s0 :: s1 :: s2 :: s3 :: s4 :: .dat v :: l) := Iff.rfl
theorem rO_5 {s0 s1 s2 s3 s4 : Slot} : Ok (M.rd (.bor 5)) (s0 :: s1 :: s2 :: s3 :: s4 :: .own v :: l) P ↔ P v (s0 :: s1 :: s2 :: s3 :: s4 :: .own v :: l) := Iff.rfl
theorem kD_5 {s0 s1 s2 s3 s4 : Slot} : Ok (M.dt (.bor 5)) (s0 :: s1 :: s2 :: s3 :: s4 :: .dat v :: l) P ↔ P v (s0 :: s1 :: s2 :: s3 :: s4 :: .dat v :: l) := Iff.rfl
theorem kO_5 {s0 s1 s2 s3 s4 : Slot} : Ok (M.dt (.bor 5)) (s0 :: s1 :: s2 :: s3 :: s4 :: .own v :: l) P ↔ P v (s0 :: s1 :: s2 :: s3 :: s4 :: .dat v :: l) := Iff.rfl
theorem vD_6 {s0 s1 s2 s3 s4 s5 : Slot} : Ok (mVar 6) (s0 :: s1 :: s2 :: s3 :: s4 :: s5 :: .dat v :: l) Q ↔ Q (.dat v) (s0 :: s1 :: s2 :: s3 :: s4 :: s5 :: .dat v :: l) := Iff.rfl
theorem vO_6 {s0 s1 s2 s3 s4 s5 : Slot} : Ok (mVar 6) (s0 :: s1 :: s2 :: s3 :: s4 :: s5 :: .own v :: l) Q ↔ Q (.bor 6) (s0 :: s1 :: s2 :: s3 :: s4 :: s5 :: .own v :: l) := Iff.rfl
theorem rD_6 {s0 s1 s2 s3 s4 s5 : Slot} : Ok (M.rd (.bor 6)) (s0 :: s1 :: s2 :: s3 :: s4 :: s5 :: .dat v :: l) P ↔ P v (s0 :: s1 :: s2 :: s3 :: s4 :: s5 :: .dat v :: l) := Iff.rfl
theorem rO_6 {s0 s1 s2 s3 s4 s5 : Slot} : Ok (M.rd (.bor 6)) (s0 :: s1 :: s2 :: s3 :: s4 :: s5 :: .own v :: l) P ↔ P v (s0 :: s1 :: s2 :: s3 :: s4 :: s5 :: .own v :: l) := Iff.rfl
theorem kD_6 {s0 s1 s2 s3 s4 s5 : Slot} : Ok (M.dt (.bor 6)) (s0 :: s1 :: s2 :: s3 :: s4 :: s5 :: .dat v :: l) P ↔ P v (s0 :: s1 :: s2 :: s3 :: s4 :: s5 :: .dat v :: l) := Iff.rfl
theorem kO_6 {s0 s1 s2 s3 s4 s5 : Slot} : Ok (M.dt (.bor 6)) (s0 :: s1 :: s2 :: s3 :: s4 :: s5 :: .own v :: l) P ↔ P v (s0 :: s1 :: s2 :: s3 :: s4 :: s5 :: .dat v :: l) := Iff.rfl
theorem vD_7 {s0 s1 s2 s3 s4 s5 s6 : Slot} : Ok (mVar 7) (s0 :: s1 :: s2 :: s3 :: s4 :: s5 :: s6 :: .dat v :: l) Q ↔ Q (.dat v) (s0 :: s1 :: s2 :: s3 :: s4 :: s5 :: s6 :: .dat v :: l) := Iff.rfl
theorem vO_7 {s0 s1 s2 s3 s4 s5 s6 : Slot} : Ok (mVar 7) (s0 :: s1 :: s2 :: s3 :: s4 :: s5 :: s6 :: .own v :: l) Q ↔ Q (.bor 7) (s0 :: s1 :: s2 :: s3 :: s4 :: s5 :: s6 :: .own v :: l) := Iff.rfl
theorem rD_7 {s0 s1 s2 s3 s4 s5 s6 : Slot} : Ok (M.rd (.bor 7)) (s0 :: s1 :: s2 :: s3 :: s4 :: s5 :: s6 :: .dat v :: l) P ↔ P v (s0 :: s1 :: s2 :: s3 :: s4 :: s5 :: s6 :: .dat v :: l) := Iff.rfl
theorem rO_7 {s0 s1 s2 s3 s4 s5 s6 : Slot} : Ok (M.rd (.bor 7)) (s0 :: s1 :: s2 :: s3 :: s4 :: s5 :: s6 :: .own v :: l) P ↔ P v (s0 :: s1 :: s2 :: s3 :: s4 :: s5 :: s6 :: .own v :: l) := Iff.rfl
theorem kD_7 {s0 s1 s2 s3 s4 s5 s6 : Slot} : Ok (M.dt (.bor 7)) (s0 :: s1 :: s2 :: s3 :: s4 :: s5 :: s6 :: .dat v :: l) P ↔ P v (s0 :: s1 :: s2 :: s3 :: s4 :: s5 :: s6 :: .dat v :: l) := Iff.rfl
theorem kO_7 {s0 s1 s2 s3 s4 s5 s6 : Slot} : Ok (M.dt (.bor 7)) (s0 :: s1 :: s2 :: s3 :: s4 :: s5 :: s6 :: .own v :: l) P ↔ P v (s0 :: s1 :: s2 :: s3 :: s4 :: s5 :: s6 :: .dat v :: l) := Iff.rfl
theorem vD_8 {s0 s1 s2 s3 s4 s5 s6 s7 : Slot} : Ok (mVar 8) (s0 :: s1 :: s2 :: s3 :: s4 :: s5 :: s6 :: s7 :: .dat v :: l) Q ↔ Q (.dat v) (s0 :: s1 :: s2 :: s3 :: s4 :: s5 :: s6 :: s7 :: .dat v :: l) := Iff.rfl
theorem vO_8 {s0 s1 s2 s3 s4 s5 s6 s7 : Slot} : Ok (mVar 8) (s0 :: s1 :: s2 :: s3 :: s4 :: s5 :: s6 :: s7 :: .own v :: l) Q ↔ Q (.bor 8) (s0 :: s1 :: s2 :: s3 :: s4 :: s5 :: s6 :: s7 :: .own v :: l) := Iff.rfl
theorem rD_8 {s0 s1 s2 s3 s4 s5 s6 s7 : Slot} : Ok (M.rd (.bor 8)) (s0 :: s1 :: s2 :: s3 :: s4 :: s5 :: s6 :: s7 :: .dat v :: l) P ↔ P v (s0 :: s1 :: s2 :: s3 :: s4 :: s5 :: s6 :: s7 :: .dat v :: l) := Iff.rfl
theorem rO_8 {s0 s1 s2 s3 s4 s5 s6 s7 : Slot} : Ok (M.rd (.bor 8)) (s0 :: s1 :: s2 :: s3 :: s4 :: s5 :: s6 :: s7 :: .own v :: l) P ↔ P v (s0 :: s1 :: s2 :: s3 :: s4 :: s5 :: s6 :: s7 :: .own v :: l) := Iff.rfl
theorem kD_8 {s0 s1 s2 s3 s4 s5 s6 s7 : Slot} : Ok (M.dt (.bor 8)) (s0 :: s1 :: s2 :: s3 :: s4 :: s5 :: s6 :: s7 :: .dat v :: l) P ↔ P v (s0 :: s1 :: s2 :: s3 :: s4 :: s5 :: s6 :: s7 :: .dat v :: l) := Iff.rfl
theorem kO_8 {s0 s1 s2 s3 s4 s5 s6 s7 : Slot} : Ok (M.dt (.bor 8)) (s0 :: s1 :: s2 :: s3 :: s4 :: s5 :: s6 :: s7 :: .own v :: l) P ↔ P v (s0 :: s1 :: s2 :: s3 :: s4 :: s5 :: s6 :: s7 :: .dat v :: l) := Iff.rfl
theorem vD_9 {s0 s1 s2 s3 s4 s5 s6 s7 s8 : Slot} : Ok (mVar 9) (s0 :: s1 :: s2 :: s3 :: s4 :: s5 :: s6 :: s7 :: s8 :: .dat v :: l) Q ↔ Q (.dat v) (s0 :: s1 :: s2 :: s3 :: s4 :: s5 :: s6 :: s7 :: s8 :: .dat v :: l) := Iff.rfl
theorem vO_9 {s0 s1 s2 s3 s4 s5 s6 s7 s8 : Slot} : Ok (mVar 9) (s0 :: s1 :: s2 :: s3 :: s4 :: s5 :: s6 :: s7 :: s8 :: .own v :: l) Q ↔ Q (.bor 9) (s0 :: s1 :: s2 :: s3 :: s4 :: s5 :: s6 :: s7 :: s8 :: .own v :: l) := Iff.rfl
theorem rD_9 {s0 s1 s2 s3 s4 s5 s6 s7 s8 : Slot} : Ok (M.rd (.bor 9)) (s0 :: s1 :: s2 :: s3 :: s4 :: s5 :: s6 :: s7 :: s8 :: .dat v :: l) P ↔ P v (s0 :: s1 :: s2 :: s3 :: s4 :: s5 :: s6 :: s7 :: s8 :: .dat v :: l) := Iff.rfl
theorem rO_9 {s0 s1 s2 s3 s4 s5 s6 s7 s8 : Slot} : Ok (M.rd (.bor 9)) (s0 :: s1 :: s2 :: s3 :: s4 :: s5 :: s6 :: s7 :: s8 :: .own v :: l) P ↔ P v (s0 :: s1 :: s2 :: s3 :: s4 :: s5 :: s6 :: s7 :: s8 :: .own v :: l) := Iff.rfl
theorem kD_9 {s0 s1 s2 s3 s4 s5 s6 s7 s8 : Slot} : Ok (M.dt (.bor 9)) (s0 :: s1 :: s2 :: s3 :: s4 :: s5 :: s6 :: s7 :: s8 :: .dat v :: l) P ↔ P v (s0 :: s1 :: s2 :: s3 :: s4 :: s5 :: s6 :: s7 :: s8 :: .dat v :: l) := Iff.rfl
theorem kO_9 {s0 s1 s2 s3 s4 s5 s6 s7 s8 : Slot} : Ok (M.dt (.bor 9)) (s0 :: s1 :: s2 :: s3 :: s4 :: s5 :: s6 :: s7 :: s8 :: .own v :: l) P ↔ P v (s0 :: s1 :: s2 :: s3 :: s4 :: s5 :: s6 :: s7 :: s8 :: .dat v :: l) := Iff.rfl
theorem vD_10 {s0 s1 s2 s3 s4 s5 s6 s7 s8 s9 : Slot} : Ok (mVar 10) (s0 :: s1 :: s2 :: s3 :: s4 :: s5 :: s6 :: s7 :: s8 :: s9 :: .dat v :: l) Q ↔ Q (.dat v) (s0 :: s1 :: s2 :: s3 :: s4 :: s5 :: s6 :: s7 :: s8 :: s9 :: .dat v :: l) := Iff.rfl
theorem vO_10 {s0 s1 s2 s3 s4 s5 s6 s7 s8 s9 : Slot} : Ok (mVar 10) (s0 :: s1 :: s2 :: s3 :: s4 :: s5 :: s6 :: s7 :: s8 :: s9 :: .own v :: l) Q ↔ Q (.bor 10) (s0 :: s1 :: s2 :: s3 :: s4 :: s5 :: s6 :: s7 :: s8 :: s9 :: .own v :: l) := Iff.rfl
theorem rD_10 {s0 s1 s2 s3 s4 s5 s6 s7 s8 s9 : Slot} : Ok (M.rd (.bor 10)) (s0 :: s1 :: s2 :: s3 :: s4 :: s5 :: s6 :: s7 :: s8 :: s9 :: .dat v :: l) P ↔ P v (s0 :: s1 :: s2 :: s3 :: s4 :: s5 :: s6 :: s7 :: s8 :: s9 :: .dat v :: l) := Iff.rfl
theorem rO_10 {s0 s1 s2 s3 s4 s5 s6 s7 s8 s9 : Slot} : Ok (M.rd (.bor 10)) (s0 :: s1 :: s2 :: s3 :: s4 :: s5 :: s6 :: s7 :: s8 :: s9 :: .own v :: l) P ↔ P v (s0 :: s1 :: s2 :: s3 :: s4 :: s5 :: s6 :: s7 :: s8 :: s9 :: .own v :: l) := Iff.rfl
theorem kD_10 {s0 s1 s2 s3 s4 s5 s6 s7 s8 s9 : Slot} : Ok (M.dt (.bor 10)) (s0 :: s1 :: s2 :: s3 :: s4 :: s5 :: s6 :: s7 :: s8 :: s9 :: .dat v :: l) P ↔ P v (s0 :: s1 :: s2 :: s3 :: s4 :: s5 :: s6 :: s7 :: s8 :: s9 :: .dat v :: l) := Iff.rfl
theorem kO_10 {s0 s1 s2 s3 s4 s5 s6 s7 s8 s9 : Slot} : Ok (M.dt (.bor 10)) (s0 :: s1 :: s2 :: s3 :: s4 :: s5 :: s6 :: s7 :: s8 :: s9 :: .own v :: l) P ↔ P v (s0 :: s1 :: s2 :: s3 :: s4 :: s5 :: s6 :: s7 :: s8 :: s9 :: .dat v :: l) := Iff.rfl
theorem vD_11 {s0 s1 s2 s3 s4 s5 s6 s7 s8 s9 s10 : Slot} : Ok (mVar 11) (s0 :: s1 :: s2 :: s3 :: s4 :: s5 :: s6 :: s7 :: s8 :: s9 :: s10 :: .dat v :: l) Q ↔ Q (.dat v) (s0 :: s1 :: s2 :: s3 :: s4 :: s5 :: s6 :: s7 :: s8 :: s9 :: s10 :: .dat v :: l) := Iff.rfl
theorem vO_11 {s0 s1 s2 s3 s4 s5 s6 s7 s8 s9 s10 : Slot} : Ok (mVar 11) (s0 :: s1 :: s2 :: s3 :: s4 :: s5 :: s6 :: s7 :: s8 :: s9 :: s10 :: .own v :: l) Q ↔ Q (.bor 11) (s0 :: s1 :: s2 :: s3 :: s4 :: s5 :: s6 :: s7 :: s8 :: s9 :: s10 :: .own v :: l) := Iff.rfl
theorem rD_11 {s0 s1 s2 s3 s4 s5 s6 s7 s8 s9 s10 : Slot} : Ok (M.rd (.bor 11)) (s0 :: s1 :: s2 :: s3 :: s4 :: s5 :: s6 :: s7 :: s8 :: s9 :: s10 :: .dat v :: l) P ↔ P v (s0 :: s1 :: s2 :: s3 :: s4 :: s5 :: s6 :: s7 :: s8 :: s9 :: s10 :: .dat v :: l) := Iff.rfl
theorem rO_11 {s0 s1 s2 s3 s4 s5 s6 s7 s8 s9 s10 : Slot} : Ok (M.rd (.bor 11)) (s0 :: s1 :: s2 :: s3 :: s4 :: s5 :: s6 :: s7 :: s8 :: s9 :: s10 :: .own v :: l) P ↔ P v (s0 :: s1 :: s2 :: s3 :: s4 :: s5 :: s6 :: s7 :: s8 :: s9 :: s10 :: .own v :: l) := Iff.rfl
theorem kD_11 {s0 s1 s2 s3 s4 s5 s6 s7 s8 s9 s10 : Slot} : Ok (M.dt (.bor 11)) (s0 :: s1 :: s2 :: s3 :: s4 :: s5 :: s6 :: s7 :: s8 :: s9 :: s10 :: .dat v :: l) P ↔ P v (s0 :: s1 :: s2 :: s3 :: s4 :: s5 :: s6 :: s7 :: s8 :: s9 :: s10 :: .dat v :: l) := Iff.rfl
theorem kO_11 {s0 s1 s2 s3 s4 s5 s6 s7 s8 s9 s10 : Slot} : Ok (M.dt (.bor 11)) (s0 :: s1 :: s2 :: s3 :: s4 :: s5 :: s6 :: s7 :: s8 :: s9 :: s10 :: .own v :: l) P ↔ P v (s0 :: s1 :: s2 :: s3 :: s4 :: s5 :: s6 :: s7 :: s8 :: s9 :: s10 :: .dat v :: l) := Iff.rfl
theorem vD_12 {s0 s1 s2 s3 s4 s5 s6 s7 s8 s9 s10 s11 : Slot} : Ok (mVar 12) (s0 :: s1 :: s2 :: s3 :: s4 :: s5 :: s6 :: s7 :: s8 :: s9 :: s10 :: s11 :: .dat v :: l) Q ↔ Q (.dat v) (s0 :: s1 :: s2 :: s3 :: s4 :: s5 :: s6 :: s7 :: s8 :: s9 :: s10 :: s11 :: .dat v :: l) := Iff.rfl
theorem vO_12 {s0 s1 s2 s3 s4 s5 s6 s7 s8 s9 s10 s11 : Slot} : Ok (mVar 12) (s0 :: s1 :: s2 :: s3 :: s4 :: s5 :: s6 :: s7 :: s8 :: s9 :: s10 :: s11 :: .own v :: l) Q ↔ Q (.bor 12) (s0 :: s1 :: s2 :: s3 :: s4 :: s5 :: s6 :: s7 :: s8 :: s9 :: s10 :: s11 :: .own v :: l) := Iff.rfl
theorem rD_12 {s0 s1 s2 s3 s4 s5 s6 s7 s8 s9 s10 s11 : Slot} : Ok (M.rd (.bor 12)) (s0 :: s1 :: s2 :: s3 :: s4 :: s5 :: s6 :: s7 :: s8 :: s9 :: s10 :: s11 :: .dat v :: l) P ↔ P v (s0 :: s1 :: s2 :: s3 :: s4 :: s5 :: s6 :: s7 :: s8 :: s9 :: s10 :: s11 :: .dat v :: l) := Iff.rfl
theorem rO_12 {s0 s1 s2 s3 s4 s5 s6 s7 s8 s9 s10 s11 : Slot} : Ok (M.rd (.bor 12)) (s0 :: s1 :: s2 :: s3 :: s4 :: s5 :: s6 :: s7 :: s8 :: s9 :: s10 :: s11 :: .own v :: l) P ↔ P v (s0 :: s1 :: s2 :: s3 :: s4 :: s5 :: s6 :: s7 :: s8 :: s9 :: s10 :: s11 :: .own v :: l) := Iff.rfl
theorem kD_12 {s0 s1 s2 s3 s4 s5 s6 s7 s8 s9 s10 s11 : Slot} : Ok (M.dt (.bor 12)) (s0 :: s1 :: s2 :: s3 :: s4 :: s5 :: s6 :: s7 :: s8 :: s9 :: s10 :: s11 :: .dat v :: l) P ↔ P v (s0 :: s1 :: s2 :: s3 :: s4 :: s5 :: s6 :: s7 :: s8 :: s9 :: s10 :: s11 :: .dat v :: l) := Iff.rfl
theorem kO_12 {s0 s1 s2 s3 s4 s5 s6 s7 s8 s9 s10 s11 : Slot} : Ok (M.dt (.bor 12)) (s0 :: s1 :: s2 :: s3 :: s4 :: s5 :: s6 :: s7 :: s8 :: s9 :: s10 :: s11 :: .own v :: l) P ↔ P v (s0 :: s1 :: s2 :: s3 :: s4 :: s5 :: s6 :: s7 :: s8 :: s9 :: s10 :: s11 :: .dat v :: l) := Iff.rfl
theorem vD_13 {s0 s1 s2 s3 s4 s5 s6 s7 s8 s9 s10 s11 s12 : Slot} : Ok (mVar 13) (s0 :: s1 :: s2 :: s3 :: s4 :: s5 :: s6 :: s7 :: s8 :: s9 :: s10 :: s11 :: s12 :: .dat v :: l) Q ↔ Q (.dat v) (s0 :: s1 :: s2 :: s3 :: s4 :: s5 :: s6 :: s7 :: s8 :: s9 :: s10 :: s11 :: s12 :: .dat v :: l) := Iff.rfl
theorem vO_13 {s0 s1 s2 s3 s4 s5 s6 s7 s8 s9 s10 s11 s12 : Slot} : Ok (mVar 13) (s0 :: s1 :: s2 :: s3 :: s4 :: s5 :: s6 :: s7 :: s8 :: s9 :: s10 :: s11 :: s12 :: .own v :: l) Q ↔ Q (.bor 13) (s0 :: s1 :: s2 :: s3 :: s4 :: s5 :: s6 :: s7 :: s8 :: s9 :: s10 :: s11 :: s12 :: .own v :: l) := Iff.rfl
theorem rD_13 {s0 s1 s2 s3 s4 s5 s6 s7 s8 s9 s10 s11 s12 : Slot} : Ok (M.rd (.bor 13)) (s0 :: s1 :: s2 :: s3 :: s4 :: s5 :: s6 :: s7 :: s8 :: s9 :: s10 :: s11 :: s12 :: .dat v :: l) P ↔ P v (s0 :: s1 :: s2 :: s3 :: s4 :: s5 :: s6 :: s7 :: s8 :: s9 :: s10 :: s11 :: s12 :: .dat v :: l) := Iff.rfl
theorem rO_13 {s0 s1 s2 s3 s4 s5 s6 s7 s8 s9 s10 s11 s12 : Slot} : Ok (M.rd (.bor 13)) (s0 :: s1 :: s2 :: s3 :: s4 :: s5 :: s6 :: s7 :: s8 :: s9 :: s10 :: s11 :: s12 :: .own v :: l) P ↔ P v (s0 :: s1 :: s2 :: s3 :: s4 :: s5 :: s6 :: s7 :: s8 :: s9 :: s10 :: s11 :: s12 :: .own v :: l) := Iff.rfl
theorem kD_13 {s0 s1 s2 s3 s4 s5 s6 s7 s8 s9 s10 s11 s12 : Slot} : Ok (M.dt (.bor 13)) (s0 :: s1 :: s2 :: s3 :: s4 :: s5 :: s6 :: s7 :: s8 :: s9 :: s10 :: s11 :: s12 :: .dat v :: l) P ↔ P v (s0 :: s1 :: s2 :: s3 :: s4 :: s5 :: s6 :: s7 :: s8 :: s9 :: s10 :: s11 :: s12 :: .dat v :: l) := Iff.rfl
theorem kO_13 {s0 s1 s2 s3 s4 s5 s6 s7 s8 s9 s10 s11 s12 : Slot} : Ok (M.dt (.bor 13)) (s0 :: s1 :: s2 :: s3 :: s4 :: s5 :: s6 :: s7 :: s8 :: s9 :: s10 :: s11 :: s12 :: .own v :: l) P ↔ P v (s0 :: s1 :: s2 :: s3 :: s4 :: s5 :: s6 :: s7 :: s8 :: s9 :: s10 :: s11 :: s12 :: .dat v :: l) := Iff.rfl
theorem vD_14 {s0 s1 s2 s3 s4 s5 s6 s7 s8 s9 s10 s11 s12 s13 : Slot} : Ok (mVar 14) (s0 :: s1 :: s2 :: s3 :: s4 :: s5 :: s6 :: s7 :: s8 :: s9 :: s10 :: s11 :: s12 :: s13 :: .dat v :: l) Q ↔ Q (.dat v) (s0 :: s1 :: s2 :: s3 :: s4 :: s5 :: s6 :: s7 :: s8 :: s9 :: s10 :: s11 :: s12 :: s13 :: .dat v :: l) := Iff.rfl
theorem vO_14 {s0 s1 s2 s3 s4 s5 s6 s7 s8 s9 s10 s11 s12 s13 : Slot} : Ok (mVar 14) (s0 :: s1 :: s2 :: s3 :: s4 :: s5 :: s6 :: s7 :: s8 :: s9 :: s10 :: s11 :: s12 :: s13 :: .own v :: l) Q ↔ Q (.bor 14) (s0 :: s1 :: s2 :: s3 :: s4 :: s5 :: s6 :: s7 :: s8 :: s9 :: s10 :: s11 :: s12 :: s13 :: .own v :: l) := Iff.rfl
theorem rD_14 {s0 s1 s2 s3 s4 s5 s6 s7 s8 s9 s10 s11 s12 s13 : Slot} : Ok (M.rd (.bor 14)) (s0 :: s1 :: s2 :: s3 :: s4 :: s5 :: s6 :: s7 :: s8 :: s9 :: s10 :: s11 :: s12 :: s13 :: .dat v :: l) P ↔ P v (s0 :: s1 :: s2 :: s3 :: s4 :: s5 :: s6 :: s7 :: s8 :: s9 :: s10 :: s11 :: s12 :: s13 :: .dat v :: l) := Iff.rfl
theorem rO_14 {s0 s1 s2 s3 s4 s5 s6 s7 s8 s9 s10 s11 s12 s13 : Slot} : Ok (M.rd (.bor 14)) (s0 :: s1 :: s2 :: s3 :: s4 :: s5 :: s6 :: s7 :: s8 :: s9 :: s10 :: s11 :: s12 :: s13 :: .own v :: l) P ↔ P v (s0 :: s1 :: s2 :: s3 :: s4 :: s5 :: s6 :: s7 :: s8 :: s9 :: s10 :: s11 :: s12 :: s13 :: .own v :: l) := Iff.rfl
theorem kD_14 {s0 s1 s2 s3 s4 s5 s6 s7 s8 s9 s10 s11 s12 s13 : Slot} : Ok (M.dt (.bor 14)) (s0 :: s1 :: s2 :: s3 :: s4 :: s5 :: s6 :: s7 :: s8 :: s9 :: s10 :: s11 :: s12 :: s13 :: .dat v :: l) P ↔ P v (s0 :: s1 :: s2 :: s3 :: s4 :: s5 :: s6 :: s7 :: s8 :: s9 :: s10 :: s11 :: s12 :: s13 :: .dat v :: l) := Iff.rfl
theorem kO_14 {s0 s1 s2 s3 s4 s5 s6 s7 s8 s9 s10 s11 s12 s13 : Slot} : Ok (M.dt (.bor 14)) (s0 :: s1 :: s2 :: s3 :: s4 :: s5 :: s6 :: s7 :: s8 :: s9 :: s10 :: s11 :: s12 :: s13 :: .own v :: l) P ↔ P v (s0 :: s1 :: s2 :: s3 :: s4 :: s5 :: s6 :: s7 :: s8 :: s9 :: s10 :: s11 :: s12 :: s13 :: .dat v :: l) := Iff.rfl
theorem vD_15 {s0 s1 s2 s3 s4 s5 s6 s7 s8 s9 s10 s11 s12 s13 s14 : Slot} : Ok (mVar 15) (s0 :: s1 :: s2 :: s3 :: s4 :: s5 :: s6 :: s7 :: s8 :: s9 :: s10 :: s11 :: s12 :: s13 :: s14 :: .dat v :: l) Q ↔ Q (.dat v) (s0 :: s1 :: s2 :: s3 :: s4 :: s5 :: s6 :: s7 :: s8 :: s9 :: s10 :: s11 :: s12 :: s13 :: s14 :: .dat v :: l) := Iff.rfl
theorem vO_15 {s0 s1 s2 s3 s4 s5 s6 s7 s8 s9 s10 s11 s12 s13 s14 : Slot} : Ok (mVar 15) (s0 :: s1 :: s2 :: s3 :: s4 :: s5 :: s6 :: s7 :: s8 :: s9 :: s10 :: s11 :: s12 :: s13 :: s14 :: .own v :: l) Q ↔ Q (.bor 15) (s0 :: s1 :: s2 :: s3 :: s4 :: s5 :: s6 :: s7 :: s8 :: s9 :: s10 :: s11 :: s12 :: s13 :: s14 :: .own v :: l) := Iff.rfl
theorem rD_15 {s0 s1 s2 s3 s4 s5 s6 s7 s8 s9 s10 s11 s12 s13 s14 : Slot} : Ok (M.rd (.bor 15)) (s0 :: s1 :: s2 :: s3 :: s4 :: s5 :: s6 :: s7 :: s8 :: s9 :: s10 :: s11 :: s12 :: s13 :: s14 :: .dat v :: l) P ↔ P v (s0 :: s1 :: s2 :: s3 :: s4 :: s5 :: s6 :: s7 :: s8 :: s9 :: s10 :: s11 :: s12 :: s13 :: s14 :: .dat v :: l) := Iff.rfl
theorem rO_15 {s0 s1 s2 s3 s4 s5 s6 s7 s8 s9 s10 s11 s12 s13 s14 : Slot} : Ok (M.rd (.bor 15)) (s0 :: s1 :: s2 :: s3 :: s4 :: s5 :: s6 :: s7 :: s8 :: s9 :: s10 :: s11 :: s12 :: s13 :: s14 :: .own v :: l) P ↔ P v (s0 :: s1 :: s2 :: s3 :: s4 :: s5 :: s6 :: s7 :: s8 :: s9 :: s10 :: s11 :: s12 :: s13 :: s14 :: .own v :: l) := Iff.rfl
theorem kD_15 {s0 s1 s2 s3 s4 s5 s6 s7 s8 s9 s10 s11 s12 s13 s14 : Slot} : Ok (M.dt (.bor 15)) (s0 :: s1 :: s2 :: s3 :: s4 :: s5 :: s6 :: s7 :: s8 :: s9 :: s10 :: s11 :: s12 :: s13 :: s14 :: .dat v :: l) P ↔ P v (s0 :: s1 :: s2 :: s3 :: s4 :: s5 :: s6 :: s7 :: s8 :: s9 :: s10 :: s11 :: s12 :: s13 :: s14 :: .dat v :: l) := Iff.rfl
theorem kO_15 {s0 s1 s2 s3 s4 s5 s6 s7 s8 s9 s10 s11 s12 s13 s14 : Slot} : Ok (M.dt (.bor 15)) (s0 :: s1 :: s2 :: s3 :: s4 :: s5 :: s6 :: s7 :: s8 :: s9 :: s10 :: s11 :: s12 :: s13 :: s14 :: .own v :: l) P ↔ P v (s0 :: s1 :: s2 :: s3 :: s4 :: s5 :: s6 :: s7 :: s8 :: s9 :: s10 :: s11 :: s12 :: s13 :: s14 :: .dat v :: l) := Iff.rfl
end
theorem cMul_r {i j : Int} (h1 : -18446744073709551616 < j) (h2 : j < 18446744073709551616) : cMul i j ↔ True := ⟨fun _ => trivial, fun _ => .inr (.inl ⟨h1, h2⟩)⟩
theorem cMul_l {i j : Int} (h1 : -18446744073709551616 < i) (h2 : i < 18446744073709551616) : cMul i j ↔ True := ⟨fun _ => trivial, fun _ => .inl ⟨h1, h2⟩⟩
theorem strq {a b : String} : (Str.ofString a = Str.ofString b) ↔ a = b := by
  refine ⟨fun h => ?_, fun h => by rw [h]⟩
  rw [Str.ofString_eq_toList, Str.ofString_eq_toList] at h
  have h2 : (a.toList.map Char.toNat).toArray = (b.toList.map Char.toNat).toArray := congrArg Str.cps h
  have h3 : a.toList.map Char.toNat = b.toList.map Char.toNat := by simpa using h2
  have inj : ∀ x y : Char, x.toNat = y.toNat → x = y := fun x y q => Char.ext (UInt32.toNat_inj.mp q)
  have h4 : ∀ {l m : List Char}, l.map Char.toNat = m.map Char.toNat → l = m := fun {l} => by
    induction l with
    | nil => intro m q; cases m <;> simp_all
    | cons c l ih =>
      intro m q
      cases m with
      | nil => simp at q
      | cons d m =>
        simp only [List.map_cons, List.cons.injEq] at q
        rw [inj c d q.1, ih q.2]
  exact String.toList_inj.mp (h4 h3)
theorem sz {n : Nat} (h : n ≤ 1000) : (n ≤ sizeLine) ↔ True := ⟨fun _ => trivial, fun _ => by rw [sizeLine_eq]; omega⟩
theorem szl {n : Nat} (h : n ≤ 1000) : (n < sizeLine) ↔ True := ⟨fun _ => trivial, fun _ => by rw [sizeLine_eq]; omega⟩
theorem dOk_int {i : Int} : dOk (.int i) = true ↔ True := ⟨fun _ => trivial, fun _ => rfl⟩
theorem dOk_bl {i : Bool} : dOk (.bl i) = true ↔ True := ⟨fun _ => trivial, fun _ => rfl⟩
theorem dOk_non : dOk .non = true ↔ True := ⟨fun _ => trivial, fun _ => rfl⟩
theorem veq_int {i j : Int} : veq (.int i) (.int j) = decide (i = j) := by
  first
    | rfl
    | (unfold veq; simp [toP, PyData.eqv])
theorem veq_str {a b : Str} : veq (.str a) (.str b) = decide (a = b) := by
  first
    | rfl
    | (unfold veq; simp [toP, PyData.eqv])
theorem ok_len {xs : List Val} : Ok (fLen [.lst xs]) e Q ↔ Q (.dat (.int xs.length)) e := Iff.rfl
theorem ok_lenT {xs : List Val} : Ok (fLen [.tup xs]) e Q ↔ Q (.dat (.int xs.length)) e := Iff.rfl
theorem ok_absI {i : Int} : Ok (fAbs [.int i]) e Q ↔ Q (.dat (.int (if i < 0 then -i else i))) e := Iff.rfl
theorem ok_intI {i : Int} : Ok (fInt [.int i]) e Q ↔ Q (.dat (.int i)) e := Iff.rfl
theorem ok_max2 {i j : Int} : Ok (fMax2 [.int i, .int j]) e Q ↔ Q (.dat (.int (if j > i then j else i))) e := Iff.rfl
theorem ok_min2 {i j : Int} : Ok (fMin2 [.int i, .int j]) e Q ↔ Q (.dat (.int (if j < i then j else i))) e := Iff.rfl
theorem ok_gTL {n : Nat} {ms : List Val → M Unit} {xs : List Val} {Q : Unit → Ev → Prop} : Ok (gT n ms (.lst xs)) e Q ↔ xs.length = n ∧ Ok (ms xs) e Q := by
  show Ok (if xs.length = n then ms xs else M.bad) e Q ↔ _
  by_cases h : xs.length = n
  · rw [if_pos h]; exact ⟨fun z => ⟨h, z⟩, fun z => z.2⟩
  · rw [if_neg h]; exact ⟨fun z => (ok_bad.mp z).elim, fun z => absurd z.1 h⟩
theorem ok_repr {v : Val} : Ok (fRepr [v]) e Q ↔ rOk v = true ∧ Q (.dat (.str (shownV v))) e := by
  show Ok (if rOk v = true then _ else _) e Q ↔ _
  by_cases h : rOk v = true
  · rw [if_pos h]; exact ⟨fun z => ⟨h, z⟩, fun z => z.2⟩
  · rw [if_neg h]; exact ⟨fun z => z.elim, fun z => h z.1⟩
theorem ok_all {bs : List Bool} : Ok (fAll [.lst (bs.map .bl)]) e Q ↔ Q (.dat (.bl (bs.all id))) e := by
  have h : bls? (bs.map Val.bl) = some bs := by
    induction bs with
    | nil => rfl
    | cons b bs ih => simp [bls?, ih]
  show Ok (match bls? (bs.map Val.bl) with
    | some bs => mV (.bl (bs.all id))
    | _ => M.bad) e Q ↔ _
  rw [h]
  exact Iff.rfl
theorem trues {rs : List Val} (h : ∀ r ∈ rs, r = .bl true) : rs = (List.replicate rs.length true).map .bl := by
  induction rs with
  | nil => rfl
  | cons r rs ih =>
    rw [h r (List.mem_cons_self ..), List.length_cons, List.replicate_succ, List.map_cons, ← ih fun r hr => h r (List.mem_cons_of_mem _ hr)]
theorem ok_allT {rs : List Val} (h : ∀ r ∈ rs, r = .bl true) : Ok (fAll [.lst rs]) e Q ↔ Q (.dat (.bl true)) e := by
  have h2 := trues h
  rw [h2, ok_all]
  have h3 : ∀ n : Nat, (List.replicate n true).all id = true := fun n => by induction n with
    | zero => rfl
    | succ n ih => rw [List.replicate_succ, List.all_cons, ih]; rfl
  rw [h3]
end Pu
set_option Elab.async false
set_option linter.all false
set_option maxRecDepth 100000
namespace Pu
open PySem PySem.Spec PyProof.Rows L2
def fDm (vs : List Val) : M RV := match vs with
  | [.int i, .int j] => if cDiv i j then mV (.tup [.int (i / j), .int (i % j)]) else M.bad
  | _ => M.bad
theorem ok_dm {e : Ev} {Q : RV → Ev → Prop} {i j : Int} : Ok (fDm [.int i, .int j]) e Q ↔ cDiv i j ∧ Q (.dat (.tup [.int (i / j), .int (i % j)])) e := by
  show Ok (if cDiv i j then _ else M.bad) e Q ↔ _
  by_cases h : cDiv i j
  · rw [if_pos h]; exact ⟨fun z => ⟨h, z⟩, fun z => z.2⟩
  · rw [if_neg h]; exact ⟨fun z => z.elim, fun z => h z.1⟩
def fMax3 (vs : List Val) : M RV := match vs with
  | [.int a, .int b, .int c] => mV (.int (if (if a < b then b else a) < c then c else (if a < b then b else a)))
  | _ => M.bad
theorem ok_max3 {e : Ev} {Q : RV → Ev → Prop} {a b c : Int} : Ok (fMax3 [.int a, .int b, .int c]) e Q ↔ Q (.dat (.int (if (if a < b then b else a) < c then c else (if a < b then b else a)))) e := Iff.rfl
def fMin3 (vs : List Val) : M RV := match vs with
  | [.int a, .int b, .int c] => mV (.int (if c < (if b < a then b else a) then c else (if b < a then b else a)))
  | _ => M.bad
theorem ok_min3 {e : Ev} {Q : RV → Ev → Prop} {a b c : Int} : Ok (fMin3 [.int a, .int b, .int c]) e Q ↔ Q (.dat (.int (if c < (if b < a then b else a) then c else (if b < a then b else a)))) e := Iff.rfl
end Pu
set_option Elab.async false
set_option linter.all false
set_option maxRecDepth 100000
set_option maxHeartbeats 2000000
namespace Pu
open PySem PySem.Spec PyProof.Rows L2
def StB : Bool → Heap → Addr → Array Value → Prop
  | true, h, a, vs => h.IsList a vs
  | false, h, a, vs => h.IsTuple a vs
theorem ItB.lt {b : Bool} {h : Heap} {it a : Addr} {i : Nat} (x : ItB b h it a i) : it < h.objs.size := by
  obtain ⟨o, ho, _⟩ := x.obj
  exact Heap.lt_size ho
theorem StB.lt {b : Bool} {h : Heap} {a : Addr} {vs : Array Value} (x : StB b h a vs) : a < h.objs.size := by
  cases b <;> (obtain ⟨o, ho, _⟩ := x; exact Heap.lt_size ho)
end Pu
set_option Elab.async false
set_option linter.all false
set_option maxRecDepth 100000
set_option maxHeartbeats 2000000
namespace Pu
open PySem PySem.Spec PyProof.Rows L2
section
variable {K : PySem.W.Frag} {W : WX} {B : Bg} {F H : Hp} {σ : Sig} {e : Ev}
theorem RRs.pre {ds : List Val} {dvs : List V} {rs : List RV} {us : List V} (g : VRs K F ds dvs) (h : RRs K B F H e σ rs us) : RRs K B F H e σ (ds.map .dat ++ rs) (dvs ++ us) := by
  induction ds generalizing dvs with
  | nil => cases g; exact h
  | cons d ds ih => cases g with
    | cons a b => exact .cons a (fun v z => nomatch z) (ih b)
end
end Pu
set_option Elab.async false
set_option linter.all false
set_option maxRecDepth 100000
set_option maxHeartbeats 3200000
namespace Pu
open PySem PySem.Spec PyProof.Rows L2
end Pu
set_option Elab.async false
set_option linter.all false
set_option maxRecDepth 100000
set_option maxHeartbeats 2000000
namespace Pu
open PySem PySem.Spec PyProof.Rows L2
end Pu
set_option Elab.async false
set_option linter.all false
set_option maxRecDepth 100000
namespace Pu
open PySem PySem.Spec PyProof.Rows L2
def mCallKD (ms : List Bool) (f : M RV) (as ks : M (List RV)) (n m : Nat) (g : List Nat) (dl : List Val) : M RV := as.bind fun rs => ks.bind fun zs => if rs.length = n ∧ zs.length = m then runF ms f (sel g (rs ++ zs ++ dl.map .dat)) else M.bad
theorem Ok.iff' {α : Type} {m : M α} {e : Ev} {P R : α → Ev → Prop} (h : ∀ a e, P a e ↔ R a e) : Ok m e P ↔ Ok m e R := ⟨fun q => Ok.mono q fun a e' => (h a e').mp, fun q => Ok.mono q fun a e' => (h a e').mpr⟩
theorem ok_callKD {ms : List Bool} {f : M RV} {as ks : M (List RV)} {n m : Nat} {g : List Nat} {dl : List Val} {e : Ev} {Q : RV → Ev → Prop} : Ok (mCallKD ms f as ks n m g dl) e Q ↔ Ok as e fun rs e1 => Ok ks e1 fun zs e2 => (rs.length = n ∧ zs.length = m) ∧ Ok (runF ms f (sel g (rs ++ zs ++ dl.map .dat))) e2 Q := by
  unfold mCallKD
  rw [ok_bind]
  refine Ok.iff' fun rs e1 => ?_
  rw [ok_bind]
  refine Ok.iff' fun zs e2 => ?_
  by_cases h : rs.length = n ∧ zs.length = m
  · rw [if_pos h]; exact ⟨fun q => ⟨h, q⟩, fun q => q.2⟩
  · rw [if_neg h]; exact ⟨fun q => (ok_bad.mp q).elim, fun q => absurd q.1 h⟩
end Pu
set_option Elab.async false
set_option linter.all false
set_option maxRecDepth 100000
set_option maxHeartbeats 2000000
namespace Pu
open PySem PySem.Spec PyProof.Rows L2
theorem noOwn_get {e : Ev} (h : noOwnE e = true) {i : Nat} {v : Val} : e[i]? ≠ some (.own v) := fun q => by
  have := List.all_eq_true.mp h _ (List.mem_of_getElem? q)
  cases this
section
variable {K : PySem.W.Frag} {W : WX} {B : Bg} {F F1 H H1 : Hp} {e e' : Ev} {σ : Sig} {iF : Nat} {A : Addr} {bs : List Addr} {xs : List (List Val)}
theorem InR.snoc {xs : List (List Val)} {bs : List Addr} (h : InR K B F H xs bs) {t : Addr} {ys : List Val} {us : List V} (h1 : H t = some (.lst us)) (h2 : VRs K F ys us) (h3 : F t = none) (h4 : B.mine t) : InR K B F H (xs ++ [ys]) (bs ++ [t]) := by
  induction h with
  | nil => exact .cons h1 h2 h3 h4 .nil
  | cons a b c d _ ih => exact .cons a b c d ih
def seen (S : List Addr) (F H : Hp) : Hp := fun a => if a ∈ S then H a else F a
theorem NX.has (N : NX K B iF A bs xs F H e σ) : ∀ a ∈ A :: bs, ∃ us, H a = some (.lst us) := fun a ha => by
  rcases List.mem_cons.mp ha with rfl | ha
  · exact ⟨_, N.x3⟩
  · exact (N.x7.at a ha).2.2
theorem noOwn_set {e : Ev} {i : Nat} {v : Val} (h : noOwnE e = true) : noOwnE (e.set i (.dat v)) = true := by
  refine List.all_eq_true.mpr fun s hs => ?_
  rcases List.mem_or_eq_of_mem_set hs with h1 | h1
  · exact List.all_eq_true.mp h s h1
  · subst h1; rfl
theorem NX.setDat {i : Nat} {v : Val} {u : V} (N : NX K B iF A bs xs F H e σ) (hi : i ≠ iF) (r : VR K F v u) : NX K B iF A bs xs F H (e.set i (.dat v)) (σ.set i (some u)) :=
  ⟨by rw [List.set_comm _ _ hi]; exact N.cur.setDat r, noOwn_set N.no, by rw [List.getElem?_set_ne hi]; exact N.x1, by rw [List.getElem?_set_ne hi]; exact N.x2, N.x3, N.x4, N.x5, N.x6, N.x7⟩
theorem NX.app {t : Addr} {ys : List Val} {us : List V} (N : NX K B iF A bs xs F H e σ) (h1 : t ∉ A :: bs) (h2 : H t = some (.lst us)) (h3 : VRs K F ys us) (h4 : F t = none) (h5 : B.mine t) :
    NX K B iF A (bs ++ [t]) (xs ++ [ys]) F (upd H A (.lst (bs.map .ref ++ [.ref t]))) (e.set iF (.dat (.lst (xs.map .lst ++ [.lst ys])))) σ := by
  have tA : t ≠ A := fun z => h1 (by rw [z]; exact List.mem_cons_self)
  obtain ⟨n1, n2⟩ := List.nodup_cons.mp N.x6
  have hl : iF < e.length := (List.getElem?_eq_some_iff.mp N.x1).1
  refine ⟨?_, noOwn_set N.no, ?_, N.x2, ?_, N.x4, N.x5, ?_, ?_⟩
  · rw [List.set_set]
    exact N.cur.write N.x4 (fun ⟨i, v, q, _⟩ => by
      rcases getset q with ⟨_, z, _⟩ | ⟨_, z⟩
      · cases z
      · exact noOwn_get N.no z) N.x5 N.x3
  · rw [List.getElem?_set_self hl, List.map_append]; rfl
  · rw [upd_same, List.map_append]; rfl
  · refine List.nodup_cons.mpr ⟨fun z => ?_, List.nodup_append.mpr ⟨n2, by simp, fun a ha b hb z => ?_⟩⟩
    · rcases List.mem_append.mp z with z | z
      · exact n1 z
      · exact tA (List.mem_singleton.mp z).symm
    · rw [List.mem_singleton] at hb
      subst hb z
      exact h1 (List.mem_cons_of_mem _ ha)
  · have w : InR K B F (upd H A (.lst (bs.map .ref ++ [.ref t]))) xs bs := N.x7.go (Same.refl _) (fun b hb => upd_ne fun z => n1 (by rw [← z]; exact hb)) fun b hb => (N.x7.at b hb).1
    exact w.snoc ((upd_ne tA).trans h2) h3 h4 h5
theorem NX.put {n j : Nat} {b : Addr} {ys : List Val} {us : List V} {v : Val} {u : V} (N : NX K B iF A bs xs F H e σ) (h1 : xs[n]? = some ys) (h2 : bs[n]? = some b) (h3 : H b = some (.lst us)) (h4 : VRs K F ys us) (h5 : VR K F v u) :
    NX K B iF A bs (xs.set n (ys.set j v)) F (upd H b (.lst (us.set j u))) (e.set iF (.dat (.lst ((xs.map .lst).set n (.lst (ys.set j v)))))) σ := by
  obtain ⟨n1, n2⟩ := List.nodup_cons.mp N.x6
  have hl : iF < e.length := (List.getElem?_eq_some_iff.mp N.x1).1
  have hb := List.mem_of_getElem? h2
  have inn := N.x7.at b hb
  refine ⟨?_, noOwn_set N.no, ?_, N.x2, (upd_ne fun z => n1 (by rw [z]; exact hb)).trans N.x3, N.x4, N.x5, N.x6, N.x7.set n2 h2 (h4.set h5 j)⟩
  · rw [List.set_set]
    exact N.cur.write inn.1 (fun ⟨i, v, q, _⟩ => by
      rcases getset q with ⟨_, z, _⟩ | ⟨_, z⟩
      · cases z
      · exact noOwn_get N.no z) inn.2.1 h3
  · rw [List.getElem?_set_self hl, List.map_set]
theorem NX.start {B : Bg} (C : Cur K B F H e σ) (hi : e[iF]? = some (.own (.lst []))) (hn : noOwnE (e.set iF .un) = true) : ∃ A, NX K B iF A [] [] F H (e.set iF (.dat (.lst []))) σ := by
  have hl : iF < e.length := (List.getElem?_eq_some_iff.mp hi).1
  obtain ⟨o, ho⟩ : ∃ o, σ[iF]? = some o := by
    have := C.rel.len
    exact ⟨σ[iF]'(by omega), List.getElem?_eq_getElem _⟩
  obtain ⟨A, rfl, h1, us, h2, h3⟩ := C.rel.slot iF _ _ hi ho
  cases h3
  refine ⟨A, by rw [List.set_set]; exact C.forget, ?_, by rw [List.getElem?_set_self hl]; rfl, ho, h2, h1, C.own A ⟨iF, _, hi, ho⟩, by simp, .nil⟩
  have : e.set iF (.dat (.lst [])) = (e.set iF .un).set iF (.dat (.lst [])) := by rw [List.set_set]
  rw [this]
  exact noOwn_set hn
end
end Pu
set_option Elab.async false
set_option linter.all false
set_option maxRecDepth 100000
set_option maxHeartbeats 2000000
namespace Pu
open PySem PySem.Spec PyProof.Rows L2
end Pu
set_option Elab.async false
set_option linter.all false
set_option maxRecDepth 100000
namespace Pu
open PySem PySem.Spec PyProof.Rows L2
namespace EE
open PySem.SeqAt MeetsSeq MeetsSeq2 MeetsSeq3 SeqRoads2
end EE
end Pu
set_option Elab.async false
set_option linter.all false
set_option maxRecDepth 100000
set_option maxHeartbeats 2000000
namespace Pu
open PySem PySem.Spec PyProof.Rows L2
theorem se_dct0 {X : Cx} {W : WX} {pos : Pos} : SE X W (.Dict [] [] pos) mDct0 := by
  refine PE.imp pe_dnewK fun σ H Q h => ?_
  obtain ⟨np, F, e, Rl, h⟩ := h
  intro p hp
  obtain ⟨C3, n3, f3, m3⟩ := (Cur.refl (np := np) Rl).grow (o := .dK []) hp
  exact h.ok (r := RV.tmp (.dct [] [])) rfl C3 ⟨p, rfl, f3, ⟨[], upd_same, rfl, .nil⟩, n3, m3⟩
end Pu
set_option Elab.async false
set_option linter.all false
set_option maxRecDepth 100000
set_option maxHeartbeats 2000000
namespace Pu
open PySem PySem.Spec PyProof.Rows L2
theorem dI1_is {ks : List Key} {vs : List Val} (h : dI1 ks vs = true) : ∃ i j, ks = [.inl i] ∧ vs = [.int j] ∧ iOk (.int i) = true ∧ iOk (.int j) = true := by
  unfold dI1 at h
  split at h
  · rename_i i j
    rw [Bool.and_eq_true] at h
    exact ⟨i, j, rfl, rfl, h.1, h.2⟩
  · cases h
mutual
theorem shR_ok : ∀ v : Val, isR v = true → iOk v = true → (toP v).showable = true ∧ (toP v).shown.length ≤ rsz v
  | .non, _, _ => ⟨(show_ok .non rfl rfl).1, (show_ok .non rfl rfl).2.2⟩
  | .bl b, _, _ => ⟨(show_ok (.bl b) rfl rfl).1, (show_ok (.bl b) rfl rfl).2.2⟩
  | .int i, _, h => ⟨(show_ok (.int i) rfl h).1, (show_ok (.int i) rfl h).2.2⟩
  | .str x, d, h => ⟨(show_ok (.str x) d h).1, (show_ok (.str x) d h).2.2⟩
  | .tup xs, d, h => by
    obtain ⟨a, c⟩ := shRs_ok xs (by simpa [isR] using d) (by simpa [iOk] using h)
    refine ⟨by simpa [toP, PyData.showable] using a, ?_⟩
    simp only [toP, PyData.shown, rsz]
    have := tupleText_len_le (PyData.shownAll (toPs xs))
    omega
  | .lst xs, d, h => by
    obtain ⟨a, c⟩ := shRs_ok xs (by simpa [isR] using d) (by simpa [iOk] using h)
    refine ⟨by simpa [toP, PyData.showable] using a, ?_⟩
    simp only [toP, PyData.shown, rsz]
    have := listText_len_le (PyData.shownAll (toPs xs))
    omega
  | .dct ks vs, d, _ => by
    simp only [isR, Bool.or_eq_true] at d
    rcases d with d | d
    · have d' : ks = [] ∧ vs = [] := by simpa using d
      obtain ⟨rfl, rfl⟩ := d'
      refine ⟨by simp [toP, kvI, PyData.showable, PyData.showableKv], ?_⟩
      simp only [toP, kvI, PyData.shown, PyData.shownKv, rsz]
      decide
    · obtain ⟨i, j, rfl, rfl, b1, b2⟩ := dI1_is d
      have q1 := show_ok (.int i) rfl b1
      have q2 := show_ok (.int j) rfl b2
      refine ⟨by simpa [toP, kvI, PyData.showable, PyData.showableKv] using And.intro q1.1 q2.1, ?_⟩
      have l1 := q1.2.2
      have l2 := q2.2.2
      simp only [toP, kvI, PyData.shown, PyData.shownKv, rsz, List.length_cons, List.length_nil] at l1 l2 ⊢
      show (("{" : Str) ++ ((toString i : Str) ++ ": " ++ (toString j : Str)) ++ "}").length ≤ _
      simp only [strLen_append]
      have c1 : ("{" : Str).length = 1 := rfl
      have c2 : (": " : Str).length = 2 := rfl
      have c3 : ("}" : Str).length = 1 := rfl
      rw [c1, c2, c3]
      omega
  | .ty _, d, _ => by simp [isR] at d
  | .glo _, d, _ => by simp [isR] at d
  | .obj _ _ _, d, _ => by simp [isR] at d
theorem shRs_ok : ∀ xs : List Val, isRs xs = true → iOks xs = true → PyData.showableAll (toPs xs) = true ∧ ((PyData.shownAll (toPs xs)).map (·.length)).sum + 2 * (PyData.shownAll (toPs xs)).length ≤ rszs xs
  | [], _, _ => ⟨by simp [toPs, PyData.showableAll], by simp [toPs, PyData.shownAll, rszs]⟩
  | x :: xs, d, h => by
    have d' : isR x = true ∧ isRs xs = true := by simpa [isRs] using d
    have h' : iOk x = true ∧ iOks xs = true := by simpa [iOks] using h
    obtain ⟨a1, c1⟩ := shR_ok x d'.1 h'.1
    obtain ⟨a2, c2⟩ := shRs_ok xs d'.2 h'.2
    refine ⟨by simp [toPs, PyData.showableAll, a1, a2], ?_⟩
    simp only [toPs, PyData.shownAll, List.map_cons, List.sum_cons, List.length_cons, rszs]
    omega
end
def SysAt (K : PySem.W.Frag) : Prop := ∃ o, K.lookup sysModules = some o ∧ o.cls = .type "dict"
theorem SysAt.apart {K : PySem.W.Frag} {g : Heap} {ob : Obj} (sm : SysAt K) (k : K.In g) (h : g.get? sysModules = some ob) (c : ob.cls = .type "list") : False := by
  obtain ⟨o, h1, h2⟩ := sm
  have := k _ _ h1
  rw [h] at this
  cases this
  rw [c] at h2
  injection h2 with z
  exact absurd z (by decide)
section
variable {X : Cx} {pins : List (Addr × Obj)} {σ : L2.St} {H : Hp} {st : Shared}
mutual
theorem Dr.reads (sm : SysAt X.K) (I : Inv X pins σ H st) : ∀ (q : PyData) (u : V) (w : Value), Dr X.K H u q → RelV u w → ∃ ws, Reads st.heap w q ws ∧ sysModules ∉ ws
  | .none, _, _, h, r => by
    cases h
    cases r
    exact ⟨[], .none, nofun⟩
  | .bool b, _, _, h, r => by
    cases h
    cases r
    exact ⟨[], .bool b, nofun⟩
  | .int i, _, _, h, r => by
    cases h
    obtain ⟨z, rfl⟩ := r
    exact ⟨[], .int i z, nofun⟩
  | .str x, _, _, h, r => by
    cases h
    obtain ⟨z, rfl⟩ := r
    exact ⟨[], .str x z, nofun⟩
  | .list ps, _, _, h, r => by
    cases h with
    | lst h1 h2 =>
      cases r
      obtain ⟨ys, ry, ⟨ob, n, g1, g2, _, g3⟩, _⟩ := I.list h1
      obtain ⟨ws, p1, p2⟩ := Drs.reads sm I ps _ ys h2 ry
      refine ⟨_, .list g1 g2 g3 p1, fun m => ?_⟩
      rcases List.mem_cons.mp m with z | z
      · rw [← z] at g1
        exact sm.apart I.kIn g1 g2
      · exact p2 z
  | .tuple ps, _, _, h, r => by
    cases h with
    | tup h1 h2 =>
      cases r
      obtain ⟨ys, ry, ⟨ob, g1, g2, n, g3⟩, _⟩ := I.tuple h1
      obtain ⟨ws, p1, p2⟩ := Drs.reads sm I ps _ ys h2 ry
      exact ⟨_, .tuple g1 g2 g3 p1, p2⟩
  | .dict kvs, _, _, h, r => by
    cases h with
    | @dct t h1 =>
      cases r
      obtain ⟨_, ne, vs, kv, ob, es, ep, g1, g2, g3, _, ps, _⟩ := I.hok t _ h1
      have e1 : vs = [] := List.length_eq_zero_iff.mp kv.length.symm
      subst e1
      have e2 : es.toList = [] := by
        generalize es.toList = l at ps
        cases ps
        rfl
      refine ⟨t :: [] ++ [], .dict (n := ep) g1 g2.1 g3 (by rw [e2]; exact .nil) (by rw [e2]; exact .nil), fun m => ?_⟩
      have : sysModules = t := by simpa using m
      rw [← this] at ne
      cases ne
    | @dct1 t i j h1 =>
      cases r
      obtain ⟨_, ne, vs, kv, ob, es, ep, g1, g2, g3, _, ps, _⟩ := (show ObjOk X.prog X.w H st.heap t (.dK [(.inl i, .int j)]) from I.hok t _ h1)
      cases kv with
      | @cons _ q _ _ e1 e2 =>
        cases e2
        obtain ⟨q1, q2⟩ := q
        obtain ⟨e3, tk, e4⟩ := e1
        have e3 : Sum.inl i = q1 := e3
        have e4 : q2 = Value.int j tk := e4
        subst e3 e4
        generalize hes : es.toList = l at ps
        cases ps with
        | @cons en _ _ _ p1 p2 p3 =>
          cases p3
          obtain ⟨tk2, hk⟩ := Value.isInt_shape (k := i) (v := en.key) p1
          refine ⟨t :: [] ++ [], .dict (n := ep) g1 g2.1 g3 ?_ ?_, fun m => ?_⟩
          · rw [hes]
            show ReadsAll _ [en.key] [.int i] ([] ++ [])
            rw [hk]
            exact .cons (.int _ _) .nil
          · rw [hes]
            show ReadsAll _ [en.val] [.int j] ([] ++ [])
            rw [p2]
            exact .cons (.int _ _) .nil
          · have : sysModules = t := by simpa using m
            rw [← this] at ne
            cases ne
theorem Drs.reads (sm : SysAt X.K) (I : Inv X pins σ H st) : ∀ (ps : List PyData) (us : List V) (ws : List Value), Drs X.K H us ps → Vals us ws → ∃ q, ReadsAll st.heap ws ps q ∧ sysModules ∉ q
  | [], _, _, h, r => by
    cases h
    cases r
    exact ⟨[], .nil, nofun⟩
  | q :: ps, _, _, h, r => by
    cases h with
    | cons h1 h2 =>
      cases r with
      | cons r1 r2 =>
        obtain ⟨w1, p1, n1⟩ := Dr.reads sm I q _ _ h1 r1
        obtain ⟨w2, p2, n2⟩ := Drs.reads sm I ps _ _ h2 r2
        exact ⟨w1 ++ w2, .cons p1 p2, fun m => by
          rcases List.mem_append.mp m with z | z
          · exact n1 z
          · exact n2 z⟩
end
end
section
variable {K : PySem.W.Frag} {F H : Hp}
mutual
theorem VR.dr (s : Same F H) : ∀ (v : Val) (u : V), VR K F v u → isR v = true → Dr K H u (toP v)
  | .non, _, h, _ => by cases h; exact .non
  | .bl b, _, h, _ => by cases h; exact .bl b
  | .int i, _, h, _ => by cases h; exact .int i
  | .str x, _, h, _ => by cases h; exact .str x
  | .tup xs, _, h, d => by
    cases h with
    | tup h1 h2 => exact .tup (sqT_mono s h1) (VRs.dr s xs _ h2 (by simpa [isR] using d))
  | .lst xs, _, h, d => by
    cases h with
    | lst h1 h2 => exact .lst (.inl (rd_mono s h1)) (VRs.dr s xs _ h2 (by simpa [isR] using d))
  | .dct ks vs, _, h, d => by
    cases h with
    | dct h1 h2 h3 =>
      simp only [isR, Bool.or_eq_true] at d
      rcases d with d | d
      · have d' : ks = [] ∧ vs = [] := by simpa using d
        obtain ⟨rfl, rfl⟩ := d'
        cases h3
        exact .dct (s _ _ h1)
      · obtain ⟨i, j, rfl, rfl, _, _⟩ := dI1_is d
        cases h3 with
        | cons a1 a2 =>
          cases a2
          cases a1
          exact .dct1 (s _ _ h1)
  | .ty _, _, _, d => by simp [isR] at d
  | .glo _, _, _, d => by simp [isR] at d
  | .obj _ _ _, _, _, d => by simp [isR] at d
theorem VRs.dr (s : Same F H) : ∀ (xs : List Val) (us : List V), VRs K F xs us → isRs xs = true → Drs K H us (toPs xs)
  | [], _, h, _ => by cases h; exact .nil
  | x :: xs, _, h, d => by
    have h' : isR x = true ∧ isRs xs = true := by simpa [isRs] using d
    cases h with
    | cons h1 h2 => exact .cons (VR.dr s x _ h1 h'.1) (VRs.dr s xs _ h2 h'.2)
end
theorem RdR.dr {v : Val} {u : V} (s : Same F H) (h : RdR K F H v u) (d : isR v = true) : Dr K H u (toP v) := by
  rcases h with h | ⟨t, e, h⟩
  · exact VR.dr s v u h d
  · subst e
    cases v with
    | lst xs =>
      obtain ⟨us, h1, h2⟩ := h
      exact .lst (.inl (.inl h1)) (VRs.dr s xs _ h2 (by simpa [isR] using d))
    | obj _ _ _ => simp [isR] at d
    | dct ks vs =>
      obtain ⟨us, h1, h2, h3⟩ := h
      simp only [isR, Bool.or_eq_true] at d
      rcases d with d | d
      · have d' : ks = [] ∧ vs = [] := by simpa using d
        obtain ⟨rfl, rfl⟩ := d'
        exact .dct h1
      · obtain ⟨i, j, rfl, rfl, _, _⟩ := dI1_is d
        cases h3 with
        | cons a1 a2 =>
          cases a2
          cases a1
          exact .dct1 h1
    | _ => exact h.elim
end
def rReprR (K : PySem.W.Frag) : List V → Hp → VK → Prop := fun xs H Q => ∃ x q, xs = [x] ∧ Dr K H x q ∧ q.showable = true ∧ q.depth ≤ 60 ∧ q.shown.length ≤ sizeLine ∧ Q (.str q.shown) H
theorem c_reprR {X : Cx} {k : Nat} (sm : SysAt X.K) (hr : Room k X.A) (hG : X.A.guards = some []) : CallR X (.builtin "repr") (rReprR X.K) := by
  intro pins st σ H xs us Q I rs h
  obtain ⟨x, q, rfl, hd, h1, h3, h4, good⟩ := h
  obtain ⟨u, rfl, ru⟩ := vals1 rs
  obtain ⟨ws, rd, apart⟩ := Dr.reads sm I q x u hd ru
  have un := hr.units
  cases hd with
  | non =>
    cases ru
    exact PySem.P.repr_of_none ⟨V.str _, H, I.tok _, ⟨_, rfl⟩, good⟩
  | bl b =>
    cases ru
    exact PySem.P.repr_of_bool ⟨V.str _, H, I.tok _, ⟨_, by cases b <;> rfl⟩, good⟩
  | int i =>
    obtain ⟨z, rfl⟩ := ru
    exact PySem.P.repr_of_int (by simpa [PyData.showable] using h1) ⟨V.str _, H, I.tok _, ⟨_, rfl⟩, good⟩
  | str y =>
    obtain ⟨z, rfl⟩ := ru
    exact PySem.P.repr_of_str ⟨V.str _, H, I.tok _, ⟨_, rfl⟩, good⟩ h4
  | lst hs ha =>
    cases ru
    exact repr_of_reads' rd h1 (fun _ => apart) hG (by omega) (fun _ _ e => e) (fun g u tk kk => ⟨V.str _, H, I.kept kk, ⟨_, rfl⟩, good⟩) h4
  | tup hs ha =>
    cases ru
    exact repr_of_reads' rd h1 (fun _ => apart) hG (by omega) (fun _ _ e => e) (fun g u tk kk => ⟨V.str _, H, I.kept kk, ⟨_, rfl⟩, good⟩) h4
  | dct hs =>
    cases ru
    exact repr_of_reads' rd h1 (fun _ => apart) hG (by omega) (fun _ _ e => e) (fun g u tk kk => ⟨V.str _, H, I.kept kk, ⟨_, rfl⟩, good⟩) h4
  | dct1 hs =>
    cases ru
    exact repr_of_reads' rd h1 (fun _ => apart) hG (by omega) (fun _ _ e => e) (fun g u tk kk => ⟨V.str _, H, I.kept kk, ⟨_, rfl⟩, good⟩) h4
theorem v_reprR {K : PySem.W.Frag} {W : WX} : FnV K W fReprR (rReprR K) := by
  intro B F H e σ vs us Q C r h
  unfold fReprR at h
  split at h
  · rename_i v
    obtain ⟨u, rfl, q⟩ := r.one
    by_cases hh : rkOk v = true
    · rw [if_pos hh] at h
      simp only [rkOk, Bool.and_eq_true, decide_eq_true_eq] at hh
      obtain ⟨⟨⟨h1, h2⟩, h3⟩, h4⟩ := hh
      obtain ⟨a, c⟩ := shR_ok v h1 h3
      exact ⟨u, toP v, rfl, q.dr C.rel.sub h1, a, by rw [depth_of]; exact h2, by rw [sizeLine_eq]; omega, h.ok rfl C (VR.str _)⟩
    · rw [if_neg hh] at h
      exact h.elim
  · exact h.elim
theorem sysB_ok {K : PySem.W.Frag} (h : sysB K = true) : SysAt K := by
  unfold sysB at h
  split at h
  · rename_i o e
    split at h
    · rename_i n c
      exact ⟨o, e, by rw [c, eq_of_beq h]⟩
    · cases h
  · cases h
end Pu
set_option Elab.async false
set_option linter.all false
set_option maxRecDepth 100000
set_option maxHeartbeats 2000000
namespace Pu
open PySem PySem.Spec PyProof.Rows L2
end Pu
set_option Elab.async false
set_option linter.all false
set_option maxRecDepth 100000
set_option maxHeartbeats 2000000
namespace Pu
open PySem PySem.Spec PyProof.Rows L2
end Pu
set_option Elab.async false
set_option linter.all false
set_option maxRecDepth 100000
set_option maxHeartbeats 2000000
namespace Pu
open PySem PySem.Spec PyProof.Rows L2
section
variable {K : PySem.W.Frag} {W : WX}
theorem v_intS : FnV K W fIntS (fun xs H Q => ∃ a n, xs = [.str a] ∧ PySem.intText? a = some n ∧ a.length ≤ 640 ∧ Q (.int n) H) := by
  intro B F H e σ vs us Q C r h
  unfold fIntS at h
  split at h
  · rename_i a
    obtain ⟨u, rfl, q⟩ := r.one
    split at h
    · rename_i n hn
      by_cases hi : a.length ≤ 640
      · rw [if_pos hi] at h
        exact ⟨a, n, by rw [q.str], hn, hi, h.ok rfl C (VR.int _)⟩
      · rw [if_neg hi] at h
        exact h.elim
    · exact h.elim
  · exact h.elim
theorem v_inS : OpV K W oInS (fun x y H Q => ∃ i j, x = .str i ∧ y = .str j ∧ Q (.bl (!(Builtin.Str.occurrences j i 0 j.length 1).isEmpty)) H) := by
  intro B F H e σ v w x y Q C rv rw_ h
  unfold oInS at h
  split at h
  · exact ⟨_, _, rv.str, rw_.str, h.ok rfl C (VR.bl _)⟩
  · exact h.elim
end
section
variable {X : Cx} {W : WX} {a tg : Expr} {ma : M RV}
theorem si_str (ha : SE X W a ma) : SI X W tg a (mItemsS ma) := by
  refine PI.imp (pi_str ha) fun σ H R h => ?_
  obtain ⟨np, F, e, Rl, h⟩ := h
  refine use (R1 := RR X.K) (Cur.refl Rl) h fun r e1 F1 H1 x C1 q1 _ h1 => ?_
  obtain ⟨v, rv, h2⟩ := At.rd C1.rel q1 h1
  split at h2
  · rename_i z
    refine ⟨z, rv.str, h2.ok rfl C1 ⟨fun _ => True, fun i H v H' => H' = H ∧ ∃ c, z.cps[i]? = some c ∧ v = .str ⟨#[c]⟩, ?_, fun _ _ => trivial, ?_⟩⟩
    · have := walk_str (z := z)
      unfold signs
      rw [List.length_map, Array.length_toList]
      exact this
    · rintro i v B1 F2 H2 e2 σ2 x H' hv C2 _ ⟨rfl, c, hc, rfl⟩
      refine ⟨F2, C2, Same.refl _, ?_⟩
      unfold signs at hv
      rw [List.getElem?_map, Array.getElem?_toList, hc] at hv
      cases hv
      exact VR.str _
  · exact h2.elim
end
theorem strsV_of {K : PySem.W.Frag} {F : Hp} : ∀ {vs : List Val} {us : List V} {xs : List Str}, VRs K F vs us → strs? vs = some xs → us = xs.map V.str
  | [], _, _, h, q => by cases h; cases q; rfl
  | v :: vs, _, xs, .cons a b, q => by
    cases v with
    | str i =>
      unfold strs? at q
      cases z : strs? vs with
      | none => rw [z] at q; cases q
      | some is =>
        rw [z] at q
        cases q
        cases a
        rw [strsV_of b z]
        rfl
    | _ => cases q
section
variable {X : Cx} {W : WX} {o e : Expr} {mo ma : M RV} {apos cpos : Pos}
theorem se_split (ho : SE X W o mo) (ha : SE X W e ma) (hbase : attributeBase o "split" X.env (eval o X.env) = eval o X.env := by rfl)
    (hfew : ((backTo cpos (starEach [e] X.env)).all (fun x => !x.1) && (backToKw cpos (keywordEach [] X.env)).all (fun x => x.1.isSome) && decide ([e].length + ([] : List Keyword).length + (if ([] : List Keyword).isEmpty then 0 else 1) < 30)) = true := by rfl)
    (hline : (apos.endLine == cpos.line) = true := by rfl) (hs : starEach [e] X.env = (false, eval e X.env) :: starEach [] X.env := by rfl) (hplain : (backTo cpos (starEach [] X.env)).any (·.1) = false := by rfl) :
    SE X W (.Call (.Attribute o "split" apos) [e] [] cpos) (mSplit mo ma) := by
  refine PE.imp (pe_bm PySem.F.plainAttrs_str PySem.F.slot_str_split PySem.F.type_str_split mt_split ho (pa_cons ha pa_nil hs) hbase hfew hline hs hplain) fun σ H Q h => ?_
  obtain ⟨np, F, e, R, h⟩ := h
  refine use (R1 := RR X.K) (Cur.refl R) h fun r e1 F1 H1 u C1 q1 _ h1 => ?_
  obtain ⟨v0, rv, h2⟩ := At.rd C1.rel q1 h1
  cases v0 with
  | str a =>
    obtain rfl := rv.str
    refine ⟨rfl, ?_⟩
    refine use (R1 := RR X.K) C1 h2 fun s e2 F2 H2 y C2 q2 _ h3 => ?_
    obtain ⟨w0, rw_, h4⟩ := At.rd C2.rel q2 h3
    cases w0 with
    | str b =>
      obtain rfl := rw_.str
      dsimp only at h4
      by_cases c : (b.length == 0) = false ∧ a.length + 2 ≤ sizeLine
      · rw [if_pos c] at h4
        refine ⟨a, b, rfl, rfl, c.1, c.2, fun p hp => ?_⟩
        obtain ⟨C3, n3, f3, m3⟩ := C2.grow (o := .lst ((Txt.split a b).map V.str)) hp
        refine h4.ok (r := RV.tmp (.lst (spl a b))) rfl C3 ⟨p, rfl, f3, ⟨_, upd_same, ?_⟩, n3, m3⟩
        unfold spl
        generalize Txt.split a b = L
        induction L with
        | nil => exact .nil
        | cons x r ih => exact .cons (VR.str x) ih
      · rw [if_neg c] at h4
        exact h4.elim
    | _ => exact h4.elim
  | _ => exact h2.elim
theorem se_join (ho : SE X W o mo) (ha : SE X W e ma) (hbase : attributeBase o "join" X.env (eval o X.env) = eval o X.env := by rfl)
    (hfew : ((backTo cpos (starEach [e] X.env)).all (fun x => !x.1) && (backToKw cpos (keywordEach [] X.env)).all (fun x => x.1.isSome) && decide ([e].length + ([] : List Keyword).length + (if ([] : List Keyword).isEmpty then 0 else 1) < 30)) = true := by rfl)
    (hline : (apos.endLine == cpos.line) = true := by rfl) (hs : starEach [e] X.env = (false, eval e X.env) :: starEach [] X.env := by rfl) (hplain : (backTo cpos (starEach [] X.env)).any (·.1) = false := by rfl) :
    SE X W (.Call (.Attribute o "join" apos) [e] [] cpos) (mJoin mo ma) := by
  refine PE.imp (pe_bm PySem.F.plainAttrs_str PySem.F.slot_str_join PySem.F.type_str_join mt_join ho (pa_cons ha pa_nil hs) hbase hfew hline hs hplain) fun σ H Q h => ?_
  obtain ⟨np, F, e, R, h⟩ := h
  refine use (R1 := RR X.K) (Cur.refl R) h fun r e1 F1 H1 u C1 q1 _ h1 => ?_
  obtain ⟨v0, rv, h2⟩ := At.rd C1.rel q1 h1
  cases v0 with
  | str a =>
    obtain rfl := rv.str
    refine ⟨rfl, ?_⟩
    refine use (R1 := RR X.K) C1 h2 fun s e2 F2 H2 y C2 q2 _ h3 => ?_
    obtain ⟨w0, rw_, h4⟩ := At.rd C2.rel q2 h3
    cases w0 with
    | lst vs =>
      dsimp only at h4
      cases hz : strs? vs with
      | none => rw [hz] at h4; exact h4.elim
      | some ys =>
        rw [hz] at h4
        dsimp only at h4
        by_cases c : joinOk a ys
        · rw [if_pos c] at h4
          obtain ⟨p, us, rfl, h5, h6⟩ := rw_.lst C2.rel.sub
          obtain rfl := strsV_of h6 hz
          exact ⟨a, p, ys, rfl, rfl, .inl (.inl h5), c, h4.ok rfl C2 (VR.str _)⟩
        · rw [if_neg c] at h4
          exact h4.elim
    | tup vs =>
      dsimp only at h4
      cases hz : strs? vs with
      | none => rw [hz] at h4; exact h4.elim
      | some ys =>
        rw [hz] at h4
        dsimp only at h4
        by_cases c : joinOk a ys
        · rw [if_pos c] at h4
          obtain ⟨p, us, rfl, h5, h6⟩ := rw_.tup C2.rel.sub
          obtain rfl := strsV_of h6 hz
          exact ⟨a, p, ys, rfl, rfl, .inr h5, c, h4.ok rfl C2 (VR.str _)⟩
        · rw [if_neg c] at h4
          exact h4.elim
    | _ => exact h4.elim
  | _ => exact h2.elim
end
end Pu
set_option Elab.async false
set_option linter.all false
set_option maxRecDepth 100000
set_option maxHeartbeats 2000000
namespace Pu
open PySem PySem.Spec PyProof.Rows L2
section
variable {X : Cx} {k : Nat} {f C p0 : Addr} {mc : Value} {fd : FuncData} {ps : List Str} {sp : Sp} {W : WX} {x m : Str} {p pos apos : Pos} {e o : Expr} {es : List Expr} {ta : TE} {t : TA}
def cmG (C : Addr) (sp : Sp) (W : WX) (ta : TE) (t : TA) : TE := fun σ H Q => ta σ H fun y H1 => y = .ref C ∧ t σ H1 fun vs H2 => sp (.ref C :: vs) H2 Q (WE W σ)
theorem pg_cmeth {pl : Sem Bool} (he : PE X o ta) (r : ClX.CRead X.K C mc) (c : ClX.CMet X.K C mc m p0 f) (F : FnG X.prog X.w X.K X.mg X.base k f fd ps sp) (hr : Room k X.A) (hG : X.A.guards = some []) (tk : L2N.Takes X W) (hb : Binds X.K fd ps []) (ha : PA X (e :: es) t)
    (hst : starEach (e :: es) X.env = (false, eval e X.env) :: starEach es X.env := by rfl) (hpl : (backTo pos (starEach es X.env)).any (·.1) = false := by rfl)
    (ht : eval (.Call (.Attribute o m apos) (e :: es) [] pos) X.env = (do
      let ov ← eval o X.env
      standAt apos.atName
      let (f, first) ← holding [ov] (getMethod ov m pl)
      callWith pos f first (backTo pos (starEach (e :: es) X.env)) (backToKw pos (keywordEach [] X.env))) := by rfl) :
    PE X (.Call (.Attribute o m apos) (e :: es) [] pos) (cmG C sp W ta t) := by
  refine ⟨fun pins s σ H Q I h => ?_⟩
  refine PySem.W.methodCall_KW (pl := pl) (thn (he.run pins s σ H _ I h) fun u s1 ⟨x, H1, I1, rx, ex, q⟩ => ?_) ht
  subst ex
  obtain rfl : u = Value.ref C := rx
  refine ClX.getmethcm_ok I1 r c fun s2 I2 => ?_
  refine ClX.callwith_cm I2 (ClX.base_none I1 (Nat.le_refl _)) c.fi (thn (ha.run pos _ s2 σ H1 _ I2 q) fun us s3 ⟨vs, H2, I3, rv, q2⟩ => ⟨⟨ClX.pin_at I3, I3.kIn⟩, ?_⟩) hst hpl
  have rd : Vals (.ref C :: vs) (.ref C :: us) := .cons rfl rv
  have bt := hb s3 (.ref C :: us) I3.kIn (by
    have := rd.length.symm.trans (F.many _ _ _ _ q2)
    rw [List.append_nil]
    exact this)
  rw [List.append_nil] at bt
  have z : wpAny (model X.prog X.w) X.A (call (.ref s1.heap.objs.size) us) (EP X ((s1.heap.objs.size, PySem.W.methodObj (.ref f) (.ref C)) :: pins) σ Q) X.xe s3 :=
    wpAny_call (PySem.W.method_call (ClX.pin_at I3) (codeAny_mono (F.goes X.A X.stack s3 H2 ⟨.ref C :: us, []⟩ (.ref C :: us) (.ref C :: vs) Q (WE W σ) hr hG I3.env0 bt rd q2) fun res s' got => by
      have z := end_of tk I3 got
      cases res with
      | error z' => exact z
      | ok fl => cases fl with
        | ret u => exact z
        | next => exact z.elim
        | brk => exact z.elim
        | cont => exact z.elim))
  exact thn z fun _ _ y => ClX.unpinE y
theorem pg_makeV (Mk : Mk X.K C f) (he : PE X (.Name x p) ta) (F : FnG X.prog X.w X.K X.mg X.base k f fd ps sp) (hr : Room (k + 1) X.A) (hG : X.A.guards = some []) (tk : L2N.Takes X W) (hb : Binds X.K fd ps []) (ha : PA X (e :: es) t)
    (n2 : starEach (e :: es) X.env = (false, eval e X.env) :: starEach es X.env := by rfl) (n3 : (backTo pos (starEach es X.env)).any (·.1) = false := by rfl) :
    PE X (.Call (.Name x p) (e :: es) [] pos) (fun σ H Q => ta σ H fun y H1 => y = .ref C ∧ nG C sp W [] t σ H1 Q) := by
  constructor
  intro pins s σ H Q I h
  refine wpAny_Call_Name_kw (thn (he.run pins s σ H _ I h) fun u s1 ⟨y, H1, I1, r1, ey, q1⟩ => ?_)
  subst ey
  obtain rfl : u = Value.ref C := r1
  refine PySem.W.callWith_K (h₀ := X.base) I1.ok.mod.kin Mk.kp (thn (ha.run pos pins s1 σ H1 _ I1 q1) ?_) n2 n3
  rintro us s2 ⟨vs, H2, I2, r, q⟩
  exact ⟨I2.kIn, goMake Mk F hr hG tk hb .nil I2 r q⟩
end
structure CmOf (K : PySem.W.Frag) (C m : Str) : Prop where
  r : ClX.CRead K (He.ga K C) (.type "type")
  c : ClX.CMet K (He.ga K C) (.type "type") m (He.ma K (He.ga K C) m) (gC K C m)
theorem cm_ok {K : PySem.W.Frag} {C m : Str} (h : cmB K C m = true) : CmOf K C m := by
  unfold cmB at h
  simp only [Bool.and_eq_true] at h
  obtain ⟨h1, h2, h3, h4, h5⟩ := h
  refine ⟨⟨h1, He.eqO_ok h2⟩, ?_, ?_, h5⟩
  · split at h3
    · rename_i b p c e
      simp only [Bool.and_eq_true, beq_iff_eq] at h3
      obtain ⟨rfl, rfl, rfl⟩ := h3
      exact e
    · cases h3
  · unfold gC
    split at h4
    · rename_i a rest e
      rw [e]
      exact ⟨rest, rfl⟩
    · cases h4
section
variable {X : Cx} {W : WX} {k n : Nat} {d : He5.DefA} {ps : List Str} {x m : Str} {p pos apos : Pos} {e o : Expr} {es : List Expr} {mf mo : M RV} {mr : M (List RV)}
theorem se_cmethD {pl : Sem Bool} {C : Str} (ms : List Bool) (ho : SE X W o mo) (c : CmOf X.K C m) (ha0 : d.at_ X.K = gC X.K C m) (B : FnB X.prog X.w X.K X.mg X.base k d ps n mf) (bd : BindD d ps) (G : Good X k W) (ha : SA X W (e :: es) mr) (hn : ms.length = n := by rfl)
    (n2 : starEach (e :: es) X.env = (false, eval e X.env) :: starEach es X.env := by rfl) (n3 : (backTo pos (starEach es X.env)).any (·.1) = false := by rfl)
    (look : eval (.Call (.Attribute o m apos) (e :: es) [] pos) X.env = (do
      let ov ← eval o X.env
      standAt apos.atName
      let (f, first) ← holding [ov] (getMethod ov m pl)
      callWith pos f first (backTo pos (starEach (e :: es) X.env)) (backToKw pos (keywordEach [] X.env))) := by rfl) : SE X W (.Call (.Attribute o m apos) (e :: es) [] pos) (mCM C ms mf mo mr) := by
  obtain ⟨fd, F, hb, kp⟩ := B.parts bd
  rw [ha0] at F
  refine PE.imp (pg_cmeth ho c.r c.c F G.room G.gd G.tk hb ha n2 n3 look) fun σ H Q h => ?_
  obtain ⟨np, F, e, R, h⟩ := h
  refine use (R1 := RR X.K) (Cur.refl R) h fun r e1 F1 H1 u C1 q1 _ h1 => ?_
  obtain ⟨v0, rv, h2⟩ := At.rd C1.rel q1 h1
  cases v0 with
  | glo y =>
    dsimp only at h2
    by_cases c : y = C
    · rw [if_pos c] at h2
      subst c
      obtain rfl := rv.glo
      refine ⟨rfl, ?_⟩
      refine use (R1 := RRs X.K) C1 h2 fun rs e2 F2 H2 us C2 q2 _ h3 => ?_
      have q3 : RRs X.K _ F2 H2 e2 σ (.dat (.glo y) :: rs) (.ref (He.ga X.K y) :: us) := .cons (show VR X.K F2 (.glo y) _ from VR.glo y) (fun v z => by cases z) q2
      exact call_ok C2 q3 h3 hn
    · rw [if_neg c] at h2
      exact h2.elim
  | _ => exact h2.elim
theorem se_makeVD {C : Str} (ms : List Bool) (Mk : Mk X.K (He.ga X.K C) (d.at_ X.K)) (ho : SE X W (.Name x p) mo) (B : FnB X.prog X.w X.K X.mg X.base k d ps n mf) (bd : BindD d ps) (G : Good X (k + 1) W) (ha : SA X W (e :: es) mr) (hn : ms.length + 1 = n := by rfl)
    (n2 : starEach (e :: es) X.env = (false, eval e X.env) :: starEach es X.env := by rfl) (n3 : (backTo pos (starEach es X.env)).any (·.1) = false := by rfl) : SE X W (.Call (.Name x p) (e :: es) [] pos) (mMakeV C ms mf mo mr) := by
  obtain ⟨fd, F, hb, kp⟩ := B.parts bd
  refine PE.imp (pg_makeV Mk ho F G.room G.gd G.tk hb ha n2 n3) fun σ H Q h => ?_
  obtain ⟨np, F, e, R, h⟩ := h
  refine use (R1 := RR X.K) (Cur.refl R) h fun r e1 F1 H1 u C1 q1 _ h1 => ?_
  obtain ⟨v0, rv, h2⟩ := At.rd C1.rel q1 h1
  cases v0 with
  | glo y =>
    dsimp only at h2
    by_cases c : y = C
    · rw [if_pos c] at h2
      subst c
      obtain rfl := rv.glo
      refine ⟨rfl, ?_⟩
      refine use (R1 := RRs X.K) C1 h2 fun rs e2 F2 H2 us C2 q2 _ h3 y dx hy hx ne => ?_
      rw [List.append_nil]
      exact make_ok C2 q2 hy hx ne hn h3
    · rw [if_neg c] at h2
      exact h2.elim
  | _ => exact h2.elim
end
end Pu
set_option Elab.async false
set_option linter.all false
set_option maxRecDepth 100000
set_option maxHeartbeats 2000000
namespace Pu
open PySem PySem.Spec PyProof.Rows L2
def lookI (kvs : List (Str × Int)) (z : Str) : Option Int := (kvs.find? fun q => q.1 == z).map (·.2)
inductive SJ (X : Cx) (W : WX) : List Expr → List (M RV) → Prop where
  | nil : SJ X W [] []
  | cons {e : Expr} {m : M RV} {es : List Expr} {ms : List (M RV)} (h : SE X W e m) (r : SJ X W es ms) : SJ X W (e :: es) (m :: ms)
section
variable {X : Cx} {W : WX} {e : Expr} {m : M RV} {es : List Expr} {ms : List (M RV)} {pos : Pos}
theorem se_fmt (he : SE X W e m) : SE X W (.FormattedValue e (-1) none pos) (mFmt m) := by
  refine PE.imp (pe_fmt he) fun σ H Q h => ?_
  obtain ⟨np, F, ev, R, h⟩ := h
  refine use (R1 := RR X.K) (Cur.refl R) h fun r e1 F1 H1 u C1 q1 _ h1 => ?_
  obtain ⟨v0, rv, h2⟩ := At.rd C1.rel q1 h1
  cases v0 with
  | str y =>
    obtain rfl := rv.str
    by_cases c : y.length ≤ sizeLine
    · refine .inl ⟨y, rfl, c, h2.ok (r := RV.dat (.str y)) (e' := e1) ?_ C1 (VR.str y)⟩
      unfold M.bind fmtV
      simp only [c, if_true]
      rfl
    · unfold At M.bind fmtV at h2
      simp only [c, if_false] at h2
  | int i =>
    obtain rfl := rv.int
    by_cases c : i.natAbs.log2 < 1920
    · refine .inr ⟨i, rfl, c, h2.ok (r := RV.dat (.str (toString i))) (e' := e1) ?_ C1 (VR.str _)⟩
      unfold M.bind fmtV
      simp only [c, if_true]
      rfl
    · unfold At M.bind fmtV at h2
      simp only [c, if_false] at h2
  | _ => exact h2.elim
theorem pj_of : ∀ {es : List Expr} {ms : List (M RV)}, SJ X W es ms → PJ X es (ms.map fun m => tE X.K W m)
  | _, _, .nil => .nil
  | _, _, .cons h r => .cons h (pj_of r)
theorem js_of {K : PySem.W.Frag} : ∀ {ms : List (M RV)} {acc : Str} {B : Bg} {F H : Hp} {ev : Ev} {σ : Sig} {Q : Str → Hp → Prop}, Cur K B F H ev σ → At K W (fun _ _ _ _ _ (b c : Str) => b = c) B (mJs ms acc) F ev σ H Q → tJs (ms.map fun m => tE K W m) acc σ H Q
  | [], acc, B, F, H, ev, σ, Q, C, h => h.ok rfl C rfl
  | m :: ms, acc, B, F, H, ev, σ, Q, C, h => by
    show tE K W m σ H _
    refine use (R1 := RR K) C h fun r e1 F1 H1 u C1 q1 _ h1 => ?_
    obtain ⟨v0, rv, h2⟩ := At.rd C1.rel q1 h1
    cases v0 with
    | str y =>
      obtain rfl := rv.str
      dsimp only at h2
      by_cases c : (acc ++ y).length ≤ sizeLine
      · rw [if_pos c] at h2
        exact ⟨y, rfl, c, js_of C1 h2⟩
      · rw [if_neg c] at h2
        exact h2.elim
    | _ => exact h2.elim
theorem se_fs {v1 v2 : Expr} {rest : List Expr} (h : SJ X W (v1 :: v2 :: rest) ms) : SE X W (.JoinedStr (v1 :: v2 :: rest) pos) (mFs ms) := by
  refine PE.imp (pe_joined (pj_of h)) fun σ H Q h => ?_
  obtain ⟨np, F, ev, R, h⟩ := h
  refine js_of (Cur.refl (np := np) R) ?_
  unfold mFs At M.bind at h
  unfold At
  cases z : mJs ms Str.empty ev with
  | bad => rw [z] at h; exact h
  | rs x e' => rw [z] at h; exact h
  | ok y e' =>
    rw [z] at h
    intro F' H' u C q
    subst q
    exact h F' H' (.str y) C (VR.str y)
end
end Pu
set_option Elab.async false
set_option linter.all false
set_option maxRecDepth 100000
set_option maxHeartbeats 2000000
namespace Pu
open PySem PySem.Spec PyProof.Rows L2
def wAny (K : PySem.W.Frag) (cs : List Value) (i : Nat) (ts : Addr → Value → Option Addr → TS) (D : Ends) : WX := fun cls d σ H =>
  PySem.W.exmAny K cls cs = some true ∧ ∀ a, H a = none → ts a cls d { nx := fun τ G => D.nx (τ.set i none) G, rt := D.rt, bk := fun τ G => D.bk (τ.set i none) G, ct := fun τ G => D.ct (τ.set i none) G } (σ.set i (some (.ref a))) H
theorem fly_more {B h h' : Heap} {l : List Env} {a : Addr} {Z : Obj → Prop} (f : HandSPX.FlyingZ B l a Z h) (k : ∀ b o, h.get? b = some o → h'.get? b = some o) : HandSPX.FlyingZ B l a Z h' := by
  obtain ⟨f1, f2, f3, oe, vs, T, oT, ts, g1, g2, g3, g4, g5, g6, g7, g8, g9⟩ := f
  exact ⟨fun b o e => k b o (f1 b o e), f2, Heap.FunFrames.of_keeps (fun b o e _ => ⟨o, k b o e, rfl⟩) f3, oe, vs, T, oT, ts, k _ _ g1, g2, g3, g4, g5, g6, k _ _ g7, g8, g9⟩
section
variable {X : Cx} {x1 x2 x3 n : Str} {c1 c2 c3 : Value} {i ct : Nat} {body suite : List Stmt} {b₀ : Stmt} {p1 p2 p3 p4 pos pos' : Pos} {tb : WX → TS} {ts : Addr → Value → Option Addr → TS}
theorem names_ok {Y : Cx} {pins : List (Addr × Obj)} {σ : Sig} {H : Hp} {s : Shared} {x : Str} {c : Value} {p : Pos} {Q : Value → Shared → Prop} {E : Value → Shared → Prop} (I : Inv Y pins σ H s) (h : Names Y x c) (q : Q c s) : wpAny (model Y.prog Y.w) Y.A (eval (.Name x p) Y.env) Q E s := by
  obtain ⟨gl, nd, at_ | ⟨fr, bo, nn⟩⟩ := h
  · exact ld_glob I gl at_ q nd
  · exact ld_blt I gl fr bo q nn nd
theorem ps_try3 (hs : X.stack = X.env :: X.outer) (hf : X.env.frame = some X.env.locals) (hN : X.N.Nodup) (hi : X.N[i]? = some n) (hl : X.env.kindOf n = some .local) (n1 : Names X x1 c1) (n2 : Names X x2 c2) (n3 : Names X x3 c3)
    (hb : ∀ (W : WX) (pn : List (Addr × Obj)) (xe : Value → Shared → Prop), L2N.Takes (X.tr pn xe) W → PassesOwn (model X.prog X.w) X.A X.env xe → PSs (X.tr pn xe) body (tb W))
    (hsu : ∀ (a : Addr) (oe : Obj) (cls : Value) (d : Option Addr) (pn : List (Addr × Obj)), L2N.Zn cls d oe → (∃ vs, oe.data = .fields vs) → PSs (X.suite a ((a, oe) :: pn)) (b₀ :: suite) (ts a cls d))
    (st : ∀ (Y : Cx), Y.env = X.env → (starEach [.Name x1 p1, .Name x2 p2, .Name x3 p3] Y.env) = [(false, eval (.Name x1 p1) Y.env), (false, eval (.Name x2 p2) Y.env), (false, eval (.Name x3 p3) Y.env)] := by intro _ _; rfl) :
    PS X (.Try body [.ExceptHandler (some (.Tuple [.Name x1 p1, .Name x2 p2, .Name x3 p3] ct p4)) (some n) (b₀ :: suite) pos'] [] [] pos) (fun D σ H => tb (wAny X.K [c1, c2, c3] i ts D) D σ H) := by
  constructor
  intro pins s σ H D I h
  have ok := I.ok
  have frames : X.A.frames = some (X.env :: X.outer) := by rw [ok.frames, hs]
  let hd : ExceptHandler := .ExceptHandler (some (.Tuple [.Name x1 p1, .Name x2 p2, .Name x3 p3] ct p4)) (some n) (b₀ :: suite) pos'
  let caught : Value → Shared → Prop := fun e r1 => wpAny (model X.prog X.w) X.A (noteFrame e X.env) (fun _ r2 => wpAny (model X.prog X.w) X.A (setFlight e none) (fun _ r3 => wpAny (model X.prog X.w) X.A (handleBy e X.env [hd]) (SP X pins D) X.xe r3) X.xe r2) X.xe r1
  have takes : L2N.Takes (X.tr (X.pn ++ pins) caught) (wAny X.K [c1, c2, c3] i ts D) := by
    rintro _ r ⟨a, B, rI, pins', τ, G, cls, d, rfl, J0, nb, up, sky, na, os, ag, hm, hsu'⟩
    have J : Inv X pins τ G rI := J0.ofTry ok
    have sky' : Sky B (X.env :: X.outer) a (L2N.Zn cls d) X.env.locals r.heap := hs ▸ sky
    refine L2N.Sky.land L2N.Zn.steady frames hf sky' fun g fl g_up => ?_
    have Jg : Inv X pins τ G { r with heap := g } := J.landed nb fl.1 (up.trans g_up) os ag
    obtain ⟨oe, vs, ge, gz, gd⟩ := fl.there
    have away : a ∉ frs (X.env :: X.outer) := fun m => by
      obtain ⟨_, o', e', hnf⟩ := fl.2.2.1.mem m
      have := e'.symm.trans ge
      cases this
      exact hnf _ gd
    have nL : a ≠ X.env.locals := fun z => away (List.mem_filterMap.mpr ⟨X.env, List.mem_cons_self, by rw [hf, z]⟩)
    have nF : a ∉ X.fs := fun m => by
      obtain ⟨e, m1, m2⟩ := List.mem_filterMap.mp m
      exact away (List.mem_filterMap.mpr ⟨e, List.mem_cons_of_mem _ m1, m2⟩)
    have Sg := Jg.suite ge gd na nL nF
    have nm : ∀ {x : Str} {c : Value}, Names X x c → Names (X.suite a ((a, oe) :: (X.pn ++ pins))) x c := fun z => z
    refine wpAny_handleBy_cons (codeAny_handlers_test ?_) (by intro q; cases q)
    -- the tuple of the classes: a new object that nobody tracks
    have tup : ∀ {Q : Value → Shared → Prop} {E : Value → Shared → Prop}, Q (.ref g.objs.size) { r with heap := g.push { cls := .type "tuple", data := .seq [c1, c2, c3].toArray } } →
        wpAny (model X.prog X.w) (X.A.mark (some (.ref a))) (eval (.Tuple [.Name x1 p1, .Name x2 p2, .Name x3 p3] ct p4) X.env) Q E { r with heap := g } := fun {Q E} q => by
      refine wpAny_Tuple_spliced ?_
      rw [st X rfl]
      refine Calls.spliced_cons (names_ok (Y := X.suite a ((a, oe) :: (X.pn ++ pins))) Sg (nm n1) ?_)
      refine Calls.spliced_cons (names_ok (Y := X.suite a ((a, oe) :: (X.pn ++ pins))) Sg (nm n2) ?_)
      refine Calls.spliced_cons (names_ok (Y := X.suite a ((a, oe) :: (X.pn ++ pins))) Sg (nm n3) ?_)
      exact Calls.spliced_nil ⟨by rw [sizeLine_eq]; show 3 ≤ 16777216; decide, q⟩
    refine tup ?_
    have more : ∀ b o, g.get? b = some o → (g.push ({ cls := .type "tuple", data := .seq [c1, c2, c3].toArray } : Obj)).get? b = some o := fun b o e => Heap.get?_push_of_some _ e
    have fl2 := fly_more fl more
    have LT : PySem.W.Looks (model X.prog X.w) (g.push { cls := .type "tuple", data := .seq [c1, c2, c3].toArray }) (typeOf (.ref a)) cls := fun A Q E s k q => wpAny_typeOf_ref (k _ _ (more _ _ ge)) (by rw [gz.1]; exact q)
    refine (PySem.W.exm_tup3 (M := model X.prog X.w) (Jg.kIn.keeps more) LT (Heap.get?_push_size _ rfl) hm).here ?_
    refine codeAny_handlers_suite_as ?_
    refine HandSPX.lands_againZ fl2 fun h4 fl4 up4 => ?_
    have J4 : Inv X pins τ G { r with heap := h4 } := J.landed nb fl4.1 (((up.trans g_up).trans (Heap.UpToSlots.of_keeps more)).trans up4) os ag
    obtain ⟨oe4, vs4, ge4, gz4, gd4⟩ := fl4.there
    have S4 := J4.suite ge4 gd4 na nL nF
    refine store_ok (X := X.suite a ((a, oe4) :: (X.pn ++ pins))) (v := .ref a) S4 hN hi (.inl hl) rfl (fun s5 S5 => ?_) (.inr hl)
    refine wpAny_mono ((hsu a oe4 cls d (X.pn ++ pins) gz4 ⟨_, gd4⟩).run [] s5 _ G _ S5 (hsu' a na)) (fun fl s6 got => ?_) (fun _ _ z => False.elim z)
    have fin : ∀ {τ6 : Sig} {G6 : Hp} {Q : Shared → Prop}, Inv (X.suite a ((a, oe4) :: (X.pn ++ pins))) [] τ6 G6 s6 → (∀ s7, Inv X pins (τ6.set i none) G6 s7 → Q s7) →
        wpAny (model X.prog X.w) X.A (do bindName X.env n .none; unbindBehindTheSuite X.env n pos') (fun _ s7 => Q s7) X.xe s6 := fun S6 k => gone_ok (S6.unsuite ok) hN hi hl k
    cases fl with
    | ret u =>
      obtain ⟨v6, τ6, G6, S6, r6, q6⟩ := got
      exact fin S6 fun s7 J7 => ⟨v6, _, _, J7, r6, q6⟩
    | next => obtain ⟨τ6, G6, S6, q6⟩ := got; exact fin S6 fun s7 J7 => ⟨_, _, J7, q6⟩
    | brk => obtain ⟨τ6, G6, S6, q6⟩ := got; exact fin S6 fun s7 J7 => ⟨_, _, J7, q6⟩
    | cont => obtain ⟨τ6, G6, S6, q6⟩ := got; exact fin S6 fun s7 J7 => ⟨_, _, J7, q6⟩
  refine wpAny_Try_except (wpAny_mono ((hb _ _ caught takes PassesOwn.looking).run [] s σ H D (I.toTry _) h) (fun fl s1 got => ?_) (fun _ _ z => z))
  cases fl with
  | ret u => obtain ⟨v, τ, G, J, r, q⟩ := got; exact ⟨v, τ, G, J.ofTry ok, r, q⟩
  | next => obtain ⟨τ, G, J, q⟩ := got; exact wpAny_execs_nil ⟨τ, G, J.ofTry ok, q⟩
  | brk => obtain ⟨τ, G, J, q⟩ := got; exact ⟨τ, G, J.ofTry ok, q⟩
  | cont => obtain ⟨τ, G, J, q⟩ := got; exact ⟨τ, G, J.ofTry ok, q⟩
end
end Pu
set_option Elab.async false
set_option linter.all false
set_option maxRecDepth 100000
set_option maxHeartbeats 2000000
namespace Pu
open PySem PySem.Spec PyProof.Rows L2
section
variable {prog : Program} {w : World} {A : Around} {E : Value → Shared → Prop} {s : Shared}
theorem next_end_hot {jt ll x1 : Addr} {i : Nat} {items : Array Value} {Q : Option Value → Shared → Prop} (hot : HotX.HotAt A x1 s.heap) (ne : x1 ≠ jt) (hit : s.heap.IsListIter jt ll i) (hl : s.heap.IsList ll items) (hx : items[i]? = none)
    (hQ : ∀ h', Heap.ExtBut jt s.heap h' → Q none { s with heap := h' }) : wpAny (model prog w) A (pyNext (.ref jt)) Q E s := by
  obtain ⟨hd, o1, vs1, g1, d1, c1⟩ := hot
  obtain ⟨oi, e1, e2, e3⟩ := id hit
  obtain ⟨ol, f1, f2, nl, f3⟩ := hl
  unfold pyNext
  refine wpAny_bind (wpAny_attempt (wpAny_callSpecial?_slot (name := Str.ofString "__next__") hit.typeIs slot_listiter_next (wpAny_call_entry slot_listiter_next hit.typeIs entry_listiter_next ?_ (args_listiter_next _))))
  show wpAny _ _ (field (.ref jt) 0 >>= _) _ _ s
  refine wpAny_bind (wpAny_field e1 e3 (x := .ref ll) rfl ?_)
  show wpAny _ _ (if (Value.ref ll == Value.none) = true then _ else _) _ _ s
  rw [if_neg (show ¬ ((Value.ref ll == Value.none) = true) from Bool.false_ne_true)]
  show wpAny _ _ (field (.ref jt) 1 >>= _) _ _ s
  refine wpAny_bind (wpAny_field e1 e3 (x := .int i 0) rfl ?_)
  show wpAny _ _ (seqItems? (.ref ll) >>= _) _ _ s
  refine wpAny_bind (wpAny_seqItems f1 f3 ?_)
  simp only [Int.toNat_natCast, hx]
  refine wpAny_bind (wpAny_rule (wpAny_bind (wpAny_setField e1 e3 (by simp) ?_)))
  show wpAny _ _ (newExc (.type "StopIteration") [] >>= _) _ _ _
  refine wpAny_bind ?_
  simp only [newExc, newTuple]
  refine wpAny_bind (wpAny_newObj_type ?_ (by size_fits))
  refine wpAny_bind (m := firstArgMember _ _) (wpAny_of_eq (a := Value.none) (by first | rfl | (simp only [firstArgMember]; rfl)) ?_)
  refine wpAny_newObj_type ?_ (by size_fits)
  have g2 : (s.heap.update jt (Obj.mapFields (·.setIfInBounds 0 Value.none))).get? x1 = some o1 := (Heap.get?_update_other _ _ ne.symm).trans g1
  refine HotX.raiseNew_hot ⟨hd, o1, vs1, Heap.get?_push_of_some _ (Heap.get?_push_of_some _ g2), d1, c1⟩ (Nat.ne_of_lt (Heap.lt_size (Heap.get?_push_of_some _ g2))) (Heap.get?_push_size _ rfl) rfl (by first | (simp; done) | (simp; omega) | (simp only [Array.size_append]; simp; omega)) ?_
  refine wpAny_bind (wpAny_isInstance (T := "StopIteration") (b := true) ⟨_, Heap.get?_update_self _ (Heap.get?_push_size _ rfl) rfl, rfl⟩ isSubtype_stop ?_)
  refine wpAny_pure (hQ _ fun b o hb e => ?_)
  have e' : (s.heap.update jt (Obj.mapFields (·.setIfInBounds 0 Value.none))).get? b = some o := (Heap.get?_update_other _ _ (Ne.symm hb)).trans e
  rw [Heap.get?_update_other _ _ (Nat.ne_of_gt (Heap.lt_size (Heap.get?_push_of_some _ e')))]
  exact Heap.get?_push_of_some _ (Heap.get?_push_of_some _ e')
theorem unpack_hot {ll x1 : Addr} {items : Array Value} {Q : List Value → Shared → Prop} (hot : HotX.HotAt A x1 s.heap) (hl : s.heap.IsList ll items)
    (hQ : ∀ h', Heap.ExtBut s.heap.objs.size s.heap h' → Q items.toList { s with heap := h' }) : wpAny (model prog w) A (unpackItems (.ref ll) items.size none) Q E s := by
  obtain ⟨hd, o1, vs1, g1, d1, c1⟩ := hot
  have below : ∀ {b : Addr} {o : Obj}, s.heap.get? b = some o → b ≠ s.heap.objs.size := fun e => Nat.ne_of_lt (Heap.lt_size e)
  have nl : ll ≠ s.heap.objs.size := by
    obtain ⟨o, ho, _⟩ := hl
    exact below ho
  unfold unpackItems
  refine wpAny_bind ?_
  unfold notIterableAtAll
  refine wpAny_bind (wpAny_specialOf hl.typeIs slot_list_iter.lookup (wpAny_pure ?_))
  simp only [Bool.false_eq_true, if_false]
  refine wpAny_bind (wpAny_holding (wpAny_pyIter_list hl (wpAny_bind (wpAny_holding (PySem.W.kun_draw nl items.size 0 _ _ ⟨_, Heap.get?_push_size _ rfl, rfl, rfl⟩ (hl.push _) (by omega) fun h1 it1 sb1 => ?_)))))
  rw [show List.take items.size (List.drop 0 items.toList) = items.toList from (by rw [List.drop_zero]; exact List.take_of_length_le (by simp)), if_neg (by simp)]
  have g2 : h1.get? x1 = some o1 := sb1.extBut _ _ (below g1) (Heap.get?_push_of_some _ g1)
  refine wpAny_bind (wpAny_holding (next_end_hot ⟨hd, o1, vs1, g2, d1, c1⟩ (below g1) it1 ((hl.push _).extBut sb1.extBut nl) (by simp) fun h2 eb2 => ?_))
  simp only [Option.isSome_none, Bool.false_eq_true, if_false]
  exact wpAny_pure (hQ h2 fun b o hb e => eb2 b o hb (sb1.extBut b o hb (Heap.get?_push_of_some _ e)))
theorem assign_hot {env : Env} {elts : List Expr} {k : Nat} {pos : Pos} {ll x1 : Addr} {items : Array Value} {Q : Unit → Shared → Prop} (hot : HotX.HotAt A x1 s.heap) (hl : s.heap.IsList ll items) (hn : (assignEach elts env).length = items.size)
    (hst : (assignEach elts env).findIdx? (·.1) = none) (h : ∀ h', Heap.ExtBut s.heap.objs.size s.heap h' → wpAny (model prog w) A (assignInOrder ((assignEach elts env).map (·.2)) items.toList) Q E { s with heap := h' }) :
    wpAny (model prog w) A (assign (.Tuple elts k pos) env (.ref ll)) Q E s := by
  rw [PyProof.Rows.assign_Tuple]
  refine wpAny_bind (wpAny_standAt ?_)
  unfold unpack
  rw [hn, hst]
  exact wpAny_bind (wpAny_holding (unpack_hot hot hl h))
theorem goes_hot {target : Expr} {x1 : Addr} {oe : Obj} (hh : A.handled = some (.ref x1)) (hv : ∃ vs : Array Value, oe.data = .fields vs ∧ vs[2]? = some .none) (I l : Addr) (hne : l ≠ I) (hx : x1 ≠ I) (items : Array Value) :
    Goes prog w A target I [I, l, x1] [I] items.size (fun i v _ => items[i]? = some v) (fun i h => h.IsListIter I l i ∧ h.IsList l items ∧ h.get? x1 = some oe) where
  sub := fun b hb => by simp at hb; simp [hb]
  frame := fun _ _ _ st hk => ⟨st.1.at fun o e => hk I (by simp) o e, st.2.1.at fun o e => hk l (by simp) o e, hk x1 (by simp) _ st.2.2⟩
  goes := fun i s Q E hi st hQ => by
    refine wpAny_pyNext_list_item st.1 st.2.1 (x := items[i]) (by simp [hi]) fun h' hit' sb' => ⟨_, rfl, ?_⟩
    obtain ⟨o, ho, hc, hd⟩ := id hit'
    refine letGo_of_cls ho hc hd (by decide) ?_
    exact hQ _ h' s.toks (by simp [hi]) ⟨hit', st.2.1.extBut sb'.extBut hne, sb'.extBut _ _ hx st.2.2⟩ (fun b o hb e => sb'.extBut b o (fun z => hb (by simp [z])) e) (Nat.le_refl _)
  stops := fun s Q E st hQ => by
    obtain ⟨vs, hd, hc⟩ := hv
    exact next_end_hot ⟨hh, oe, vs, st.2.2, hd, hc⟩ hx st.1 st.2.1 (by simp) fun h' eb => ⟨rfl, hQ h' s.toks (fun b o hb e => eb b o (fun z => hb (by simp [z])) e) (Nat.le_refl _)⟩
  self := fun _ _ _ _ st hQ => wpAny_pyIter_listiter st.1 hQ
end
theorem Hh.suite {X : Cx} {a : Addr} {oe : Obj} {cls : Value} {d : Option Addr} {pn : List (Addr × Obj)} (z : L2N.Zn cls d oe) (f : ∃ vs, oe.data = .fields vs) : Hh (X.suite a ((a, oe) :: pn)) a cls d := by
  obtain ⟨vs, f⟩ := f
  exact ⟨rfl, oe, vs, List.mem_cons_self, z, f⟩
section
variable {X : Cx} {a : Addr} {cls : Value} {d : Option Addr} {pins : List (Addr × Obj)} {σ : Sig} {H : Hp} {s : Shared}
theorem filt1 (r : Row3) : List.filter (fun r : Row3 => r.2.2) (some r).toList = if r.2.2 = true then [r] else [] := by
  obtain ⟨r1, r2, r3⟩ := r
  cases r3 <;> rfl
def tPick (i : Nat) : TE := fun σ H Q => ∃ (l : Addr) (rows : List Row3), σ[i]? = some (some (.ref l)) ∧ H l = some (.lst (rows.map fun r => .ref r.1)) ∧ (∀ r ∈ rows, H r.1 = some (.lst [.str r.2.1, .bl r.2.2])) ∧ rows.length ≤ 1000 ∧
  ∀ p, H p = none → Q (.ref p) (upd H p (.lst ((rows.filter fun r => r.2.2).map fun r => .str r.2.1)))
theorem pick_core {i : Nat} {x y z : Str} {p1 p2 p3 p4 p5 p6 : Pos} {k : Nat} {scope : Scope} {use : Option (Value → Sem Unit)} {Qf : Value → Shared → Prop} {Qd : Addr → Hp → Prop} (hot : Hh X a cls d) (hN : X.N[i]? = some x) (hv : Vis X.env.scope x) (hk : scope.kind = .function) (hl : ∀ q ∈ scope.names, q.2 = .local) (hs2 : ∀ q ∈ scope.names, q.2 = .local → scope.names.lookup q.1 = some .local)
    (hy : scope.names.lookup y = some .local) (hz : scope.names.lookup z = some .local) (hyz : y ≠ z) (d1 : (x == ("__debug__" : Str)) = false) (d2 : (x == ("__classdict__" : Str)) = false) (d3 : (y == ("__debug__" : Str)) = false) (d4 : (z == ("__debug__" : Str)) = false)
    (I : Inv X pins σ H s) (h : ∃ (l : Addr) (rows : List Row3), σ[i]? = some (some (.ref l)) ∧ H l = some (.lst (rows.map fun r => .ref r.1)) ∧ (∀ r ∈ rows, H r.1 = some (.lst [.str r.2.1, .bl r.2.2])) ∧ rows.length ≤ 1000 ∧
      ∀ p, H p = none → Qd p (upd H p (.lst ((rows.filter fun r => r.2.2).map fun r => .str r.2.1))))
    (hRR : ∀ D C s' m H', Inv X pins σ H' s' → Qd D H' → s'.heap.Ns C m → FpOk X pins H' C → compEnds (model X.prog X.w) X.A X.xe use Qf (.ref D) (compEnvC scope (cloFrom X.env.cells scope.names []) C X.env) (.ok .next) s') :
    wpAny (model X.prog X.w) X.A (eval (.Name x p4) X.env) (fun xv s₁ => wpAny (model X.prog X.w) X.A (pyIter xv) (LcGoes X.prog X.w X.A X.xe X.env scope (cloFrom X.env.cells scope.names []) (.Tuple [.Name y p2, .Name z p3] k p5) [.Name z p6] (.Name y p1) use Qf) X.xe s₁) X.xe s := by
  obtain ⟨l, rows, hi, hl1, hr, hlen, q⟩ := h
  refine thn ((pe_var (pos := p4) (i := i) hN hv d1 d2).run pins s σ H (fun v H1 => v = .ref l ∧ H1 = H) I ⟨_, hi, rfl, rfl⟩) fun u s1 got => ?_
  obtain ⟨v, H1, I1, r1, e1, e2⟩ := got
  subst e1 e2
  obtain rfl : u = Value.ref l := r1
  obtain ⟨its, rv, pl, _⟩ := I1.list (SqL.of hl1)
  have isl := pl.isList
  obtain ⟨oe, vs, g1, g2, g3, _, _, g4⟩ := hot.get I1
  have lsz : its.length = rows.length := by rw [← rv.length, List.length_map]
  -- each row
  have rowAt : ∀ (j : Nat) (r : Row3), rows[j]? = some r → its[j]? = some (.ref r.1) ∧ ∃ u, s1.heap.IsList r.1 #[u, .bool r.2.2] ∧ RelV (.str r.2.1) u := fun j r hj => by
    have hm : (rows.map fun r => V.ref r.1)[j]? = some (V.ref r.1) := by rw [List.getElem?_map, hj]; rfl
    obtain ⟨u, hu, ru⟩ := rv.get hm
    cases ru
    obtain ⟨is2, rv2, pl2, _⟩ := I1.list (SqL.of (hr r (List.mem_of_getElem? hj)))
    cases rv2 with
    | cons ra rb =>
      cases rb with
      | cons rc rd =>
        cases rd
        cases rc
        exact ⟨hu, _, pl2.isList, ra⟩
  have below : ∀ {b : Addr} {o : Obj}, s1.heap.get? b = some o → b ≠ s1.heap.objs.size := fun e => Nat.ne_of_lt (Heap.lt_size e)
  have lIs : ∃ o, s1.heap.get? l = some o := by obtain ⟨o, ho, _⟩ := isl; exact ⟨o, ho⟩
  obtain ⟨ol, hol⟩ := lIs
  refine wpAny_pyIter_list isl ?_
  refine ⟨s1.heap.objs.size, _, _, its.toArray.size, _, _, rfl, goes_hot hot.hd ⟨vs, g2, g3⟩ s1.heap.objs.size l (below hol) (below g1) its.toArray, ?_, ⟨⟨_, Heap.get?_push_size _ rfl, rfl, rfl⟩, isl.push _, Heap.get?_push_of_some _ g1⟩, ?_, fun D C s3 B => ?_⟩
  · rw [List.size_toArray, lsz, sizeLine_eq]; omega
  · intro b hb
    rw [Heap.size_push]
    simp only [List.mem_cons, List.not_mem_nil, or_false] at hb
    rcases hb with rfl | rfl | rfl
    · exact Nat.lt_succ_self _
    · exact Nat.lt_succ_of_lt (Heap.lt_size hol)
    · exact Nat.lt_succ_of_lt (Heap.lt_size g1)
  obtain ⟨⟨h3, t3, rfl⟩, old, nD, nC, hDC, hns⟩ := B
  rw [Heap.size_push] at nD nC
  have oldD : ∀ {b : Addr} {o : Obj}, s1.heap.get? b = some o → b ≠ D ∧ b ≠ C ∧ b ≠ s1.heap.objs.size := fun {b o} e => by
    have h0 := Heap.lt_size e
    exact ⟨Nat.ne_of_lt (Nat.lt_of_lt_of_le (Nat.lt_succ_of_lt h0) nD), Nat.ne_of_lt (Nat.lt_of_lt_of_le (Nat.lt_succ_of_lt h0) nC), Nat.ne_of_lt h0⟩
  have itC : s1.heap.objs.size ≠ C := Nat.ne_of_lt (Nat.lt_of_lt_of_le (Nat.lt_succ_self _) nC)
  have kinds : ∀ w, scope.names.lookup w = some .local → (compEnvC scope (cloFrom X.env.cells scope.names []) C X.env).kindOf w = some .local := fun w hw => lookup_relabel_local hw
  have hp : ((compEnvC scope (cloFrom X.env.cells scope.names []) C X.env).scope.kind == .class || ((compEnvC scope (cloFrom X.env.cells scope.names []) C X.env).scope.kind == .module && (compEnvC scope (cloFrom X.env.cells scope.names []) C X.env).locals != (compEnvC scope (cloFrom X.env.cells scope.names []) C X.env).globals)) = false := by
    show (scope.kind == .class || (scope.kind == .module && _)) = false
    rw [hk]; rfl
  refine ⟨fun j ys r => ∃ hj tj m, r = { s1 with heap := hj, toks := tj } ∧ hj.Ns C m ∧ Vals (((rows.take j).filter fun r => r.2.2).map fun r => V.str r.2.1) ys ∧ ∀ b o, s1.heap.get? b = some o → hj.get? b = some o, ⟨h3, t3, _, rfl, hns, .nil, fun b o e => old b o (Heap.get?_push_of_some _ e)⟩, ?_, ?_, ?_⟩
  · rintro j ys _ h' tk ⟨hj, tj, m, rfl, n4, e4, k4⟩ hk' _
    have off : ∀ {b : Addr}, b ≠ D → b ≠ s1.heap.objs.size → b ∉ D :: [s1.heap.objs.size] := fun h1 h2 hm => by
      simp only [List.mem_cons, List.not_mem_nil, or_false] at hm
      exact hm.elim h1 h2
    exact ⟨h', tk, m, rfl, n4.at' fun o e => hk' _ o (off hDC.symm itC.symm) e, e4, fun b o e => hk' b o (off (oldD e).1 (oldD e).2.2) (k4 b o e)⟩
  · rintro j v ys _ hj Y st ⟨h4, t4, m, rfl, n4, e4, k4⟩ hpl
    rw [List.size_toArray, lsz] at hj
    have hrj : rows[j]? = some rows[j] := List.getElem?_eq_getElem hj
    generalize rows[j] = r at hrj
    obtain ⟨hu, u, isr, ru⟩ := rowAt j r hrj
    have ev : v = .ref r.1 := by
      have Y' : its.toArray[j]? = some v := Y
      rw [List.getElem?_toArray, hu] at Y'
      exact (Option.some.inj Y').symm
    subst ev
    have isr4 : h4.IsList r.1 #[u, .bool r.2.2] := by
      obtain ⟨o, ho, z⟩ := isr
      exact ⟨o, k4 _ _ ho, z⟩
    have hot4 : HotX.HotAt X.A a h4 := ⟨hot.hd, oe, vs, k4 _ _ g1, g2, g3⟩
    have Cs : C < h4.objs.size := by obtain ⟨o, _, _, ho, _⟩ := n4; exact Heap.lt_size ho
    refine assign_hot (s := { s1 with heap := h4, toks := t4 }) hot4 isr4 rfl rfl fun h5 eb5 => ?_
    have up5 : ∀ b o, h4.get? b = some o → h5.get? b = some o := fun b o e => eb5 b o (Nat.ne_of_lt (Heap.lt_size e)) e
    show wpAny _ _ (assignInOrder [assign (.Name y p2) _, assign (.Name z p3) _] [u, .bool r.2.2]) _ _ _
    refine wpAny_assignInOrder_more (wpAny_assign_Name (wpAny_storeName_local (kinds _ hy) (n4.at' fun o e => up5 _ o e) (fun h6 n6 s6 => ?_) hp))
    refine wpAny_assignInOrder_more (wpAny_assign_Name (wpAny_storeName_local (kinds _ hz) n6 (fun h7 n7 s7 => wpAny_assignInOrder_none ?_) hp))
    have up7 : ∀ b o, b ≠ C → h4.get? b = some o → h7.get? b = some o := fun b o hb e => s7.extBut _ _ hb (s6.extBut _ _ hb (up5 b o e))
    have st7 : h7.IsListIter s1.heap.objs.size l (j + 1) ∧ h7.IsList l its.toArray ∧ h7.get? a = some oe := ⟨st.1.at fun o e => up7 _ o itC e, st.2.1.at fun o e => up7 _ o (oldD hol).2.1 e, up7 _ _ (oldD g1).2.1 st.2.2⟩
    have k7 : ∀ b o, s1.heap.get? b = some o → h7.get? b = some o := fun b o e => up7 b o (oldD e).2.1 (k4 b o e)
    have tk : (rows.take (j + 1)).filter (fun r => r.2.2) = (rows.take j).filter (fun r => r.2.2) ++ (if r.2.2 = true then [r] else []) := by
      rw [List.take_add_one, hrj, List.filter_append]
      congr 1
      exact filt1 r
    refine wpAny_tests_one ?_
    show wpAny _ _ (do let v ← eval (.Name z p6) _; standAt _; holding [v] (truthy v)) _ _ _
    rw [eval_Name _ _ _ d4]
    refine wpAny_bind (wpAny_bind (wpAny_standAt (wpAny_loadName_local hk (kinds _ hz) n7 (v := .bool r.2.2) (by simp) ?_)))
    refine wpAny_bind (wpAny_standAt (wpAny_holding ?_))
    cases hb : r.2.2 with
    | false =>
      refine wpAny_of_eq (a := false) rfl ?_
      refine ⟨⟨h7, _, _, rfl, n7, ?_, k7⟩, st7, hpl.at fun o e => up7 _ o hDC e⟩
      rw [tk, hb]
      simpa using e4
    | true =>
      refine wpAny_of_eq (a := true) rfl ?_
      rw [if_pos rfl, eval_Name _ _ _ d3]
      refine wpAny_bind (wpAny_standAt (wpAny_loadName_local hk (kinds _ hy) n7 (v := u) (by simp [hyz]) ?_))
      refine ⟨⟨h7, _, _, rfl, n7, ?_, k7⟩, st7, hpl.at fun o e => up7 _ o hDC e⟩
      rw [tk, hb, if_pos rfl, List.map_append]
      exact e4.append (.cons ru .nil)
  · rintro ys _ ⟨h4, t4, m, rfl, n4, e4, k4⟩ hpl
    have all : List.take its.toArray.size rows = rows := List.take_of_length_le (by rw [List.size_toArray, lsz]; exact Nat.le_refl _)
    rw [all] at e4
    have sD : s1.heap.objs.size ≤ D := Nat.le_trans (Nat.le_succ _) nD
    have sC : s1.heap.objs.size ≤ C := Nat.le_trans (Nat.le_succ _) nC
    have hD : H1 D = none := I1.hok.fresh sD
    obtain ⟨ep, he⟩ := hpl
    have J : Inv X pins σ (upd H1 D (.lst ((rows.filter fun r => r.2.2).map fun r => .str r.2.1))) { s1 with heap := h4, toks := t4 } := by
      refine I1.laid (t' := t4) k4 sD ⟨?_, ys, ep, e4, he⟩
      rw [List.length_map, sizeLine_eq]
      have := List.length_filter_le (fun r : Row3 => r.2.2) rows
      omega
    exact hRR D C _ m _ J (q D hD) n4 (I1.fpOk sC (by rw [upd_ne (Ne.symm hDC)]; exact I1.hok.fresh sC))
theorem ps_pick (i j : Nat) {x y z u : Str} {p1 p2 p3 p4 p5 p6 pu pos spos : Pos} {k : Nat} {scope : Scope} (hot : Hh X a cls d) (nd : X.N.Nodup) (hN : X.N[i]? = some x) (hv : Vis X.env.scope x) (hj : X.N[j]? = some u) (hu : X.env.scope.names.lookup u = some .local)
    (hsw : swapsWith (.ListComp (.Name y p1) [⟨.Tuple [.Name y p2, .Name z p3] k p5, .Name x p4, [.Name z p6], 0⟩] scope pos) (some (.Name u pu)) spos.line X.env = pure true) (hk : scope.kind = .function) (hl : ∀ q ∈ scope.names, q.2 = .local) (hs2 : ∀ q ∈ scope.names, q.2 = .local → scope.names.lookup q.1 = some .local)
    (hy : scope.names.lookup y = some .local) (hz : scope.names.lookup z = some .local) (hyz : y ≠ z) (d1 : (x == ("__debug__" : Str)) = false := by decide) (d2 : (x == ("__classdict__" : Str)) = false := by decide) (d3 : (y == ("__debug__" : Str)) = false := by decide) (d4 : (z == ("__debug__" : Str)) = false := by decide)
    (hs : ∀ u, foldedSetIterable (.Name x p4) X.env u = pure u := by intro _; rfl) :
    PS X (.Assign [.Name u pu] (.ListComp (.Name y p1) [⟨.Tuple [.Name y p2, .Name z p3] k p5, .Name x p4, [.Name z p6], 0⟩] scope pos) spos) (tAsg (tPick i) (gName j)) := by
  constructor
  intro pins s σ H D I h
  have nofree : ∀ q ∈ scope.names, q.2 = .free → ∃ c, X.env.cells.lookup q.1 = some c := fun q hq e => by rw [hl q hq] at e; cases e
  have nocell : ∀ q ∈ scope.names, q.2 ≠ .cell := fun q hq e => by rw [hl q hq] at e; cases e
  refine Assign_ListComp_goes hsw (closure_ok nofree) nocell hk hs2 (pick_core (Qd := fun p G => D.nx (σ.set j (some (.ref p))) G) hot hN hv hk hl hs2 hy hz hyz d1 d2 d3 d4 I h fun L C s' m H' J qd hn f => ?_) hs
  show wpAny _ _ (assign (.Name u pu) X.env (.ref L)) _ _ _
  refine wpAny_assign_Name (store_ok2 (v := V.ref L) J nd hj (.inl hu) rfl (fun s2 I2 ⟨b0, sb, hb⟩ => ?_) (.inr hu))
  obtain ⟨f0, f1, f2, f3, f4, f5⟩ := f
  have ne : C ≠ b0 := by
    rcases hb with z | z
    · rw [z]; exact f1
    · exact fun e => f4 u b0 z e.symm
  exact ⟨m, hn.sameBut sb ne, fun h3 sb3 => ⟨_, H', I2.turned (t' := s2.toks) (fun b o hb e => (sb3.2 b hb).trans e) f0 f1 f3 f4 f5, qd⟩⟩
end
end Pu
set_option Elab.async false
set_option linter.all false
set_option maxRecDepth 100000
set_option maxHeartbeats 2000000
namespace Pu
open PySem PySem.Spec PyProof.Rows L2
open Evl (Ex)
structure ErrC (K : PySem.W.Frag) (C : Addr) : Prop where
  cl : (PySem.W.clsIn K C).isSome = true
  ga : PySem.W.findIn K (.ref C) "__getattribute__" = some (some (.builtin "BaseException.__getattribute__"))
  gg : PySem.W.findIn K (.ref C) "__getattr__" = some none
  sb : PySem.W.subIn K (.ref C) (.type "BaseException") = some true
  kl : PySem.W.findIn K (.ref C) "__class__" = some (some (.builtin "object.__class__"))
  ds : PySem.W.specialIn K (.builtin "object.__class__") "__get__" = some (some (.builtin "getset_descriptor.__get__"))
  tk : PySem.W.takesIn K (.builtin "object.__class__") = some true
  mo : PySem.W.mroIn K C (.type "object") = some true
  hd : PySem.W.hasDictIn K C = true
theorem errC_ok {K : PySem.W.Frag} {C : Addr} (h : errC K C = true) : ErrC K C := by
  unfold errC at h
  simp only [Bool.and_eq_true, decide_eq_true_eq] at h
  obtain ⟨h1, h2, h3, h4, h5, h6, h7, h8, h9⟩ := h
  exact ⟨h1, He.eqO_ok h2, He.eqO_ok h3, h4, He.eqO_ok h5, He.eqO_ok h6, h7, h8, h9⟩
section
variable {X : Cx} {a D : Addr} {d : Option Addr} {pins : List (Addr × Obj)} {σ : Sig} {H : Hp} {s : Shared}
theorem Hh.inst (h : Hh X a (.ref D) d) (I : Inv X pins σ H s) (hd : DictAt H d) : ∃ oe od, PySem.W.InstAt s.heap a oe D od := by
  obtain ⟨oe, vs, g1, g2, _, g4, g5, _⟩ := h.get I
  have no : PySem.W.notCls oe = true := by unfold PySem.W.notCls; rw [g2] <;> rfl
  cases d with
  | none => exact ⟨oe, none, g1, g4, no, by rw [g5]; trivial⟩
  | some dx =>
    obtain ⟨fs, q⟩ := hd dx rfl
    have hx : ObjOk X.prog X.w H s.heap dx (.xd fs) := I.hok dx _ q
    obtain ⟨mA, hns, _⟩ := hx
    obtain ⟨od, ho, _⟩ := lookIn_ns hns
    exact ⟨oe, some od, g1, g4, no, by rw [g5]; exact ho⟩
def rIsX (K : PySem.W.Frag) (D a : Addr) (d : Option Addr) : List V → Hp → VK → Prop := fun xs H Q => DictAt H d ∧ ∃ (c : V) (b : Bool), xs = [.ref a, c] ∧ Q (.bl b) H ∧
  ((∃ cv, (∀ u, RelV c u → u = cv) ∧ PySem.W.kitOne K (.ref D) cv = some b) ∨ ∃ (t : Addr) (us : List V) (cvs : List Value), c = .ref t ∧ SqT K H t us ∧ (∀ ws, Vals us ws → ws = cvs) ∧ PySem.W.kitAny K (.ref D) cvs = some b)
theorem cr_isX (C : ErrC X.K D) (h : Hh X a (.ref D) d) : CallR X (.builtin "isinstance") (rIsX X.K D a d) := by
  intro pins s σ H xs us Q I r hw
  obtain ⟨hd, c, b, rfl, q, hc⟩ := hw
  obtain ⟨u1, u2, rfl, r1, r2⟩ := vals2 r
  cases r1
  obtain ⟨oe, od, J⟩ := h.inst I hd
  have Z := PySem.W.kitx_exc (K := X.K) (x := a) (ox := oe) (od := od) (gt := none) C.cl C.ga C.gg C.sb C.kl C.ds C.tk C.mo
  rcases hc with ⟨cv, hcv, e⟩ | ⟨t, us, cvs, rfl, ht, hv, e⟩
  · obtain rfl := hcv _ r2
    exact PySem.W.kia_one Z I.kIn J e (fun z => nomatch z) fun tk => ⟨.bl b, H, I.kept (t' := tk) fun _ _ z => z, rfl, q⟩
  · cases r2
    obtain ⟨its, rv, ⟨⟨oc, od2, oda, osl⟩, ho, hc, n, hd2⟩, _⟩ := I.tuple ht
    dsimp only at hc hd2
    subst hc hd2
    obtain rfl := hv _ rv
    exact PySem.W.kia_tup Z I.kIn J ho e (fun z => nomatch z) fun tk => ⟨.bl b, H, I.kept (t' := tk) fun _ _ z => z, rfl, q⟩
def tXG (a : Addr) (d : Option Addr) (f : Str) (te : TE) : TE := fun σ H Q => te σ H fun x H1 => x = .ref a ∧ ∃ (dd : Addr) (fs : List (Str × V)) (v : V), d = some dd ∧ H1 dd = some (.xd fs) ∧ fs.lookup f = some v ∧ Q v H1
theorem pe_xg {e : Expr} {te : TE} {pos : Pos} {n : Str} (T : ErrC X.K D) (hno : PySem.W.findIn X.K (.ref D) n = some none) (h : Hh X a (.ref D) d) (he : PE X e te) (hb : attributeBase e n X.env (eval e X.env) = eval e X.env := by rfl) :
    PE X (.Attribute e n pos) (tXG a d n te) := by
  constructor
  intro pins s σ H Q I hw
  refine attr_of hb (thn (he.run pins s σ H _ I hw) fun u s1 got => ?_)
  obtain ⟨x, H1, I1, rx, rfl, dd, fs, v, rfl, ed, l, q⟩ := got
  obtain rfl : u = Value.ref a := rx
  obtain ⟨oe, vs, g1, g2, _, g4, g5, _⟩ := h.get I1
  have hx : ObjOk X.prog X.w H1 s1.heap dd (.xd fs) := I1.hok dd _ ed
  obtain ⟨mA, hns, hr⟩ := hx
  obtain ⟨od, ho, hl⟩ := lookIn_ns hns
  obtain ⟨u, hu, ru⟩ := RelO.some_of (v := v) (o := mA n) (by rw [← l]; exact hr n)
  have J : PySem.W.InstAt s1.heap a oe D (some od) := ⟨g1, g4, by unfold PySem.W.notCls; rw [g2] <;> rfl, by rw [g5]; exact ho⟩
  exact HandSPX.exc_get I1.kIn J T.ga T.gg T.sb (PySem.W.findObj_own T.hd hno rfl (by rw [hl, hu])) (handed_of ru) ⟨v, H1, I1.tok _, ru, q⟩
def rCntF (K : PySem.W.Frag) : V → List V → Hp → VK → Prop := fun x xs H Q => ∃ (p : Addr) (ys : List V) (y : V), x = .ref p ∧ xs = [y] ∧ SqL K H p ys ∧ flatV y = true ∧ ys.all flatV = true ∧ Q (.int ((ys.countP fun z => eqV z y : Nat) : Int)) H
theorem count_eqU {y : V} : ∀ {ys : List V} {us : List Value}, Vals ys us → ys.all flatV = true → us.countP (eqU y) = ys.countP fun z => eqV z y
  | _, _, .nil, _ => rfl
  | z :: ys, u :: us, .cons r t, f => by
    rw [List.all_cons, Bool.and_eq_true] at f
    rw [List.countP_cons, List.countP_cons, count_eqU t f.2, eqU_of r f.1]
theorem mt_countF : MtR X "list.count" (rCntF X.K) := by
  intro pins s σ H x xs v us Q I rx rxs h
  obtain ⟨p, ys, y, rfl, rfl, hs, fy, fys, q⟩ := h
  cases rx
  obtain ⟨u, rfl, ru⟩ := rxs.one
  obtain ⟨its, rv, ⟨⟨oc, od, oda, osl⟩, n, ho, hc, hdn, hd⟩, _⟩ := I.list hs
  dsimp only at hc hd
  subst hc hd
  refine call_meets PySem.F.slot_list_count ⟨_, ho, rfl⟩ PySem.F.entry_list_count (PySem.F.args_list_count_2 _ _) (SeqAt.list_countAt p its.toArray n od osl u (eqU y)) ⟨ho, fun w hw => mem_eqAt ru fy rv fys w (by simpa using hw), ?_⟩
  refine ⟨.int ((ys.countP fun z => eqV z y : Nat) : Int), H, I.tok _, ⟨s.toks, ?_⟩, q⟩
  show Value.int ((its.toArray.toList.countP (eqU y) : Nat) : Int) s.toks = _
  rw [show its.toArray.toList = its by simp, count_eqU rv fys]
end
structure FnX (P : Program) (w : World) (K : PySem.W.Frag) (mg : Str → Option Value) (base : Heap) (k : Nat) (f : Addr) (fd : FuncData) (ps : List Str) (p : Addr × Obj) (sp : Sp) : Prop where
  many : ∀ vs H Q E, sp vs H Q E → vs.length = ps.length
  goes : ∀ (A : Around) (outer : List Env) (s : Shared) (H : Hp) (args : Args) (us : List Value) (vs : List V) (Q : VK) (E : XK), L2H.RoomH k A → L2H.Hot1 A p → L2H.PinOk outer H s p → Env0 P w K mg base A outer s H →
    BindsTo s fd args (ps.zip us) → Vals vs us → sp vs H Q E → codeAny (model P w) A (.call (.ref f) args) (CR (L2N.CX P w) outer P w H s Q E) s
section
variable {P : Program} {w : World} {K : PySem.W.Frag} {mg : Str → Option Value} {base : Heap}
theorem fnX_of {x qual : Str} {params : Arguments} {body : List Stmt} {scope : Scope} {dvs : List V} {kws : List (Str × V)} {f : Addr} {fd : FuncData} {N ps : List Str} {k : Nat} {p : Addr × Obj} {sp : Sp}
    (D : FunD K x qual params body scope dvs kws f fd) (S : FnScope N ps scope) (many : ∀ vs H Q E, sp vs H Q E → vs.length = ps.length)
    (hb : ∀ (cdv : Value) (A : Around) (outer : List Env) (s : Shared) (H : Hp) (vs : List V) (Q : VK) (E : XK), L2H.RoomH k (A.deeper (envOfC qual scope s.heap.objs.size f cdv)) → L2H.Hot1 A p → sp vs H Q E →
      ∃ t, PSs (L2H.cxH (L2N.CX P w) P w K mg base N qual scope f cdv A outer s H E p) body t ∧
        t { nx := fun _ H' => Q .non H', rt := Q } (start N vs) H) : FnX P w K mg base (k + 1) f fd ps p sp := by
  obtain ⟨c0, c1, dV, kV, c2, c3, c4, cdv, c5, c6, rfl, look, cin, -, -⟩ := D.ex
  refine ⟨many, fun A outer s H args us vs Q E hr hot pin e0 bt rel hsp => ?_⟩
  have nlen := many _ _ _ _ hsp
  have stay : ∀ b o, base.get? b = some o → s.heap.get? b = some o := fun b o h => (e0.bs b o h).1
  have inK : K.In s.heap := e0.mod.kin.keeps stay
  have nolim : s.heap.NoLimit := e0.mod.nolimit.keeps stay
  have kinds : ∀ y ∈ ps.zip us, scope.names.lookup y.1 = some .local ∨
      (scope.names.lookup y.1 = some .cell ∧ ((cellsFrom (s.heap.objs.size + 1) scope.names []).lookup y.1).isSome = true) := by
    intro y hy
    obtain ⟨n, v⟩ := y
    cases S.par n (List.of_mem_zip hy).1 with
    | inl q => exact .inl q
    | inr q => exact .inr ⟨q, PySem.W.cellsFrom_some _ _ _ (.inl q)⟩
  refine codeAny_call_function hr.depth (inK _ _ look) rfl S.co S.gen rfl (PySem.W.codeRec_of inK cin) (bt _ _ _ _ (wpAny_newFunctionEnv_cells S.kind kinds ?_))
  intro env same s1 made
  subst same
  refine ⟨nolim.keeps made.toInCall.keep, codeAny_func ?_⟩
  obtain ⟨t, runs, wish⟩ := hb cdv A outer s H vs Q E (hr.deeper _) hot hsp
  have J := L2H.inv_startH (CX := L2N.CX P w) (E := E) (cd := cdv) S pin e0 nlen rel made
  refine wpAny_mono (runs.run [] s1 (start N vs) H _ J wish) (fun fl s' got => ?_) (fun _ _ z => z)
  cases fl with
  | brk => obtain ⟨_, _, _, no⟩ := got; exact no.elim
  | cont => obtain ⟨_, _, _, no⟩ := got; exact no.elim
  | next =>
    obtain ⟨σ', H', I', q⟩ := got
    exact ⟨.non, H', I'.os, I'.bare, I'.base, I'.hok, rfl, q⟩
  | ret u =>
    obtain ⟨v, σ', H', I', rv, q⟩ := got
    exact ⟨v, H', I'.os, I'.bare, I'.base, I'.hok, rv, q⟩
end
section
variable {X : Cx} {k : Nat} {f : Addr} {fd : FuncData} {ps : List Str} {p : Addr × Obj} {sp : Sp} {W : WX} {x : Str} {q pos : Pos} {e : Expr} {es : List Expr} {t : TA}
theorem pe_callX (F : FnX X.prog X.w X.K X.mg X.base k f fd ps p sp) (hr : L2H.RoomH k X.A) (hot : L2H.Hot1 X.A p) (hp : p ∈ X.pn) (tk : L2N.Takes X W) (gl : Gl X x) (at_ : X.mg x = some (.ref f)) (kp : PySem.W.keepIn X.K (.ref f) = true) (hb : Binds X.K fd ps [])
    (ha : PA X (e :: es) t) (n1 : (x == ("__debug__" : Str)) = false := by decide) (n2 : starEach (e :: es) X.env = (false, eval e X.env) :: starEach es X.env := by rfl) (n3 : (backTo pos (starEach es X.env)).any (·.1) = false := by rfl) :
    PE X (.Call (.Name x q) (e :: es) [] pos) (cG sp W [] t) := by
  constructor
  intro pins s σ H Q I h
  refine wpAny_Call_Name_kw (ld_glob I gl at_ (PySem.W.callWith_K (h₀ := X.base) I.ok.mod.kin kp (thn (ha.run pos pins s σ H _ I h) ?_) n2 n3) n1)
  rintro us s1 ⟨vs, H1, I1, r, z⟩
  refine ⟨I1.kIn, ?_⟩
  have rd := r.append (Paired.nil : Vals [] [])
  have b := hb s1 us I1.kIn (rd.length.symm.trans (F.many _ _ _ _ z))
  obtain ⟨p1, p2, p3, p4, p5⟩ := I1.pin p (List.mem_append_left _ hp)
  have pin : L2H.PinOk X.stack H1 s1 p := ⟨p1, p2, fun m => (List.mem_cons.mp (I1.stkSub p.1 m)).elim p3 p4, p5⟩
  refine wpAny_call (codeAny_mono (F.goes X.A X.stack s1 H1 ⟨us, []⟩ _ _ Q (WE W σ) hr hot pin I1.env0 b rd z) fun res s' got => ?_)
  have g := end_of tk I1 got
  cases res with
  | error z => exact g
  | ok fl => cases fl with
    | ret u => exact g
    | next => exact g.elim
    | brk => exact g.elim
    | cont => exact g.elim
end
theorem Hh.callee {CX : CXT} {P : Program} {w : World} {K : PySem.W.Frag} {mg : Str → Option Value} {base : Heap} {N : List Str} {qual : Str} {scope : Scope} {f : Addr} {cd : Value} {A : Around} {outer : List Env} {s : Shared} {H : Hp} {E : XK} {p : Addr × Obj} {cls : Value} {d : Option Addr}
    (hot : L2H.Hot1 A p) (z : L2N.Zn cls d p.2) (g : ∃ vs, p.2.data = .fields vs) : Hh (L2H.cxH CX P w K mg base N qual scope f cd A outer s H E p) p.1 cls d := by
  obtain ⟨vs, g⟩ := g
  exact ⟨hot.1, p.2, vs, List.mem_singleton.mpr rfl, z, g⟩
theorem hot1_of {X : Cx} {p : Addr × Obj} {cls : Value} {d : Option Addr} (h : X.A.handled = some (.ref p.1)) (z : L2N.Zn cls d p.2) (g : ∃ vs, p.2.data = .fields vs) : L2H.Hot1 X.A p := by
  obtain ⟨vs, g⟩ := g
  exact ⟨h, vs, g, z.2.2 vs g⟩
end Pu
set_option Elab.async false
set_option linter.all false
set_option maxRecDepth 100000
set_option maxHeartbeats 2000000
namespace Pu
open PySem PySem.Spec PyProof.Rows L2
def lamN (X : Cx) (A : Around) (outer : List Env) (s : Shared) (H : Hp) (E : XK) (scope : Scope) (f c' : Addr) : Cx :=
  (LamX.lamCx X A outer s H E scope f c').tr [] fun e r => wpAny (model X.prog X.w) (A.deeper (LamX.lamEnv X scope s.heap.objs.size f c')) (leaving (LamX.lamEnv X scope s.heap.objs.size f c') e) (fun _ r2 => L2N.CX X.prog X.w outer H s E e r2) (fun e2 r2 => L2N.CX X.prog X.w outer H s E e2 r2) r
theorem lamN_takes {X : Cx} {A : Around} {outer : List Env} {s : Shared} {H : Hp} {E : XK} {scope : Scope} {f c' : Addr} : L2N.Takes (lamN X A outer s H E scope f c') (fun cls d _ H => E cls d H) :=
  L2N.takes_of (E₁ := fun e2 r2 => L2N.CX X.prog X.w outer H s E e2 r2) rfl rfl rfl rfl
theorem lamN_good {X : Cx} {A : Around} {outer : List Env} {s : Shared} {H : Hp} {E : XK} {scope : Scope} {f c' : Addr} {k : Nat} (nd : X.N.Nodup) (hr : Room k (A.deeper (LamX.lamEnv X scope s.heap.objs.size f c'))) (hG : A.guards = some []) :
    Good (lamN X A outer s H E scope f c') k (fun cls d _ H => E cls d H) :=
  ⟨nd, rfl, hr, guards_deeper hG, lamN_takes, passes_of (K := fun e r2 => L2N.CX X.prog X.w outer H s E e r2) (E₁ := fun e2 r2 => L2N.CX X.prog X.w outer H s E e2 r2) rfl⟩
section
variable {X : Cx} {pins : List (Addr × Obj)} {σ : L2.St} {H : Hp} {s : Shared}
abbrev gotCx (X : Cx) (Ng : List Str) (x : Str) (sg : Scope) (g : Addr) (cdg : Value) (s : Shared) (H : Hp) : Cx := cxOf (L2N.CX X.prog X.w) X.prog X.w X.K X.mg X.base Ng x sg g cdg X.A X.stack s H fun _ _ _ => False
theorem pe_actN {Ng : List Str} {x : Str} {sg : Scope} {g f c' : Addr} {cdg pm ctv : Value} {params : Arguments} {body : Expr} {scope : Scope} {k i : Nat} {a : Str} {pn : List (Addr × Obj)} {xe : Value → Shared → Prop} {W : WX} {tb : XK → TE} {p1 p2 : Pos}
    (I : Inv X pins σ H s) (L : LamX.LamS X.env.scope scope) (hf : s.heap.get? f = some (PySem.W.kla_obj "<lambda>" (X.env.qual ++ "<lambda>") params body scope (cloFrom X.env.cells scope.names []) pm c' ctv)) (hfn : H f = none) (hfr : f ∉ frs X.stack)
    (hbind : bindArgs (PySem.W.kla_fn "<lambda>" (X.env.qual ++ "<lambda>") params body scope (cloFrom X.env.cells scope.names []) pm (.ref c') ctv) ⟨[], []⟩ = pure [])
    (tk : L2N.Takes ((gotCx X Ng x sg g cdg s H).tr pn xe) W) (hr : Room (k + 1) (X.A.deeper (envOfC x sg s.heap.objs.size g cdg))) (hG : X.A.guards = some [])
    (hbody : ∀ (A : Around) (outer : List Env) (s : Shared) (H : Hp) (E : XK), Room k (A.deeper (LamX.lamEnv X scope s.heap.objs.size f c')) → A.guards = some [] → PE (lamN X A outer s H E scope f c') body (tb E))
    (hN : Ng[i]? = some a) (hv : Vis sg a) (hd : (a == ("__debug__" : Str)) = false := by decide) (hcd : (a == ("__classdict__" : Str)) = false := by decide) :
    PE ((gotCx X Ng x sg g cdg s H).tr pn xe) (.Call (.Name a p1) [] [] p2)
      (fun τ G Q => τ[i]? = some (some (.ref f)) ∧ G c' = some (LamX.CodeO c' (X.env.qual ++ "<lambda>")) ∧ tb (fun cls d G' => W cls d τ G') σ G Q) := by
  constructor
  intro pz sz τ G Q Iz h
  obtain ⟨h1, h2, h3⟩ := h
  refine wpAny_Call_Name_kw (thn ((pe_var (pos := p1) (i := i) hN hv hd hcd).run pz sz τ G (fun v G1 => v = .ref f ∧ G1 = G) Iz ⟨.ref f, h1, rfl, rfl⟩) fun u s1 got => ?_)
  obtain ⟨v, G1, I1, r1, e1, e2⟩ := got
  subst e1 e2
  obtain rfl : u = Value.ref f := r1
  have of1 := I1.base.keep f _ hf hfn hfr (fun z => nomatch (show f ∈ ([] : List Addr) from z))
  refine PySem.W.callWith_F0 ⟨_, _, _, _, of1⟩ ?_
  have un : Un (frs X.stack) [] H G1 s.heap s1.heap := I1.base
  obtain ⟨⟨oc, vs, t, k1, k2, k3⟩, _, _⟩ := I1.hok c' _ h2
  have runs : codeAny (model X.prog X.w) (X.A.deeper (envOfC x sg s.heap.objs.size g cdg)) (.call (.ref f) ⟨[], []⟩) (CR (L2N.CX X.prog X.w) (envOfC x sg s.heap.objs.size g cdg :: X.stack) X.prog X.w G1 s1 Q (fun cls d G' => W cls d τ G')) s1 := by
    refine PySem.W.kla_callFunE hr.depth of1 rfl L.co L.gen rfl ⟨c', oc, vs, t, rfl, k1, k2, k3⟩ ?_
    rw [hbind]
    refine wpAny_pure (wpAny_newFunctionEnv (fun y hy => (L.own y hy).2) (fun y hy => absurd hy (by simp)) (fun h₁ hns sb => ⟨I1.nolimit.fresh _ sb, ?_⟩) L.kind)
    show codeAny _ _ (.expr body (LamX.lamEnv X scope s1.heap.objs.size f c')) _ _
    have kp : ∀ b o, s1.heap.get? b = some o → h₁.get? b = some o := fun b o e => sb.extBut b o (Nat.ne_of_lt (Heap.lt_size e)) (Heap.get?_push_of_some _ e)
    have J0 := LamX.lam_start2 (tk := s1.toks + ([] : List (Str × Value)).length) (E := fun cls d G' => W cls d τ G') (f := f) (c' := c') I L I1.env0 hr.hd un hns kp
    have J : Inv (lamN X (X.A.deeper (envOfC x sg s.heap.objs.size g cdg)) (envOfC x sg s.heap.objs.size g cdg :: X.stack) s1 G1 (fun cls d G' => W cls d τ G') scope f c') [] σ G1 { s1 with heap := h₁, toks := s1.toks + ([] : List (Str × Value)).length } := J0.toTry _
    refine PySem.W.kla_codeExpr (wpAny_mono ((hbody _ _ s1 G1 _ (hr.deeper _) (guards_deeper hG)).run [] _ _ G1 Q J h3) (fun v s2 got => ?_) fun e s2 got => got)
    obtain ⟨w2, G2, J2, r2, q2⟩ := got
    exact ⟨w2, G2, J2.os, J2.bare, J2.base, J2.hok, r2, q2⟩
  refine wpAny_call (codeAny_mono runs fun r s2 got => ?_)
  cases r with
  | error e => exact L2N.passAt tk τ pz G1 s1 e s2 I1 got
  | ok fl => cases fl with
    | ret u => exact I1.after got
    | next => exact False.elim got
    | brk => exact False.elim got
    | cont => exact False.elim got
structure Made (H H1 : Hp) : Prop where
  ext : LamX.ExtN H H1
  old : ∀ b, H1 b = none → H b = none
theorem lam_makeN {T : List (Addr × Str)} {c P : Addr} {params : Arguments} {body : Expr} {scope : Scope} {pos : Pos} {E : Value → Shared → Prop} {Q : Value → Shared → Prop} (I : Inv X pins σ H s) (TB : LamX.TabB X.base X.mg c P) (hcode : X.env.code = .ref c)
    (hm : (P, X.env.qual ++ "<lambda>") ∈ T) (hu : ∀ p ∈ T, p.1 = P → p.2 = X.env.qual ++ "<lambda>") (hT : LamX.Tabs T H) (hdef : defaultsOf params X.env = ([], [])) (hfree : ∀ y ∈ scope.names, y.2 = .free → ∃ c, X.env.cells.lookup y.1 = some c)
    (k : ∀ (f c' : Addr) (pm ctv : Value) (H1 : Hp) (r : Shared), Inv X pins σ H1 r → Made H H1 → LamX.Tabs T H1 → r.heap.get? f = some (PySem.W.kla_obj "<lambda>" (X.env.qual ++ "<lambda>") params body scope (cloFrom X.env.cells scope.names []) pm c' ctv) →
      H1 f = none → f ∉ frs X.stack → H1 c' = some (LamX.CodeO c' (X.env.qual ++ "<lambda>")) → Q (.ref f) r) : wpAny (model X.prog X.w) X.A (eval (.Lambda params body scope pos) X.env) Q E s := by
  obtain ⟨ps, hP, tri, named⟩ := hT _ hm
  have tbP : s.heap.get? P = some { cls := .none, data := .fields ps } := I.hok P _ hP
  have away : ∀ f, s.heap.objs.size ≤ f → f ∉ frs X.stack := fun f big z => by
    rcases List.mem_cons.mp (I.stkSub _ z) with e | e
    · have h1 := I.lt
      rw [← e] at h1
      exact Nat.lt_irrefl _ (Nat.lt_of_lt_of_le h1 big)
    · exact I.nofs big e
  refine PySem.W.kla_eval hdef ?_
  cases known : codeAmong pos ps.toList with
  | some cv =>
    obtain ⟨c', e, hco⟩ := named pos cv known
    subst e
    refine PySem.W.kla_makeFunctionHit (mg := X.mg) (c := c) (P := P) (ps := ps) (closure_ok hfree) I.ok.glob (I.mod.glob.keeps I.bk) hcode (TB.code.keeps I.bk) tbP tri known (TB.bm.keeps I.bk) fun ctv g tk hx hsz => ?_
    have I1 : Inv X pins σ H { s with heap := g.push (PySem.W.kla_obj "<lambda>" (X.env.qual ++ "<lambda>") params body scope (cloFrom X.env.cells scope.names []) ((X.mg "__name__").getD .none) c' ctv), toks := tk } := I.kept fun b o e => Heap.get?_push_of_some _ (hx b o e)
    exact k g.objs.size c' _ ctv H _ I1 ⟨LamX.ExtN.refl H, fun _ z => z⟩ hT (Heap.get?_push_size _ rfl) (I.hok.fresh hsz) (away _ hsz) hco
  | none =>
    refine PySem.W.kla_makeFunction (mg := X.mg) (c := c) (P := P) (ps := ps) (closure_ok hfree) I.ok.glob (I.mod.glob.keeps I.bk) hcode (TB.code.keeps I.bk) tbP tri known TB.gP (TB.bm.keeps I.bk) fun c' ctv g tk hx hge hlt hrec htb => ?_
    obtain ⟨c2, oc, vs, t, e2, hoc, hd, hv⟩ := hrec
    cases e2
    have big : s.heap.objs.size ≤ g.objs.size := Nat.le_trans hge (Nat.le_of_lt hlt)
    have nC : H c' = none := I.hok.fresh hge
    have nPc : P ≠ c' := ne_of_none hP nC
    have I1 := LamX.inv_table (t' := tk) (more := #[rawInt pos.line, rawInt pos.col, .ref c']) (h' := g.push (PySem.W.kla_obj "<lambda>" (X.env.qual ++ "<lambda>") params body scope (cloFrom X.env.cells scope.names []) ((X.mg "__name__").getD .none) c' ctv)) I hP
      (fun b o hb e => Heap.get?_push_of_some _ (hx b o hb e)) (Heap.get?_push_of_some _ htb) hge ⟨oc, vs, t, Heap.get?_push_of_some _ hoc, hd, hv⟩
    -- the heap then
    obtain ⟨H1, eH⟩ : ∃ H1 : Hp, H1 = upd (upd H P (.tbl (ps ++ #[rawInt pos.line, rawInt pos.col, .ref c']))) c' (LamX.CodeO c' (X.env.qual ++ "<lambda>")) := ⟨_, rfl⟩
    rw [← eH] at I1
    have atC : H1 c' = some (LamX.CodeO c' (X.env.qual ++ "<lambda>")) := by rw [eH, upd_same]
    have atP : H1 P = some (.tbl (ps ++ #[rawInt pos.line, rawInt pos.col, .ref c'])) := by rw [eH, upd_ne nPc, upd_same]
    have else_ : ∀ b, b ≠ P → b ≠ c' → H1 b = H b := fun b h1 h2 => by rw [eH, upd_ne h2, upd_ne h1]
    have M : Made H H1 := by
      refine ⟨fun b o e n => ?_, fun b e => ?_⟩
      · have b1 : b ≠ P := fun z => n ps (Option.some.inj (e.symm.trans (z ▸ hP)))
        rw [else_ b b1 (ne_of_none e nC)]
        exact e
      · have b1 : b ≠ P := fun z => by rw [z, atP] at e; cases e
        have b2 : b ≠ c' := fun z => by rw [z, atC] at e; cases e
        rw [← else_ b b1 b2]
        exact e
    have app : (ps ++ #[rawInt pos.line, rawInt pos.col, .ref c']).toList = ps.toList ++ [rawInt pos.line, rawInt pos.col, .ref c'] := by simp
    refine k g.objs.size c' _ ctv H1 _ I1 M (fun p hp => ?_) (Heap.get?_push_size _ rfl) ?_ (away _ big) atC
    · by_cases hb : p.1 = P
      · rw [hu p hp hb, hb]
        refine ⟨_, atP, by rw [app]; exact PySem.TriplesOk_snoc _ _ _ _ tri, fun p' cv hcv => ?_⟩
        rw [app] at hcv
        rcases LamX.among_app _ tri hcv with z | z
        · obtain ⟨c0, e1, e2⟩ := named p' cv z
          exact ⟨c0, e1, M.ext _ _ e2 LamX.codeO_ne⟩
        · exact ⟨c', z, atC⟩
      · obtain ⟨ps', a1, a2, a3⟩ := hT p hp
        refine ⟨ps', by rw [else_ _ hb (ne_of_none a1 nC)]; exact a1, a2, fun p' cv hcv => ?_⟩
        obtain ⟨c0, e1, e2⟩ := a3 p' cv hcv
        exact ⟨c0, e1, M.ext _ _ e2 LamX.codeO_ne⟩
    · rw [else_ _ (Nat.ne_of_gt (Nat.lt_of_lt_of_le (Heap.lt_size tbP) big)) (Nat.ne_of_gt hlt)]
      exact I.hok.fresh big
def GivesN (X : Cx) (Ng : List Str) (x : Str) (sg : Scope) (g : Addr) (cdg : Value) (bg : List Stmt) (a q : Str) (k : Nat) (TT : (XK → Hp → VK → Prop) → Hp → VK → Prop) : Prop :=
  ∀ (f c' : Addr) (s : Shared) (H : Hp) (Q : VK) (tl : XK → Hp → VK → Prop), Room k (X.A.deeper (envOfC x sg s.heap.objs.size g cdg)) →
    (∀ (W : WX) (pn : List (Addr × Obj)) (xe : Value → Shared → Prop) (p1 p2 : Pos), L2N.Takes ((gotCx X Ng x sg g cdg s H).tr pn xe) W →
      PE ((gotCx X Ng x sg g cdg s H).tr pn xe) (.Call (.Name a p1) [] [] p2) (fun τ G Q => τ[0]? = some (some (.ref f)) ∧ G c' = some (LamX.CodeO c' q) ∧ tl (fun cls d G' => W cls d τ G') G Q)) →
    H c' = some (LamX.CodeO c' q) → TT tl H Q →
    ∃ t, PSs (gotCx X Ng x sg g cdg s H) bg t ∧ t { nx := fun _ H' => Q .non H', rt := Q } (L2.start Ng [.ref f]) H
def tLamN (T : List (Addr × Str)) (TT : (XK → Hp → VK → Prop) → Hp → VK → Prop) (t : XK → TE) : TE := fun σ H Q => LamX.Tabs T H ∧ ∀ H1, Made H H1 → LamX.Tabs T H1 → TT (fun E G Q' => t E σ G Q') H1 Q
theorem pe_lamN {TT : (XK → Hp → VK → Prop) → Hp → VK → Prop} {x qual a : Str} {g c P : Addr} {k : Nat} {pg params : Arguments} {bg : List Stmt} {sg scope : Scope} {kws : List (Str × V)} {fd : FuncData} {Ng : List Str} {body : Expr} {t : XK → TE} {p lpos pos : Pos}
    (D : FunD X.K x x pg bg sg [] kws g fd) (Sg : FnScope Ng [a] sg) (h0 : Ng[0]? = some a) (va : Vis sg a) (hb : L2.Binds X.K fd [a] []) (gl : Gl X x) (at_ : X.mg x = some (.ref g)) (hG : ∀ cdg, GivesN X Ng x sg g cdg bg a (X.env.qual ++ "<lambda>") (k + 1) TT)
    (TB : LamX.TabB X.base X.mg c P) (hcode : X.env.code = .ref c) (hm : (P, X.env.qual ++ "<lambda>") ∈ tabsOf X.K) (hu : ∀ p ∈ tabsOf X.K, p.1 = P → p.2 = X.env.qual ++ "<lambda>") (hr : Room (k + 2) X.A) (gd : X.A.guards = some [])
    (L : LamX.LamS X.env.scope scope) (hdef : defaultsOf params X.env = ([], [])) (hbind : ∀ (q : Str) (cl : List (Str × Addr)) (pm cv ctv : Value), bindArgs (PySem.W.kla_fn "<lambda>" q params body scope cl pm cv ctv) ⟨[], []⟩ = pure [])
    (hbody : ∀ (A : Around) (outer : List Env) (s : Shared) (H : Hp) (E : XK) (f c' : Addr), Room k (A.deeper (LamX.lamEnv X scope s.heap.objs.size f c')) → A.guards = some [] → PE (lamN X A outer s H E scope f c') body (t E))
    (d1 : (x == ("__debug__" : Str)) = false := by decide) (d2 : (a == ("__debug__" : Str)) = false := by decide) (d3 : (a == ("__classdict__" : Str)) = false := by decide) :
    PE X (.Call (.Name x p) [.Lambda params body scope lpos] [] pos) (tLamN (tabsOf X.K) TT t) := by
  constructor
  intro pins s σ H Q I h
  obtain ⟨hT, h⟩ := h
  have kp := D.kp
  obtain ⟨c0, c1, dV, kV, c2, c3, c4, cdv, c5, c6, rfl, look, cin, -, -⟩ := D.ex
  refine wpAny_Call_Name_kw (ld_glob I gl at_ (PySem.W.callWith_K (h₀ := X.base) I.ok.mod.kin kp ?_ (by rfl) (by rfl)) d1)
  show wpAny _ _ (spliced ((false, eval (.Lambda params body scope lpos) X.env) :: backTo pos (starEach [] X.env))) _ _ s
  refine Calls.spliced_cons (lam_makeN I TB hcode hm hu hT hdef (L.has I.ok) fun f c' pm' ctv H1 s1 I1 eN T1 g1 g2 g3 g4 => Calls.spliced_nil ⟨I1.kIn, ?_⟩)
  have runs : codeAny (model X.prog X.w) X.A (.call (.ref g) ⟨[.ref f], []⟩) (CR (L2N.CX X.prog X.w) X.stack X.prog X.w H1 s1 Q fun _ _ _ => False) s1 := by
    refine LamX.run_ofS (N := Ng) (ps := [a]) (us := [.ref f]) (vs := [.ref f]) look cin Sg hr I1.env0 (hb s1 [.ref f] I1.kIn rfl) (.cons rfl .nil) rfl fun hr2 => ?_
    exact hG cdv f c' s1 H1 Q (fun E G Q' => t E σ G Q') hr2 (fun W pn xe p1 p2 tk => pe_actN (i := 0) I1 L g1 g2 g3 (hbind _ _ _ _ _) tk hr2 gd (fun A outer s H E hr3 hg => hbody A outer s H E f c' hr3 hg) h0 va d2 d3) g4 (h H1 eN T1)
  refine wpAny_call (codeAny_mono runs fun r s2 got => ?_)
  cases r with
  | error e =>
    obtain ⟨_, _, _, _, _, _, _, _, _, _, _, _, no⟩ := got
    exact no.elim
  | ok fl => cases fl with
    | ret u => exact I1.after got
    | next => exact False.elim got
    | brk => exact False.elim got
    | cont => exact False.elim got
end
end Pu
set_option Elab.async false
set_option linter.all false
set_option maxRecDepth 100000
set_option maxHeartbeats 2000000
namespace Pu
open PySem PySem.Spec PyProof.Rows L2
open Evl (Ex Ev EvL EvA EvT)
structure FactA (K : PySem.W.Frag) (C : Str) : Prop where
  er : ErrC K (He.ga K C)
  row : ∀ q ∈ tblA, PySem.W.kitOne K (.ref (He.ga K C)) (.ref (He.ga K q.2)) = some (q.2 == C)
  b0 : PySem.W.kitOne K (.ref (He.ga K C)) (.ref (He.ga K "NotRight")) = some (famOf C == 0)
  b1 : PySem.W.kitOne K (.ref (He.ga K C)) (.ref (He.ga K "NotKnown")) = some (famOf C == 1)
  b2 : PySem.W.kitOne K (.ref (He.ga K C)) (.ref (He.ga K "NotPossible")) = some (famOf C == 2)
  p0 : PySem.W.kitOne K (.ref (He.ga K C)) (.type "ValueError") = some (famOf C == 0)
  p1 : PySem.W.kitOne K (.ref (He.ga K C)) (.type "LookupError") = some (famOf C == 1)
  p2 : PySem.W.kitOne K (.ref (He.ga K C)) (.type "ArithmeticError") = some (famOf C == 2)
  exm : PySem.W.exmAny K (.ref (He.ga K C)) [.ref (He.ga K "NotRight"), .ref (He.ga K "NotKnown"), .ref (He.ga K "NotPossible")] = some true
  idx : PySem.W.kitAny K (.ref (He.ga K C)) (idxA.map fun q => .ref (He.ga K q)) = some (idxA.contains C)
  fld : ∀ f ∈ fldNames, PySem.W.findIn K (.ref (He.ga K C)) f = some none
theorem factA_of {K : PySem.W.Frag} {R : List Str} {C : Str} (h : chkA K R = true) (hC : C ∈ R) : C ∈ tblA.map (·.2) ∧ FactA K C := by
  have h := List.all_eq_true.mp h C hC
  rw [Bool.and_eq_true] at h
  refine ⟨List.contains_iff_mem.mp h.1, ?_⟩
  have h := h.2
  unfold chkA1 kitB at h
  simp only [Bool.and_eq_true, decide_eq_true_eq] at h
  obtain ⟨h1, h2, h3, h4, h5, h6, h7, h8, h9, h10, h11⟩ := h
  refine ⟨errC_ok h1, fun q hq => of_decide_eq_true (List.all_eq_true.mp h2 q hq), h3, h4, h5, h6, h7, h8, h9, h10, fun f hf => He.eqO_ok (List.all_eq_true.mp h11 f hf)⟩
theorem pickA : ∀ C ∈ tblA.map (·.2), (tblA.filter fun r => r.2 == C).map (·.1) = [wordA C] := by decide +kernel
def isE (K : PySem.W.Frag) (D a : Addr) (d : Option Addr) (i : Nat) (v : V) : TE := tCB (rIsX K D a d) (tCons (tVar i) (tCons (tC v) tNil))
section
variable {K : PySem.W.Frag} {D a : Addr} {d : Option Addr} {σ : Sig} {H : Hp} {i : Nat}
theorem ev_isE {v : V} {cv : Value} {b : Bool} (hσ : σ[i]? = some (some (.ref a))) (hd : DictAt H d) (hv : ∀ u, RelV v u → u = cv) (hk : PySem.W.kitOne K (.ref D) cv = some b) : Evl.Ev (isE K D a d i v) σ H (.bl b) :=
  Evl.ev_cb (Evl.ea_cons (Evl.ev_var hσ) (Evl.ea_cons Evl.ev_c Evl.ea_nil)) fun H1 e Q q => ⟨hd.ex e, v, b, rfl, q H1 (Ex.refl H1), .inl ⟨cv, hv, hk⟩⟩
theorem rel_ref {q : Addr} : ∀ u, RelV (.ref q) u → u = .ref q := fun _ h => h
theorem rel_ty {n : String} : ∀ u, RelV (.ty n) u → u = .type n := fun _ h => h
theorem lst2 {ta tb : TE} {Q : VK} (h : ta σ H fun x H1 => tb σ H1 fun y H2 => 2 ≤ sizeLine ∧ ∀ p, H2 p = none → Q (.ref p) (upd H2 p (.lst [x, y]))) : tLst (tCons ta (tCons tb tNil)) σ H Q := h
theorem seq_asg {te : TE} {u : TS} {D : Ends} {i : Nat} (h : te σ H fun x H1 => u D (σ.set i (some x)) H1) : tSeq (tAsg te (gName i)) u D σ H := h
def tRow (K : PySem.W.Frag) (D a : Addr) (d : Option Addr) (r : Str × Str) : TE := tLst (tCons (tC (.str r.1)) (tCons (isE K D a d 0 (.ref (He.ga K r.2))) tNil))
def tTwo (K : PySem.W.Frag) (D a : Addr) (d : Option Addr) (r q : Str × Str) : TE := tLst (tCons (tRow K D a d r) (tCons (tRow K D a d q) tNil))
theorem two_ok {r q : Str × Str} {b c : Bool} (hσ : σ[0]? = some (some (.ref a))) (hd : DictAt H d) (h1 : PySem.W.kitOne K (.ref D) (.ref (He.ga K r.2)) = some b) (h2 : PySem.W.kitOne K (.ref D) (.ref (He.ga K q.2)) = some c) {Q : VK}
    (k : ∀ l p1 p2 H', Ex H H' → H l = none → RowsAt H' l [(p1, r.1, b), (p2, q.1, c)] → Q (.ref l) H') : tTwo K D a d r q σ H Q := by
  have row : ∀ {r : Str × Str} {b : Bool} {G : Hp}, Ex H G → PySem.W.kitOne K (.ref D) (.ref (He.ga K r.2)) = some b → EvL (tRow K D a d r) σ G [.str r.1, .bl b] := fun e h =>
    Evl.el_lst (Evl.ea_cons Evl.ev_c (Evl.ea_cons (ev_isE hσ (hd.ex e) rel_ref h) Evl.ea_nil)) (by simp)
  refine lst2 (row (Ex.refl H) h1 H (Ex.refl H) _ fun p1 H1 n1 e1 g1 => row e1 h2 H1 (Ex.refl H1) _ fun p2 H2 n2 e2 g2 => ⟨by rw [sizeLine_eq]; decide, fun l hl => ?_⟩)
  have e3 : Ex H2 (upd H2 l (.lst [.ref p1, .ref p2])) := Ex.new hl
  refine k l p1 p2 _ ((e1.trans e2).trans e3) (Evl.fresh_back (e1.trans e2) hl) ⟨upd_same, fun z hz => ?_⟩
  simp only [List.mem_cons, List.not_mem_nil, or_false] at hz
  rcases hz with rfl | rfl
  · exact e3 _ _ (e2 _ _ g1)
  · exact e3 _ _ g2
theorem more_ok {r q : Str × Str} {b c : Bool} {l : Addr} {rows : List Row3} (hσ : σ[0]? = some (some (.ref a))) (hl : σ[1]? = some (some (.ref l))) (hd : DictAt H d) (hr : RowsAt H l rows) (hn : rows.length ≤ 100) (h1 : PySem.W.kitOne K (.ref D) (.ref (He.ga K r.2)) = some b) (h2 : PySem.W.kitOne K (.ref D) (.ref (He.ga K q.2)) = some c) {Q : VK}
    (k : ∀ l' p1 p2 H', Ex H H' → RowsAt H' l' (rows ++ [(p1, r.1, b), (p2, q.1, c)]) → Q (.ref l') H') : tOp (rAddA K) (tVar 1) (tTwo K D a d r q) σ H Q := by
  refine ⟨_, hl, two_ok hσ hd h1 h2 fun m p1 p2 H1 e1 _ g1 => ?_⟩
  have hr1 := hr.ex e1
  refine .inr (.inr (.inl ⟨l, m, _, _, rfl, rfl, .inl hr1.1, .inl g1.1, by simp only [List.length_map, List.length_cons, List.length_nil]; rw [sizeLine_eq]; omega, fun p hp => ?_⟩))
  have e2 : Ex H1 (upd H1 p (.lst ((rows.map fun r => V.ref r.1) ++ [((p1, r.1, b) : Row3), (p2, q.1, c)].map fun r => V.ref r.1))) := Ex.new hp
  refine k p p1 p2 _ (e1.trans e2) ⟨by rw [List.map_append]; exact upd_same, fun z hz => ?_⟩
  rcases List.mem_append.mp hz with hz | hz
  · exact e2 _ _ (hr1.2 z hz)
  · exact e2 _ _ (g1.2 z hz)
def tClsA (K : PySem.W.Frag) (D a : Addr) (d : Option Addr) : TS :=
  tSeq (tAsg (tTwo K D a d ("text", "InvalidText") ("number", "InvalidNumber")) (gName 1))
  (tSeq (tAsg (tOp (rAddA K) (tVar 1) (tTwo K D a d ("setting", "InvalidSetting") ("index", "InvalidIndex"))) (gName 1))
  (tSeq (tAsg (tOp (rAddA K) (tVar 1) (tTwo K D a d ("rule", "NotARule") ("rounds", "NotRounds"))) (gName 1))
  (tSeq (tAsg (tOp (rAddA K) (tVar 1) (tTwo K D a d ("notes", "InvalidNotes") ("times", "InvalidTimes"))) (gName 1))
  (tSeq (tAsg (tOp (rAddA K) (tVar 1) (tTwo K D a d ("offers", "InvalidOffers") ("fines", "InvalidFines"))) (gName 1))
  (tSeq (tAsg (tOp (rAddA K) (tVar 1) (tTwo K D a d ("rules", "InvalidRules") ("none", "NoFit"))) (gName 1))
  (tSeq (tAsg (tOp (rAddA K) (tVar 1) (tTwo K D a d ("many", "TooMany") ("broken", "Broken"))) (gName 1))
  (tSeq (tAsg (tPick 1) (gName 2))
  (tRet (tIf (tTest (tOp rEq (tCB (rLenA K) (tCons (tVar 2) tNil)) (tC (.int 1)))) (tOp (rIx K) (tVar 2) (tC (.int 0))) (tC (.str "odd")))))))))))
theorem clsA_ok {C : Str} (hC : C ∈ tblA.map (·.2)) (F : FactA K C) (hd : DictAt H d) {nx : Sig → Hp → Prop} {Q : VK} {bk ct : Sig → Hp → Prop} (k : ∀ H', Ex H H' → Q (.str (wordA C)) H') :
    tClsA K (He.ga K C) a d { nx := nx, rt := Q, bk := bk, ct := ct } (start ["_law_e", "_law_sorts", "_law_found"] [.ref a]) H := by
  have kk : ∀ r ∈ tblA, PySem.W.kitOne K (.ref (He.ga K C)) (.ref (He.ga K r.2)) = some (r.2 == C) := F.row
  have st : start ["_law_e", "_law_sorts", "_law_found"] [.ref a] = [some (.ref a), none, none] := rfl
  rw [st]
  unfold tClsA
  refine seq_asg (two_ok rfl hd (kk ("text", "InvalidText") (by decide +kernel)) (kk ("number", "InvalidNumber") (by decide +kernel)) fun l1 p1 p2 H1 e1 _ g1 => ?_)
  refine seq_asg (more_ok (l := l1) rfl rfl (hd.ex e1) g1 (by simp) (kk ("setting", "InvalidSetting") (by decide +kernel)) (kk ("index", "InvalidIndex") (by decide +kernel)) fun l2 p3 p4 H2 e2 g2 => ?_)
  have e2 := e1.trans e2
  refine seq_asg (more_ok (l := l2) rfl rfl (hd.ex e2) g2 (by simp) (kk ("rule", "NotARule") (by decide +kernel)) (kk ("rounds", "NotRounds") (by decide +kernel)) fun l3 p5 p6 H3 e3 g3 => ?_)
  have e3 := e2.trans e3
  refine seq_asg (more_ok (l := l3) rfl rfl (hd.ex e3) g3 (by simp) (kk ("notes", "InvalidNotes") (by decide +kernel)) (kk ("times", "InvalidTimes") (by decide +kernel)) fun l4 p7 p8 H4 e4 g4 => ?_)
  have e4 := e3.trans e4
  refine seq_asg (more_ok (l := l4) rfl rfl (hd.ex e4) g4 (by simp) (kk ("offers", "InvalidOffers") (by decide +kernel)) (kk ("fines", "InvalidFines") (by decide +kernel)) fun l5 p9 p10 H5 e5 g5 => ?_)
  have e5 := e4.trans e5
  refine seq_asg (more_ok (l := l5) rfl rfl (hd.ex e5) g5 (by simp) (kk ("rules", "InvalidRules") (by decide +kernel)) (kk ("none", "NoFit") (by decide +kernel)) fun l6 p11 p12 H6 e6 g6 => ?_)
  have e6 := e5.trans e6
  refine seq_asg (more_ok (l := l6) rfl rfl (hd.ex e6) g6 (by simp) (kk ("many", "TooMany") (by decide +kernel)) (kk ("broken", "Broken") (by decide +kernel)) fun l7 p13 p14 H7 e7 g7 => ?_)
  have e7 := e6.trans e7
  obtain ⟨rows, hrows⟩ : ∃ rows : List Row3, rows = ([(p1, ("text" : Str), (("InvalidText" : Str) == C)), (p2, ("number" : Str), (("InvalidNumber" : Str) == C))] : List Row3) ++ ([(p3, ("setting" : Str), (("InvalidSetting" : Str) == C)), (p4, ("index" : Str), (("InvalidIndex" : Str) == C))] : List Row3) ++ ([(p5, ("rule" : Str), (("NotARule" : Str) == C)), (p6, ("rounds" : Str), (("NotRounds" : Str) == C))] : List Row3) ++ ([(p7, ("notes" : Str), (("InvalidNotes" : Str) == C)), (p8, ("times" : Str), (("InvalidTimes" : Str) == C))] : List Row3) ++ ([(p9, ("offers" : Str), (("InvalidOffers" : Str) == C)), (p10, ("fines" : Str), (("InvalidFines" : Str) == C))] : List Row3) ++ ([(p11, ("rules" : Str), (("InvalidRules" : Str) == C)), (p12, ("none" : Str), (("NoFit" : Str) == C))] : List Row3) ++ ([(p13, ("many" : Str), (("TooMany" : Str) == C)), (p14, ("broken" : Str), (("Broken" : Str) == C))] : List Row3) := ⟨_, rfl⟩
  have gg : RowsAt H7 l7 rows := by rw [hrows]; exact g7
  have asT : rows.map (fun r => (r.2.1, r.2.2)) = tblA.map fun r => (r.1, r.2 == C) := by rw [hrows]; rfl
  have fil : ∀ (rs : List Row3) (ts : List (Str × Str)), rs.map (fun r => (r.2.1, r.2.2)) = ts.map (fun r => (r.1, r.2 == C)) → (rs.filter fun r => r.2.2).map (fun r => V.str r.2.1) = ((ts.filter fun r => r.2 == C).map (·.1)).map V.str := by
    intro rs
    induction rs with
    | nil => intro ts h; cases ts with
      | nil => rfl
      | cons t ts => cases h
    | cons r rs ih => intro ts h; cases ts with
      | nil => cases h
      | cons t ts =>
        rw [List.map_cons, List.map_cons] at h
        injection h with h1 h2
        injection h1 with h3 h4
        rw [List.filter_cons, List.filter_cons, h4]
        cases hc : (t.2 == C) with
        | true => simp only [if_true, List.map_cons, ih ts h2, h3]
        | false => simpa using ih ts h2
  have one := fil rows tblA asT
  rw [pickA C hC] at one
  refine seq_asg ?_
  refine ⟨l7, rows, rfl, gg.1, gg.2, by rw [hrows]; simp, fun p hp => ?_⟩
  rw [one]
  have e8 : Ex H7 (upd H7 p (.lst (List.map V.str [wordA C]))) := Ex.new hp
  show tCB (rLenA K) (tCons (tVar 2) tNil) _ _ _
  refine ⟨.ref p, rfl, ?_⟩
  refine .inl ⟨p, _, rfl, .inl (SqL.of upd_same), ?_⟩
  refine ⟨rfl, _, rfl, ?_⟩
  show (if decide (V.int (((List.map V.str [wordA C]).length : Nat) : Int) = V.int 1) = true then tOp (rIx K) (tVar 2) (tC (.int 0)) _ _ _ else _)
  rw [if_pos (show decide (V.int (((List.map V.str [wordA C]).length : Nat) : Int) = V.int 1) = true from rfl)]
  refine ⟨.ref p, rfl, .inl ⟨p, _, 0, .str (wordA C), rfl, rfl, SqL.of upd_same, rfl, ?_⟩⟩
  exact k _ (e7.trans e8)
end
end Pu
set_option Elab.async false
set_option linter.all false
set_option maxRecDepth 100000
set_option maxHeartbeats 2000000
namespace Pu
open PySem PySem.Spec PyProof.Rows L2
open Evl (Ex EvL EvA EvT)
def tTr (K : PySem.W.Frag) (te : TE) : TT := fun σ H Q => te σ H fun x H' => ∃ k, TruV K x H' k ∧ Q k H'
def isTup (K : PySem.W.Frag) (D a : Addr) (d : Option Addr) (i : Nat) (vs : List V) : TE := tCB (rIsX K D a d) (tCons (tVar i) (tCons (tTup fun _ H Q => Q vs H) tNil))
section
variable {K : PySem.W.Frag} {D a : Addr} {d : Option Addr} {σ : Sig} {H : Hp} {i : Nat}
theorem et_isE {v : V} {cv : Value} {b : Bool} (hσ : σ[i]? = some (some (.ref a))) (hd : DictAt H d) (hv : ∀ u, RelV v u → u = cv) (hk : PySem.W.kitOne K (.ref D) cv = some b) : EvT (tTr K (isE K D a d i v)) σ H b := fun H1 e Q q =>
  ev_isE hσ hd hv hk H1 e _ fun H2 e2 => ⟨b, rfl, q H2 e2⟩
theorem et_isTup {vs : List V} {cvs : List Value} {b : Bool} (hσ : σ[i]? = some (some (.ref a))) (hd : DictAt H d) (hv : ∀ ws, Vals vs ws → ws = cvs) (hl : vs.length ≤ 1000) (hk : PySem.W.kitAny K (.ref D) cvs = some b) : EvT (tTr K (isTup K D a d i vs)) σ H b := fun H1 e Q q => by
  refine ⟨_, hσ, by rw [sizeLine_eq]; omega, fun p hp => ?_⟩
  have e2 : Ex H1 (upd H1 p (.tup vs)) := Ex.new hp
  exact ⟨hd.ex (e.trans e2), .ref p, b, rfl, ⟨b, rfl, q _ e2⟩, .inr ⟨p, vs, cvs, rfl, SqT.of upd_same, hv, hk⟩⟩
theorem vals_refs {as : List Addr} : ∀ {ws : List Value}, Vals (as.map V.ref) ws → ws = as.map Value.ref := by
  induction as with
  | nil => intro ws h; cases h; rfl
  | cons x xs ih =>
    intro ws h
    cases h with
    | cons h1 h2 =>
      cases h1
      rw [ih h2]; rfl
def tFldA (K : PySem.W.Frag) (D a : Addr) (d : Option Addr) : TS :=
  tSeq (tIfS (tTr K (isTup K D a d 0 (idxA.map fun q => .ref (He.ga K q)))) (tRet (tXG a d "index" (tVar 0))) tNext)
  (tSeq (tIfS (tTr K (isE K D a d 0 (.ref (He.ga K "NoFit")))) (tRet (tC .non)) tNext)
  (tRet (tIf (tTr K (isE K D a d 0 (.ref (He.ga K "TooMany")))) (tXG a d "limit" (tVar 0)) (tXG a d "given" (tVar 0)))))
theorem xg_ok {f : Str} {u : V} {Q : VK} (hσ : σ[i]? = some (some (.ref a))) (hf : FieldAt H d (some f) u) (q : Q u H) : tXG a d f (tVar i) σ H Q := by
  obtain ⟨dd, fs, h1, h2, h3⟩ := hf
  exact ⟨_, hσ, rfl, dd, fs, u, h1, h2, h3, q⟩
theorem fldA_ok {C : Str} {u : V} (hC : C ∈ tblA.map (·.2)) (F : FactA K C) (hd : DictAt H d) (hf : FieldAt H d (fldA C) u) {nx : Sig → Hp → Prop} {Q : VK} {bk ct : Sig → Hp → Prop} (k : ∀ H', Ex H H' → Q u H') :
    tFldA K (He.ga K C) a d { nx := nx, rt := Q, bk := bk, ct := ct } (start ["_law_e"] [.ref a]) H := by
  have st : start ["_law_e"] [.ref a] = [some (V.ref a)] := rfl
  rw [st]
  have hv : ∀ ws, Vals (idxA.map fun q => V.ref (He.ga K q)) ws → ws = idxA.map fun q => Value.ref (He.ga K q) := fun ws h => by
    have e1 : (idxA.map fun q => V.ref (He.ga K q)) = (idxA.map fun q => He.ga K q).map V.ref := by rw [List.map_map]; rfl
    have e2 : (idxA.map fun q => Value.ref (He.ga K q)) = (idxA.map fun q => He.ga K q).map Value.ref := by rw [List.map_map]; rfl
    rw [e1] at h
    rw [e2]
    exact vals_refs h
  have nf := F.row ("none", "NoFit") (by decide +kernel)
  have tm := F.row ("many", "TooMany") (by decide +kernel)
  refine et_isTup (i := 0) rfl hd hv (by rw [List.length_map]; decide) F.idx H (Ex.refl H) _ fun H1 e1 => ?_
  unfold fldA at hf
  cases hi : idxA.contains C with
  | true =>
    rw [hi, if_pos rfl] at hf
    rw [if_pos rfl]
    exact xg_ok (i := 0) rfl (hf.ex e1) (k _ e1)
  | false =>
    rw [hi, if_neg Bool.false_ne_true] at hf
    rw [if_neg Bool.false_ne_true]
    refine et_isE (i := 0) rfl (hd.ex e1) rel_ref nf H1 (Ex.refl H1) _ fun H2 e2 => ?_
    by_cases hn : C = ("NoFit" : Str)
    · rw [if_pos hn] at hf
      have : ((("none", "NoFit") : Str × Str).2 == C) = true := by rw [hn]; decide +kernel
      rw [this, if_pos rfl]
      have hu : u = .non := hf
      rw [← hu]
      exact k _ (e1.trans e2)
    · rw [if_neg hn] at hf
      have : ((("none", "NoFit") : Str × Str).2 == C) = false := beq_eq_false_iff_ne.mpr fun z => hn z.symm
      rw [this, if_neg Bool.false_ne_true]
      refine et_isE (i := 0) rfl (hd.ex (e1.trans e2)) rel_ref tm H2 (Ex.refl H2) _ fun H3 e3 => ?_
      have e := (e1.trans e2).trans e3
      by_cases ht : C = ("TooMany" : Str)
      · rw [if_pos ht] at hf
        have : ((("many", "TooMany") : Str × Str).2 == C) = true := by rw [ht]; decide +kernel
        rw [this, if_pos rfl]
        exact xg_ok (i := 0) rfl (hf.ex e) (k _ e)
      · rw [if_neg ht] at hf
        have : ((("many", "TooMany") : Str × Str).2 == C) = false := beq_eq_false_iff_ne.mpr fun z => ht z.symm
        rw [this, if_neg Bool.false_ne_true]
        exact xg_ok (i := 0) rfl (hf.ex e) (k _ e)
def spCls (C : Str) (a : Addr) (d : Option Addr) : Sp := fun vs H Q _ => vs = [.ref a] ∧ DictAt H d ∧ ∀ H', Ex H H' → Q (.str (wordA C)) H'
def spFld (C : Str) (a : Addr) (d : Option Addr) : Sp := fun vs H Q _ => vs = [.ref a] ∧ DictAt H d ∧ ∃ u, FieldAt H d (fldA C) u ∧ ∀ H', Ex H H' → Q u H'
def tIs3 (K : PySem.W.Frag) (D a : Addr) (d : Option Addr) (x y z : V) : TE := tLst (tCons (isE K D a d 2 x) (tCons (isE K D a d 2 y) (tCons (isE K D a d 2 z) tNil)))
def tSuiA (K : PySem.W.Frag) (C : Str) (a : Addr) (d : Option Addr) : TS :=
  tSeq (tAsg (tIs3 K (He.ga K C) a d (.ref (He.ga K "NotRight")) (.ref (He.ga K "NotKnown")) (.ref (He.ga K "NotPossible"))) (gName 3))
  (tSeq (tAsg (tIs3 K (He.ga K C) a d (.ty "ValueError") (.ty "LookupError") (.ty "ArithmeticError")) (gName 4))
  (tRet (tLst (tCons (tIf (tAnd (tTest (tOp (rEqA K) (tVar 3) (tVar 4))) (tTest (tOp rEq (tBM K "list" (rCntF K) (tVar 3) (tCons (tC (.bl true)) tNil)) (tC (.int 1))))) (cG (spCls C a d) noW [] (tCons (tVar 2) tNil)) (tC (.str "odd")))
    (tCons (cG (spFld C a d) noW [] (tCons (tVar 2) tNil)) tNil)))))
theorem is3_ok {x y z : V} {cx cy cz : Value} {b1 b2 b3 : Bool} {Q : VK} (hσ : σ[2]? = some (some (.ref a))) (hd : DictAt H d) (h1 : ∀ u, RelV x u → u = cx) (h2 : ∀ u, RelV y u → u = cy) (h3 : ∀ u, RelV z u → u = cz)
    (k1 : PySem.W.kitOne K (.ref D) cx = some b1) (k2 : PySem.W.kitOne K (.ref D) cy = some b2) (k3 : PySem.W.kitOne K (.ref D) cz = some b3) (k : ∀ p H', Ex H H' → H' p = some (.lst [.bl b1, .bl b2, .bl b3]) → Q (.ref p) H') : tIs3 K D a d x y z σ H Q := by
  have e := Evl.el_lst (Evl.ea_cons (ev_isE hσ hd h1 k1) (Evl.ea_cons (ev_isE hσ hd h2 k2) (Evl.ea_cons (ev_isE hσ hd h3 k3) Evl.ea_nil))) (by simp)
  exact e H (Ex.refl H) Q fun p H2 _ e2 g => k p H2 e2 g
theorem dp_bls {bs : List Bool} {p : Addr} (h : H p = some (.lst (bs.map .bl))) : Dp K H (.ref p) (toP (.lst (bs.map .bl))) ∧ SeqAt.shaped (toP (.lst (bs.map .bl))) = true := by
  have iv : ∀ bs : List Bool, VRs K H (bs.map .bl) (bs.map .bl) := fun bs => by
    induction bs with
    | nil => exact .nil
    | cons b bs ih => exact .cons (.bl b) ih
  have dd : ∀ bs : List Bool, isDs (bs.map Val.bl) = true ∧ deps (bs.map Val.bl) = 0 := fun bs => by
    induction bs with
    | nil => exact ⟨rfl, rfl⟩
    | cons b bs ih => simp [isDs, deps, isD, dep, ih.1, ih.2]
  have isd : isD (.lst (bs.map .bl)) = true := by simpa [isD] using (dd bs).1
  exact ⟨VR.dp (Same.refl H) _ _ (.lst (.inl h) (iv bs)) isd, shaped_of isd (by simp [dep, (dd bs).2])⟩
theorem fam3 {C : Str} : famOf C = 0 ∨ famOf C = 1 ∨ famOf C = 2 := by
  unfold famOf
  split
  · exact .inl rfl
  · split
    · exact .inr (.inl rfl)
    · exact .inr (.inr rfl)
theorem suiA_ok {C : Str} {u : V} (hC : C ∈ tblA.map (·.2)) (F : FactA K C) (hd : DictAt H d) (hf : FieldAt H d (fldA C) u) (hσ : σ[2]? = some (some (.ref a))) (hl : σ.length = 5) {nx : Sig → Hp → Prop} {Q : VK} {bk ct : Sig → Hp → Prop}
    (k : ∀ p H', Ex H H' → H' p = some (.lst [.str (wordA C), u]) → H p = none → Q (.ref p) H') : tSuiA K C a d { nx := nx, rt := Q, bk := bk, ct := ct } σ H := by
  refine seq_asg (is3_ok hσ hd rel_ref rel_ref rel_ref F.b0 F.b1 F.b2 fun p1 H1 e1 g1 => ?_)
  have s2 : (σ.set 3 (some (V.ref p1)))[2]? = some (some (.ref a)) := by rw [List.getElem?_set_ne (by decide)]; exact hσ
  refine seq_asg (is3_ok s2 (hd.ex e1) rel_ty rel_ty rel_ty F.p0 F.p1 F.p2 fun p2 H2 e2 g2 => ?_)
  have s3 : ((σ.set 3 (some (V.ref p1))).set 4 (some (V.ref p2)))[2]? = some (some (.ref a)) := by rw [List.getElem?_set_ne (by decide)]; exact s2
  have t3 : ((σ.set 3 (some (V.ref p1))).set 4 (some (V.ref p2)))[3]? = some (some (.ref p1)) := by rw [List.getElem?_set_ne (by decide), List.getElem?_set_self (by omega)]
  have t4 : ((σ.set 3 (some (V.ref p1))).set 4 (some (V.ref p2)))[4]? = some (some (.ref p2)) := by rw [List.getElem?_set_self (by rw [List.length_set]; omega)]
  have fam : (famOf C = 0 ∨ famOf C = 1 ∨ famOf C = 2) := fam3
  have d1 := dp_bls (K := K) (bs := [famOf C == 0, famOf C == 1, famOf C == 2]) (e2 _ _ g1)
  have d2 := dp_bls (K := K) (bs := [famOf C == 0, famOf C == 1, famOf C == 2]) g2
  refine ⟨_, t3, _, t4, .inl ⟨_, _, d1.1, d2.1, d1.2, d2.2, _, rfl, ?_⟩⟩
  have same : PyData.eqv (toP (.lst ([famOf C == 0, famOf C == 1, famOf C == 2].map .bl))) (toP (.lst ([famOf C == 0, famOf C == 1, famOf C == 2].map .bl))) = true := by
    rcases fam with z | z | z <;> rw [z] <;> decide +kernel
  rw [same]
  show (if true = true then _ else _)
  rw [if_pos rfl]
  refine ⟨_, t3, .inl ⟨rfl, _, SqL.of (e2 _ _ g1)⟩, p1, _, .bl true, rfl, rfl, SqL.of (e2 _ _ g1), rfl, rfl, rfl, _, rfl, ?_⟩
  have cnt : decide (V.int (([V.bl (famOf C == 0), V.bl (famOf C == 1), V.bl (famOf C == 2)].countP fun z => eqV z (.bl true) : Nat) : Int) = V.int 1) = true := by
    rcases fam with z | z | z <;> rw [z] <;> decide +kernel
  show (if decide (V.int (([V.bl (famOf C == 0), V.bl (famOf C == 1), V.bl (famOf C == 2)].countP fun z => eqV z (.bl true) : Nat) : Int) = V.int 1) = true then _ else _)
  rw [cnt, if_pos rfl]
  refine ⟨_, s3, rfl, hd.ex (e1.trans e2), fun H3 e3 => ?_⟩
  refine ⟨_, s3, rfl, hd.ex ((e1.trans e2).trans e3), u, hf.ex ((e1.trans e2).trans e3), fun H4 e4 => ⟨by rw [sizeLine_eq]; show 2 ≤ _; omega, fun p hp => ?_⟩⟩
  have e5 : Ex H4 (upd H4 p (.lst [.str (wordA C), u])) := Ex.new hp
  have ee := ((e1.trans e2).trans e3).trans e4
  exact k p _ (ee.trans e5) upd_same (Evl.fresh_back ee hp)
end
end Pu
set_option Elab.async false
set_option linter.all false
set_option maxRecDepth 100000
set_option maxHeartbeats 2000000
namespace Pu
open PySem PySem.Spec PyProof.Rows L2
open Evl (Ex EvL EvA EvT)
section
variable {X : Cx}
theorem pss_ex {ι : Type} {p : ι → Prop} {b : List Stmt} {t : ι → TS} (h : ∀ i, p i → PSs X b (t i)) : PSs X b (fun D σ H => ∃ i, p i ∧ t i D σ H) :=
  ⟨fun pins s σ H D I hw => by
    obtain ⟨i, hp, hw⟩ := hw
    exact (h i hp).run pins s σ H D I hw⟩
theorem takes_no : L2N.Takes X noW := by
  intro e r h
  obtain ⟨_, _, _, _, _, _, _, _, _, _, _, _, _, _, _, _, no⟩ := h
  exact False.elim no
theorem roomH_mark {k : Nat} {A : Around} (r : Room k A) (h : Option Value) : L2H.RoomH k (A.mark h) := ⟨r.dp, r.un⟩
end
abbrev hotCx (X : Cx) (d : He5.DefA) (N : List Str) (cdv : Value) (A : Around) (outer : List Env) (s : Shared) (H : Hp) (E : XK) (p : Addr × Obj) : Cx := L2H.cxH (L2N.CX X.prog X.w) X.prog X.w X.K X.mg X.base N d.qual d.scope (d.at_ X.K) cdv A outer s H E p
def HotBody (X : Cx) (d : He5.DefA) (N : List Str) (ok : Addr → Prop) (t : Addr → Addr → Option Addr → TS) : Prop :=
  ∀ (D a : Addr) (dd : Option Addr) (cdv : Value) (A : Around) (outer : List Env) (s : Shared) (H : Hp) (E : XK) (p : Addr × Obj), ok D → Hh (hotCx X d N cdv A outer s H E p) a (.ref D) dd → PSs (hotCx X d N cdv A outer s H E p) d.body (t D a dd)
structure HotFn (X : Cx) (d : He5.DefA) (ps : List Str) (p : Addr × Obj) (sp : Sp) : Prop where
  ex : ∃ fd, FnX X.prog X.w X.K X.mg X.base 1 (d.at_ X.K) fd ps p sp ∧ L2.Binds X.K fd ps [] ∧ PySem.W.keepIn X.K (.ref (d.at_ X.K)) = true
theorem hotFn_of {X : Cx} {d : He5.DefA} {N ps : List Str} {ok : Addr → Prop} {t : Addr → Addr → Option Addr → TS} {sp : Sp} {D a : Addr} {dd : Option Addr} {oe : Obj}
    (fu : ∃ fd, FunD X.K d.name d.qual d.params d.body d.scope (d.dvs X.K) (d.kws X.K) (d.at_ X.K) fd) (bd : BindD d ps) (S : FnScope N ps d.scope) (hb : HotBody X d N ok t) (o : ok D) (z : L2N.Zn (.ref D) dd oe) (f : ∃ vs, oe.data = .fields vs)
    (many : ∀ vs H Q E, sp vs H Q E → vs.length = ps.length) (run : ∀ vs H Q E, sp vs H Q E → t D a dd { nx := fun _ H' => Q .non H', rt := Q } (start N vs) H) : HotFn X d ps (a, oe) sp := by
  obtain ⟨fd, D0⟩ := fu
  have F := fnX_of (P := X.prog) (w := X.w) (mg := X.mg) (base := X.base) (k := 0) (p := (a, oe)) D0 S many fun cdv A outer s H vs Q E hr hot h => ⟨_, hb D a dd cdv A outer s H E (a, oe) o (Hh.callee hot z f), run vs H Q E h⟩
  refine ⟨fd, F, ?_, D0.kp⟩
  have e : d.dvs X.K = [] := by unfold He5.DefA.dvs; rw [bd.dfl]; rfl
  rw [e] at D0
  exact D0.bindsN bd.all
theorem pe_hot {X : Cx} {d : He5.DefA} {ps : List Str} {p : Addr × Obj} {sp : Sp} {x : Str} {q pos : Pos} {e : Expr} {es : List Expr} {t : TA} (F : HotFn X d ps p sp) (hr : L2H.RoomH 1 X.A) (hot : L2H.Hot1 X.A p) (hp : p ∈ X.pn) (gl : Gl X x) (at_ : X.mg x = some (.ref (d.at_ X.K)))
    (ha : PA X (e :: es) t) (n1 : (x == ("__debug__" : Str)) = false := by decide) (n2 : starEach (e :: es) X.env = (false, eval e X.env) :: starEach es X.env := by rfl) (n3 : (backTo pos (starEach es X.env)).any (·.1) = false := by rfl) :
    PE X (.Call (.Name x q) (e :: es) [] pos) (cG sp noW [] t) := by
  obtain ⟨fd, F, b, kp⟩ := F.ex
  exact pe_callX F hr hot hp takes_no gl at_ kp b ha n1 n2 n3
def okA (K : PySem.W.Frag) (D : Addr) : Prop := ∃ C ∈ tblA.map (·.2), D = He.ga K C ∧ FactA K C
theorem okA.er {K : PySem.W.Frag} {D : Addr} (h : okA K D) : ErrC K D := by
  obtain ⟨C, _, rfl, F⟩ := h
  exact F.er
theorem okA.fld {K : PySem.W.Frag} {D : Addr} (h : okA K D) {f : Str} (hf : f ∈ fldNames) : PySem.W.findIn K (.ref D) f = some none := by
  obtain ⟨C, _, rfl, F⟩ := h
  exact F.fld f hf
def TTA (K : PySem.W.Frag) (R : List Str) (tl : XK → Hp → VK → Prop) (H : Hp) (Q : VK) : Prop :=
  ∀ (E' : XK) (Q' : VK), (∀ cls d G, (∃ C ∈ R, cls = .ref (He.ga K C) ∧ DictAt G d ∧ ∃ u, FieldAt G d (fldA C) u ∧ ∀ p G', Ex G G' → G' p = some (.lst [.str (wordA C), u]) → G p = none → Q (.ref p) G') → E' cls d G) →
    (∀ v G, (∀ p, G p = none → Q (.ref p) (upd G p (.lst [.str "told", v]))) → Q' v G) → tl E' H Q'
def NgA : List Str := ["_law_act", "_law_found", "_law_e", "_law_bases", "_law_plain"]
theorem gives_A {X : Cx} {dE dC dF : He5.DefA} {k : Nat} {q : Str} {p1 p2 p3 p4 p5 p6 p7 p8 p9 p10 p11 p12 p13 p14 : Pos} {ct kk : Nat} {b₀ : Stmt} {suite : List Stmt} {R : List Str} (hA : chkA X.K R = true)
    (fC : ∃ fd, FunD X.K dC.name dC.qual dC.params dC.body dC.scope (dC.dvs X.K) (dC.kws X.K) (dC.at_ X.K) fd) (fF : ∃ fd, FunD X.K dF.name dF.qual dF.params dF.body dF.scope (dF.dvs X.K) (dF.kws X.K) (dF.at_ X.K) fd)
    (bC : BindD dC ["_law_e"]) (bF : BindD dF ["_law_e"]) (sC : FnScope ["_law_e", "_law_sorts", "_law_found"] ["_law_e"] dC.scope) (sF : FnScope ["_law_e"] ["_law_e"] dF.scope)
    (hC : HotBody X dC ["_law_e", "_law_sorts", "_law_found"] (okA X.K) (tClsA X.K)) (hF : HotBody X dF ["_law_e"] (okA X.K) (tFldA X.K))
    (hbody : dE.body = [.Try [.Assign [.Name "_law_found" p1] (.Call (.Name "_law_act" p2) [] [] p3) p4] [.ExceptHandler (some (.Tuple [.Name "NotRight" p5, .Name "NotKnown" p6, .Name "NotPossible" p7] ct p8)) (some "_law_e") (b₀ :: suite) p9] [] [] p10, .Return (some (.List [.Constant (.str "told") kk p11, .Name "_law_found" p12] p13)) p14])
    (n1 : ∀ cdg s H, Names (gotCx X NgA dE.name dE.scope (dE.at_ X.K) cdg s H) "NotRight" (.ref (He.ga X.K "NotRight"))) (n2 : ∀ cdg s H, Names (gotCx X NgA dE.name dE.scope (dE.at_ X.K) cdg s H) "NotKnown" (.ref (He.ga X.K "NotKnown"))) (n3 : ∀ cdg s H, Names (gotCx X NgA dE.name dE.scope (dE.at_ X.K) cdg s H) "NotPossible" (.ref (He.ga X.K "NotPossible")))
    (kd : dE.scope.kind = .function) (l1 : dE.scope.names.lookup ("_law_found" : Str) = some NameKind.local) (l2 : dE.scope.names.lookup ("_law_e" : Str) = some NameKind.local)
    (hS : ∀ (C : Str) (a : Addr) (d : Option Addr) (oe : Obj) (pn : List (Addr × Obj)) (cdg : Value) (s : Shared) (H : Hp), okA X.K (He.ga X.K C) → Hh ((gotCx X NgA dE.name dE.scope (dE.at_ X.K) cdg s H).suite a ((a, oe) :: pn)) a (.ref (He.ga X.K C)) d → L2H.Hot1 ((gotCx X NgA dE.name dE.scope (dE.at_ X.K) cdg s H).suite a ((a, oe) :: pn)).A (a, oe) →
      L2H.RoomH 1 ((gotCx X NgA dE.name dE.scope (dE.at_ X.K) cdg s H).suite a ((a, oe) :: pn)).A → HotFn X dC ["_law_e"] (a, oe) (spCls C a d) → HotFn X dF ["_law_e"] (a, oe) (spFld C a d) → PSs ((gotCx X NgA dE.name dE.scope (dE.at_ X.K) cdg s H).suite a ((a, oe) :: pn)) (b₀ :: suite) (tSuiA X.K C a d)) (hk : 1 ≤ k) (cdg : Value) :
    GivesN X NgA dE.name dE.scope (dE.at_ X.K) cdg dE.body "_law_act" q k (TTA X.K R) := by
  intro f c' s H Q tl hr hact hcode hTT
  rw [hbody]
  have ndN : NgA.Nodup := by decide +kernel
  have facts : ∀ {C : Str}, C ∈ R → C ∈ tblA.map (·.2) ∧ FactA X.K C := fun h => factA_of hA h
  refine ⟨_, pss_cons (ps_try3 (X := gotCx X NgA dE.name dE.scope (dE.at_ X.K) cdg s H) (i := 2) (n := "_law_e")
    (tb := fun W => tAsg (fun τ G Q => τ[0]? = some (some (.ref f)) ∧ G c' = some (LamX.CodeO c' q) ∧ tl (fun cls d G' => W cls d τ G') G Q) (gName 1))
    (ts := fun a cls d D σ H => ∃ C, (C ∈ R ∧ cls = .ref (He.ga X.K C)) ∧ tSuiA X.K C a d D σ H)
    rfl rfl ndN rfl l2 (n1 cdg s H) (n2 cdg s H) (n3 cdg s H) (fun W pn xe tk po => pss_one (ps_set (i := 1) (x := "_law_found") ndN rfl ?_ (hact W pn xe _ _ tk) rfl (.inr l1)))
    (fun a oe cls d pn z fv => pss_ex fun C hc => ?_)) (pss_one (ps_ret (pe_lst (pa_cons pe_str (pa_cons (pe_var (i := 1) (x := "_law_found") rfl ?_) pa_nil))))), ?_⟩
  · exact .inl l1
  · obtain ⟨hC0, rfl⟩ := hc
    obtain ⟨hC1, F⟩ := facts hC0
    have oA : okA X.K (He.ga X.K C) := ⟨C, hC1, rfl, F⟩
    refine hS C a d oe pn cdg s H oA (Hh.suite z fv) (hot1_of (cls := .ref (He.ga X.K C)) (d := d) rfl z fv) ((roomH_mark hr _).mono hk) ?_ ?_
    · refine hotFn_of (ok := okA X.K) (dd := d) fC bC sC hC oA z fv (fun vs H Q E h => by rw [h.1]; rfl) fun vs H Q E h => ?_
      obtain ⟨rfl, hd, kq⟩ := h
      exact clsA_ok hC1 F hd kq
    · refine hotFn_of (ok := okA X.K) (dd := d) fF bF sF hF oA z fv (fun vs H Q E h => by rw [h.1]; rfl) fun vs H Q E h => ?_
      obtain ⟨rfl, hd, u, hf, kq⟩ := h
      exact fldA_ok hC1 F hd hf kq
  · exact .inl l1
  · refine ⟨rfl, hcode, hTT _ _ (fun cls d G hh => ?_) fun v G hv => ?_⟩
    · obtain ⟨C, hC0, rfl, hd, u, hf, kq⟩ := hh
      obtain ⟨hC1, F⟩ := facts hC0
      refine ⟨F.exm, fun a ha => ⟨C, ⟨hC0, rfl⟩, ?_⟩⟩
      exact suiA_ok hC1 F hd hf rfl rfl fun p H' e g n => kq p H' e g n
    · refine ⟨v, rfl, by rw [sizeLine_eq]; show 2 ≤ _; omega, fun p hp => ?_⟩
      exact hv p hp
end Pu
set_option Elab.async false
set_option linter.all false
set_option maxRecDepth 100000
set_option maxHeartbeats 2000000
namespace Pu
open PySem PySem.Spec PyProof.Rows L2
open Evl (Ex EvL EvA EvT)
def CodeAt (K : PySem.W.Frag) (f : Addr) (qual : Str) (cdv : Value) : Prop := ∃ (oc : Value) (od : Option Addr) (fd : FuncData) (osl : Array (Option Value)), K.lookup f = some ⟨oc, od, .func fd, osl⟩ ∧ fd.code = cdv ∧ fd.qualname = qual
section
variable {P : Program} {w : World} {K : PySem.W.Frag} {mg : Str → Option Value} {base : Heap}
theorem fnG_ofL {x qual : Str} {params : Arguments} {body : List Stmt} {scope : Scope} {dvs : List V} {kws : List (Str × V)} {f : Addr} {fd : FuncData} {N ps : List Str} {k : Nat} {sp : Sp}
    (D : FunD K x qual params body scope dvs kws f fd) (S : FnScope N ps scope) (many : ∀ vs H Q E, sp vs H Q E → vs.length = ps.length)
    (hb : ∀ (cdv : Value), CodeAt K f qual cdv → ∀ (A : Around) (outer : List Env) (s : Shared) (H : Hp) (vs : List V) (Q : VK) (E : XK), Room k (A.deeper (envOfC qual scope s.heap.objs.size f cdv)) → A.guards = some [] → sp vs H Q E →
      ∃ t, PSs (cxOf (L2N.CX P w) P w K mg base N qual scope f cdv A outer s H E) body t ∧
        t { nx := fun _ H' => Q .non H', rt := Q } (start N vs) H) : FnG P w K mg base (k + 1) f fd ps sp := by
  obtain ⟨c0, c1, dV, kV, c2, c3, c4, cdv, c5, c6, rfl, look, cin, -, -⟩ := D.ex
  refine ⟨many, ?_⟩
  intro A outer s H args us vs Q E hr hG e0 bt rel hsp
  have nlen := many _ _ _ _ hsp
  have stay : ∀ b o, base.get? b = some o → s.heap.get? b = some o := fun b o h => (e0.bs b o h).1
  have inK : K.In s.heap := e0.mod.kin.keeps stay
  have nolim : s.heap.NoLimit := e0.mod.nolimit.keeps stay
  have kinds : ∀ y ∈ ps.zip us, scope.names.lookup y.1 = some .local ∨
      (scope.names.lookup y.1 = some .cell ∧ ((cellsFrom (s.heap.objs.size + 1) scope.names []).lookup y.1).isSome = true) := by
    intro y hy
    obtain ⟨n, v⟩ := y
    cases S.par n (List.of_mem_zip hy).1 with
    | inl q => exact .inl q
    | inr q => exact .inr ⟨q, PySem.W.cellsFrom_some _ _ _ (.inl q)⟩
  refine codeAny_call_function hr.depth (inK _ _ look) rfl S.co S.gen rfl (PySem.W.codeRec_of inK cin) (bt _ _ _ _ ?_)
  refine wpAny_newFunctionEnv_cells S.kind kinds ?_
  intro env same s1 made
  subst same
  refine ⟨nolim.keeps made.toInCall.keep, codeAny_func ?_⟩
  obtain ⟨t, runs, wish⟩ := hb cdv ⟨_, _, _, _, look, rfl, rfl⟩ A outer s H vs Q E (hr.deeper _) hG hsp
  have J := inv_start (CX := L2N.CX P w) (E := E) (cd := cdv) S hr.hd e0 nlen rel made
  refine wpAny_mono (runs.run [] s1 (start N vs) H _ J wish) (fun fl s' got => ?_) (fun _ _ z => z)
  cases fl with
  | brk => obtain ⟨_, _, _, no⟩ := got; exact no.elim
  | cont => obtain ⟨_, _, _, no⟩ := got; exact no.elim
  | next =>
    obtain ⟨σ', H', I', q⟩ := got
    exact ⟨.non, H', I'.os, I'.bare, I'.base, I'.hok, rfl, q⟩
  | ret u =>
    obtain ⟨v, σ', H', I', rv, q⟩ := got
    exact ⟨v, H', I'.os, I'.bare, I'.base, I'.hok, rv, q⟩
theorem fn_okL {x qual : Str} {params : Arguments} {body : List Stmt} {scope : Scope} {dvs : List V} {kws : List (Str × V)} {f : Addr} {fd : FuncData} {N ps : List Str} {k n nn : Nat} {mb : S} (D : FunD K x qual params body scope dvs kws f fd) (S : FnScope N ps scope)
    (h1 : ps.length = n) (h2 : N.length = nn)
    (hb : ∀ (cdv : Value), CodeAt K f qual cdv → ∀ (A : Around) (outer : List Env) (s : Shared) (H : Hp) (E : XK), Good (cxOf (L2N.CX P w) P w K mg base N qual scope f cdv A outer s H E) k (fun c d _ H => E c d H) →
      SB (cxOf (L2N.CX P w) P w K mg base N qual scope f cdv A outer s H E) (fun c d _ H => E c d H) n body mb) : FnG P w K mg base (k + 1) f fd ps (spG K n (fnDen n nn mb)) := by
  refine fnG_ofL D S (fun vs H Q E h => h.1.trans h1.symm) fun cdv hcd A outer s H vs Q E hr hG h => ?_
  have G : Good (cxOf (L2N.CX P w) P w K mg base N qual scope f cdv A outer s H E) k (fun c d _ H => E c d H) :=
    ⟨S.nd, rfl, hr, guards_deeper hG, L2N.takes_of rfl rfl rfl rfl, passes_of (K := fun e s'' => L2N.CX P w outer H s E e s'') rfl⟩
  refine ⟨_, hb cdv hcd A outer s H E G, ?_⟩
  obtain ⟨hl, np, F, e, R, h⟩ := h
  have el : e.length = n := by rw [R.len, List.length_map, hl]
  have sl : (vs.map some).length = n := by rw [List.length_map, hl]
  have R0 := rel_app (m := nn - n) (k := N.length - vs.length) R (by rw [h2, hl])
  refine ⟨F, e ++ List.replicate (nn - n) Slot.un, (show Rel K F H (e ++ List.replicate (nn - n) Slot.un) (start N vs) from R0), ?_⟩
  unfold At fnDen at h
  rw [if_pos el] at h
  unfold AtS
  show match mb (e ++ List.replicate (nn - n) Slot.un) with
    | .ok .nx e' => _
    | .ok .bk e' => _
    | .ok .ct e' => _
    | .ok (.rt r) e' => _
    | .rs x e' => _
    | .bad => _
  cases z : mb (e ++ List.replicate (nn - n) Slot.un) with
  | bad => simp only [z] at h
  | rs y e' =>
    simp only [z] at h
    intro F' H' σ' cls d C X
    exact h F' H' cls d (out_cur el sl C (fun _ _ q => q) rfl) X
  | ok o e' =>
    cases o with
    | bk => simp only [z] at h
    | ct => simp only [z] at h
    | nx =>
      simp only [z] at h
      intro F' H' σ' C
      exact h F' H' .non (out_cur el sl C (fun _ _ q => q) rfl) VR.non
    | rt r =>
      simp only [z] at h
      intro F' H' σ' u C q
      cases r with
      | dat v => exact h F' H' u (out_cur el sl C (fun _ _ q => q) rfl) q
      | tmp v =>
        obtain ⟨t, rfl, q2, q3, q4, q5⟩ := q
        have C2 := out_cur (np := np) el sl C (fun _ _ q => q) rfl
        refine h F' H' (.ref t) C2 ⟨t, rfl, q2, q3, fun ⟨i, v', a1, a2⟩ => q4 ?_, ?_⟩
        · rcases outE_get a1 with z | ⟨w', z, a3⟩
          · cases z
          · cases z
            have hi : i < n := by
              have := (List.getElem?_eq_some_iff.mp a3).1
              rw [List.length_take] at this
              omega
            rw [List.getElem?_take_of_lt hi] at a3
            obtain ⟨h4, _⟩ := C.par i v' hi a3
            have h4' : σ'[i]? = (start N vs)[i]? := h4
            refine ⟨i, v', a3, ?_⟩
            rw [h4']
            unfold L2.start
            rw [List.getElem?_append_left (by omega)]
            exact a2
        · rcases q5 with q5 | q5
          · exact .inl ((own_app (by omega) t).mp q5)
          · exact .inr q5
      | bor i =>
        unfold retV at h
        dsimp only at h
        cases z2 : e'[i]? with
        | none => simp only [z2] at h
        | some sl' =>
          cases sl' with
          | un => simp only [z2] at h
          | dat v =>
            simp only [z2] at h
            obtain ⟨y, a1, a2⟩ := C.rel.slot i _ _ z2 q
            cases a1
            exact h F' H' u (out_cur el sl C (fun _ _ q => q) rfl) a2
          | own v =>
            simp only [z2] at h
            obtain ⟨t, a1, a2, a3⟩ := C.rel.slot i _ _ z2 q
            cases a1
            have C2 := out_cur (np := np) (x := e'.set i .un) el sl C (fun _ _ q => take_own q) (List.length_set)
            refine h F' H' (.ref t) C2 ⟨t, rfl, a2, a3, fun ⟨j, v', b1, b2⟩ => ?_, ?_⟩
            · rcases outE_get b1 with z | ⟨w', z, b3⟩
              · cases z
              · cases z
                have hi : j < n := by
                  have := (List.getElem?_eq_some_iff.mp b3).1
                  rw [List.length_take] at this
                  omega
                rw [List.getElem?_take_of_lt hi] at b3
                rcases getset b3 with ⟨_, z, _⟩ | ⟨ne, b3⟩
                · cases z
                · obtain ⟨h4, _⟩ := C.par j v' hi b3
                  have h4' : σ'[j]? = (start N vs)[j]? := h4
                  have b4 : σ'[j]? = some (some (V.ref t)) := by
                    rw [h4']
                    unfold L2.start
                    rw [List.getElem?_append_left (by omega)]
                    exact b2
                  exact ne (C.rel.inj i j v v' t z2 b3 q b4)
            · rcases C.own t ⟨i, v, z2, q⟩ with q5 | q5
              · exact .inl ((own_app (by omega) t).mp q5)
              · exact .inr q5
structure LamAt (K : PySem.W.Frag) (mg : Str → Option Value) (base : Heap) (cdv : Value) (qual : Str) : Prop where
  ex : ∃ c P, cdv = .ref c ∧ LamX.TabB base mg c P ∧ (P, qual ++ ".<locals>." ++ "<lambda>") ∈ tabsOf K ∧ ∀ p ∈ tabsOf K, p.1 = P → p.2 = qual ++ ".<locals>." ++ "<lambda>"
theorem mem_lk {α : Type} {a : Addr} {v : α} : ∀ {l : List (Addr × α)}, l.lookup a = some v → (a, v) ∈ l
  | [], h => by simp at h
  | (b, u) :: l, h => by
    rw [List.lookup_cons] at h
    cases z : (a == b) with
    | true => rw [z] at h; cases h; rw [beq_iff_eq.mp z]; exact List.mem_cons_self
    | false => rw [z] at h; exact List.mem_cons_of_mem _ (mem_lk h)
theorem lamAt_of {f : Addr} {qual : Str} {cdv : Value} (ht : hasTab K f = true) (tb : TabsB K mg base) (one : TabOne K) (h : CodeAt K f qual cdv) : LamAt K mg base cdv qual := by
  obtain ⟨oc, od, fd, osl, lk, rfl, rfl⟩ := h
  unfold hasTab at ht
  rw [lk] at ht
  have hm : (f, ({ cls := oc, dict := od, data := .func fd, slots := osl } : Obj)) ∈ K := mem_lk lk
  cases z : tabOf K (f, ({ cls := oc, dict := od, data := .func fd, slots := osl } : Obj)) with
  | none => dsimp only at ht; rw [z] at ht; cases ht
  | some t =>
    have m3 : t ∈ tabs3 K := List.mem_filterMap.mpr ⟨_, hm, z⟩
    have form : ∃ c P, fd.code = .ref c ∧ t = (c, P, fd.qualname ++ ".<locals>." ++ "<lambda>") := by
      unfold tabOf at z
      dsimp only at z
      split at z
      · rename_i c hc
        split at z
        · split at z
          · split at z
            · rename_i P _
              cases z
              exact ⟨c, P, hc, rfl⟩
            · cases z
          · cases z
        · cases z
      · cases z
    obtain ⟨c, P, hc, rfl⟩ := form
    refine ⟨c, P, hc, tb _ m3, List.mem_map.mpr ⟨_, m3, rfl⟩, fun p hp e => ?_⟩
    obtain ⟨c', hp⟩ := mem_tabs hp
    exact one _ hp _ m3 e
theorem fnB_ofL {d : He5.DefA} {k n nn : Nat} {N ps : List Str} {mb : S} (D : ∃ fd, FunD K d.name d.qual d.params d.body d.scope (d.dvs K) (d.kws K) (d.at_ K) fd) (S : FnScope N ps d.scope) (h1 : ps.length = n) (h2 : N.length = nn) (ht : hasTab K (d.at_ K) = true) (tb : TabsB K mg base) (one : TabOne K)
    (hb : ∀ (cdv : Value), LamAt K mg base cdv d.qual → ∀ (A : Around) (outer : List Env) (s : Shared) (H : Hp) (E : XK), Good (cxOf (L2N.CX P w) P w K mg base N d.qual d.scope (d.at_ K) cdv A outer s H E) k (fun c d _ H => E c d H) →
      SB (cxOf (L2N.CX P w) P w K mg base N d.qual d.scope (d.at_ K) cdv A outer s H E) (fun c d _ H => E c d H) n d.body mb) : FnB P w K mg base (k + 1) d ps n (fnDen n nn mb) := by
  obtain ⟨fd, D⟩ := D
  exact ⟨fd, D, fn_okL D S h1 h2 fun cdv hc A outer s H E G => hb cdv (lamAt_of ht tb one hc) A outer s H E G⟩
end
section
variable {K : PySem.W.Frag} {W : WX} {B : Bg} {F F' H H' H1 : Hp} {e e' : Ev} {σ σ' : Sig} {np : Nat}
theorem CellR.old {v : Val} {t : Addr} (h : CellR K F H v t) (x : LamX.ExtN H H1) : CellR K F H1 v t := by
  obtain ⟨o, h1, h2⟩ := h.someP
  exact h.mono (Same.refl _) ((x t o h1 (plainO_tbl h2)).trans h1.symm)
theorem Rel.made (R : Rel K F H e σ) (m : Made H H1) (t : LamX.Tabs (tabsOf K) H1) : Rel K F H1 e σ := by
  refine ⟨fun b o q => m.ext b o (R.sub b o q) fun ps z => R.nt b ps (z ▸ q), R.len, fun i s o h1 h2 => ?_, R.inj, t, R.nt⟩
  have z := R.slot i s o h1 h2
  cases s with
  | un => trivial
  | dat v => exact z
  | own v =>
    obtain ⟨a, q1, q2, q3⟩ := z
    exact ⟨a, q1, q2, q3.old m.ext⟩
theorem mine_made (m : Made H H1) {a : Addr} (h : (bg np F H1 e σ).mine a) : (bg np F H e σ).mine a := by
  rcases h with h | h
  · exact .inl h
  · exact .inr (m.old a h)
theorem Cur.made (m : Made H H1) (C : Cur K (bg np F H1 e σ) F' H' e' σ') : Cur K (bg np F H e σ) F' H' e' σ' :=
  ⟨⟨C.post.sub, fun a o h n t => C.post.fr a o (m.ext a o h t) n t, fun a h => (C.post.nw a h).imp id (mine_made m), fun a h => m.old a (C.post.kp a h)⟩, C.rel, fun a h => mine_made m (C.own a h), C.ln, C.par⟩
theorem RR.made (m : Made H H1) {r : RV} {u : V} (h : RR K (bg np F H1 e σ) F' H' e' σ' r u) : RR K (bg np F H e σ) F' H' e' σ' r u := by
  cases r with
  | dat v => exact h
  | bor i => exact h
  | tmp v =>
    obtain ⟨t, h1, h2, h3, h4, h5⟩ := h
    exact ⟨t, h1, h2, h3, h4, mine_made m h5⟩
theorem Cur.more (C : Cur K B F H e σ) (x : Ex H H') : Cur K B F H' e σ :=
  ⟨⟨C.post.sub, fun a o h n t => x _ _ (C.post.fr a o h n t), C.post.nw, fun a h => C.post.kp a (Evl.fresh_back x h)⟩, ⟨fun b o q => x _ _ (C.rel.sub b o q), C.rel.len, fun i s o h1 h2 => by
    have z := C.rel.slot i s o h1 h2
    cases s with
    | un => trivial
    | dat v => exact z
    | own v =>
      obtain ⟨a, q1, q2, q3⟩ := z
      exact ⟨a, q1, q2, q3.old (LamX.ExtN.of x)⟩, C.rel.inj, C.rel.tb.ext x, C.rel.nt⟩, C.own, C.ln, C.par⟩
theorem Cur.newL (C : Cur K B F H e σ) (x : Ex H H') {p : Addr} {xs : List Val} {us : List V} (n : H p = none) (g : H' p = some (.lst us)) (r : VRs K F xs us) : RR K B F H' e σ (.tmp (.lst xs)) (.ref p) := by
  refine ⟨p, rfl, ?_, ⟨us, g, r⟩, fun ⟨i, v, a1, a2⟩ => ?_, .inr (C.post.kp p n)⟩
  · cases q : F p with
    | none => rfl
    | some o => rw [C.rel.sub p o q] at n; cases n
  · obtain ⟨b, h1, h2, h3⟩ := C.rel.slot i _ _ a1 a2
    obtain ⟨o', h4⟩ := h3.some
    have e1 : V.ref p = V.ref b := Option.some.inj h1
    cases e1
    rw [n] at h4; cases h4
theorem zip_get {f : Str} {v : Val} : ∀ {fs : List Str} {vs : List Val} {us : List V}, VRs K F vs us → (fs.zip vs).lookup f = some v → ∃ u, (fs.zip us).lookup f = some u ∧ VR K F v u
  | [], vs, us, r, h => by simp at h
  | x :: fs, _, _, .nil, h => by simp at h
  | x :: fs, _, _, .cons (v := v0) (u := u0) r t, h => by
    rw [List.zip_cons_cons, List.lookup_cons] at h ⊢
    cases z : (f == x) with
    | true => rw [z] at h; cases h; exact ⟨u0, rfl, r⟩
    | false => rw [z] at h; exact zip_get t h
end
theorem errA_tt {K : PySem.W.Frag} {W : WX} {R : List Str} {mb : M RV} {σ : Sig} {H : Hp} {Q : VK} (h : tE K W (mErrA R mb) σ H Q) : tLamN (tabsOf K) (TTA K R) (fun E => tE K (fun cls d _ H => E cls d H) mb) σ H Q := by
  obtain ⟨np, F, e, R0, h⟩ := h
  refine ⟨R0.tb, fun H1 m T1 E' Q' hE hQ => ?_⟩
  have R1 := R0.made m T1
  refine ⟨np, F, e, R1, ?_⟩
  unfold At mErrA at h
  unfold At
  cases z : mb e with
  | bad => simp only [M.bind, z] at h
  | ok r e1 =>
    simp only [M.bind, z] at h
    intro F' H' u C q
    refine hQ _ _ fun p hp => ?_
    cases z2 : M.dt r e1 with
    | bad => simp only [z2] at h
    | rs x e2 => exact (dt_some _ _ z2).elim
    | ok v e2 =>
      simp only [z2] at h
      obtain ⟨F2, C2, s2, r2, _⟩ := dt_go (C.made m) (q.made m) z2
      have x : Ex H' (upd H' p (.lst [.str "told", u])) := Ex.new hp
      exact h F2 _ (.ref p) (C2.more x) (C2.newL x hp upd_same (.cons (.str _) (.cons r2 .nil)))
  | rs y e1 =>
    simp only [M.bind, z] at h
    intro F' H' cls d C q
    refine hE _ _ _ ?_
    cases y with
    | obj C0 fs vs =>
      obtain ⟨rfl, q⟩ := q
      have C := C.made m
      unfold errV at h
      cases hc : R.contains C0 with
      | false => simp only [hc] at h; exact h.elim
      | true =>
        simp only [hc, if_true] at h
        have hm : C0 ∈ R := List.contains_iff_mem.mp hc
        have dAt : DictAt H' d := fun dx hd => by
          rcases q with ⟨_, _, rfl⟩ | ⟨dx', us, rfl, hx, _⟩
          · cases hd
          · cases hd; exact ⟨_, hx⟩
        refine ⟨C0, hm, rfl, dAt, ?_⟩
        cases hf : fldA C0 with
        | none =>
          simp only [hf] at h
          exact ⟨.non, rfl, fun p G' x g n => h F' G' (.ref p) (C.more x) (C.newL x n g (.cons (.str _) (.cons .non .nil)))⟩
        | some f =>
          simp only [hf] at h
          rcases q with ⟨rfl, rfl, rfl⟩ | ⟨dx', us, rfl, hx, hl, hv⟩
          · simp at h
          · cases hlk : (fs.zip vs).lookup f with
            | none => simp only [hlk, Option.map_none] at h
            | some v =>
              simp only [hlk, Option.map_some] at h
              obtain ⟨u, hu, ru⟩ := zip_get hv hlk
              exact ⟨u, ⟨dx', _, rfl, hx, hu⟩, fun p G' x g n => h F' G' (.ref p) (C.more x) (C.newL x n g (.cons (.str _) (.cons ru .nil)))⟩
    | _ => exact q.elim
theorem se_errA {R : List Str} {X : Cx} {W : WX} {dE : He5.DefA} {k : Nat} {x : Str} {qual : Str} {cdv : Value} {params : Arguments} {scope : Scope} {body : Expr} {mb : M RV} {p lpos pos : Pos}
    (gv : ∀ cdg, GivesN X NgA dE.name dE.scope (dE.at_ X.K) cdg dE.body "_law_act" (X.env.qual ++ "<lambda>") (k + 1) (TTA X.K R))
    (D : ∃ fd, FunD X.K dE.name dE.qual dE.params dE.body dE.scope (dE.dvs X.K) (dE.kws X.K) (dE.at_ X.K) fd) (hq : dE.qual = dE.name) (bd : BindD dE ["_law_act"]) (Sg : FnScope NgA ["_law_act"] dE.scope) (va : Vis dE.scope "_law_act") (hx : dE.name = x)
    (gl : Gl X x) (at_ : X.mg x = some (.ref (dE.at_ X.K))) (La : LamAt X.K X.mg X.base cdv qual) (hcode : X.env.code = cdv) (hqual : X.env.qual = qual ++ ".<locals>.") (G : Good X (k + 2) W)
    (L : LamX.LamS X.env.scope scope) (hdef : defaultsOf params X.env = ([], [])) (hbind : ∀ (q : Str) (cl : List (Str × Addr)) (pm cv ctv : Value), bindArgs (PySem.W.kla_fn "<lambda>" q params body scope cl pm cv ctv) ⟨[], []⟩ = pure [])
    (hbody : ∀ (A : Around) (outer : List Env) (s : Shared) (H : Hp) (E : XK) (f c' : Addr), Good (lamN X A outer s H E scope f c') k (fun cls d _ H => E cls d H) → SE (lamN X A outer s H E scope f c') (fun cls d _ H => E cls d H) body mb)
    (d1 : (x == ("__debug__" : Str)) = false := by decide) : SE X W (.Call (.Name x p) [.Lambda params body scope lpos] [] pos) (mErrA R mb) := by
  obtain ⟨fd, D⟩ := D
  subst hx
  obtain ⟨c, P, rfl, TB, hm, hu⟩ := La.ex
  rw [hq] at D
  have e0 : dE.dvs X.K = [] := by unfold He5.DefA.dvs; rw [bd.dfl]; rfl
  rw [e0] at D
  have hb : L2.Binds X.K fd ["_law_act"] [] := by
    have bb := bd.all
    rw [hq] at bb
    exact D.bindsN bb
  rw [← hqual] at hm hu
  refine PE.imp (pe_lamN (qual := qual) (t := fun E => tE X.K (fun cls d _ H => E cls d H) mb) D Sg rfl va hb gl at_ gv TB hcode hm hu G.room G.gd L hdef hbind (fun A outer s H E f c' hr hg => ?_) d1) fun σ H Q h => errA_tt h
  exact hbody A outer s H E f c' (lamN_good G.nd hr hg)
end Pu
set_option Elab.async false
set_option linter.all false
set_option maxRecDepth 100000
set_option maxHeartbeats 4000000
namespace PySem.PuX
open PySem PySem.W PySem.Calls PyProof.Rows PySem.HandSPX PySem.OEX
open Builtin Builtin.ObjectAttr
structure ExB (B newId initId : String) (bmB : List Value) : Prop where
  F : ExcBaseFacts B newId initId bmB
  ps : ∀ self : Value, refuseLoop self "__setattr__" bmB = pure ()
  ob : bmB.contains (.type "object") = true
theorem excTail_ne {bmB l : List Value} (ob : bmB.contains (.type "object") = true) (h : W.excTail bmB l = true) : l.isEmpty = false := by
  cases l with
  | nil =>
    rw [← W.excTail_contains "object" _ h] at ob
    exact absurd ob (by decide)
  | cons _ _ => rfl
section
variable {prog : Program} {w : World} {A : Around} {E : Value → Shared → Prop} {R : Result → Shared → Prop} {hp : Heap} {g : Array GenState} {d : Drawn} {t : Nat} {os : OsState}
theorem exc_osaB {K : W.Frag} {B newId initId : String} {bmB : List Value} {name : Str} {tk : Tok} {v : Value} {x C : Addr} {fv : Array Value} {cd : ClassData}
    (X : K.In hp) (hx : hp.get? x = some { cls := .ref C, data := .fields fv }) (hcd : W.clsIn K C = some cd) (eb : ExB B newId initId bmB) (hm : W.excTail bmB cd.mro = true) (hh : cd.hasDict = true) (ha : W.findIn K (.ref C) name = some none)
    (hq : ∀ h' tk' dx, (∀ b o, b ≠ x → hp.get? b = some o → h'.get? b = some o) → hp.objs.size ≤ dx → dx ≠ x → h'.get? x = some { cls := .ref C, dict := some dx, data := .fields fv } →
      h'.Ns1 dx (fun y => if y = name then some v else none) → R (.ok (.ret .none)) ⟨h', g, d, tk', os⟩) :
    codeAny (model prog w) A (.call (.builtin "object.__setattr__") ⟨[.ref x, .str name tk, v], []⟩) R ⟨hp, g, d, t, os⟩ := by
  have I : W.InstAt hp x { cls := .ref C, data := .fields fv } C none := ⟨hx, rfl, rfl, trivial⟩
  have SF := F.store_object
  have ne := excTail_ne eb.ob hm
  have hob : cd.mro.contains (.type "object") = true := (W.excTail_contains "object" _ hm).trans eb.ob
  have hxs : x ≠ hp.objs.size := Nat.ne_of_lt (Heap.lt_size hx)
  have sub : W.Looks (model prog w) hp (isInstance (.ref x) (.type "object")) true := I.type.andThen (W.looks_mroIn X (by unfold W.mroIn; rw [hcd, Option.bind_some, if_neg (by rw [ne]; decide), hob]))
  refine codeAny_call_builtin SF.slot.plain SF.entry (@W.check_slot (model prog w) _ _ ⟨hp, g, d, t, os⟩ "object.__setattr__" "object" "__setattr__" (.ref x) [.str name tk, v] [] _ SF.kind SF.split sub (SF.args (.ref x) (.str name tk) v) ?_)
  have hmr : W.Looks (model prog w) hp (mroOf (.ref C)) cd.mro := (W.looks_clsIn X hcd).andThen .now
  have L3 : W.Looks (model prog w) hp (storeTaker? none) none := .now
  have hcls : W.Looks (model prog w) hp (classData C) cd := W.looks_clsIn X hcd
  rw [W.osa_eq, refuse_eq]
  refine wpAny_bind (wpAny_bind (I.type.at (wpAny_bind (hmr.at ?_))))
  rw [W.excTail_pass _ (eb.ps _) _ hm]
  refine wpAny_pure (wpAny_bind (I.type.at (wpAny_bind ((W.looks_findIn X ha).at (wpAny_bind (L3.at ?_))))))
  show wpAny _ _ (storeInOwnDict (.ref x) (.ref C) (.str name tk) name v false) _ _ _
  obtain ⟨nm, bs, mro, ns, qn, hd, sn, sb, ab, col, del⟩ := cd
  dsimp only at hh
  subst hh
  unfold storeInOwnDict ownDictForStores
  repeat (first | with_reducible refine store_in_new ?_ ?_ | with_reducible refine wpAny_loadPart_at hx ?_ | with_reducible refine hcls.at ?_ | wp_step)
  · exact ⟨_, #[], _, (Heap.get?_update_ne _ _ _ _ hxs.symm).trans (Heap.get?_push_at rfl rfl), rfl, fun e he => absurd he (by simp), fun _ => rfl⟩
  · intro h' tk' hn' hs
    have hx₁ : (hp.push { cls := .type "dict", data := .dict #[] }).get? x = some { cls := .ref C, data := .fields fv } := Heap.get?_push_of_some _ hx
    refine hq h' tk' hp.objs.size (fun b o hb ho => ?_) (Nat.le_refl _) hxs.symm ?_ hn'
    · exact (hs.2 b (Nat.ne_of_lt (Heap.lt_size ho))).trans ((Heap.get?_update_ne _ _ _ _ hb).trans (Heap.get?_push_of_some _ ho))
    · exact (hs.2 x hxs).trans (Heap.get?_update_self _ hx₁ rfl)
theorem osa_oldB {K : W.Frag} {B newId initId : String} {bmB : List Value} {name : Str} {tk : Tok} {v : Value} {x C dx : Addr} {fv : Array Value} {cd : ClassData} {m0 : Str → Option Value} {nl : List Str}
    (X : K.In hp) (hx : hp.get? x = some { cls := .ref C, dict := some dx, data := .fields fv }) (hns : hp.Ns1 dx m0) (hw : Within m0 nl) (hz : nl.length ≤ 1000) (hcd : W.clsIn K C = some cd) (eb : ExB B newId initId bmB) (hm : W.excTail bmB cd.mro = true) (hh : cd.hasDict = true)
    (ha : W.findIn K (.ref C) name = some none)
    (hq : ∀ h' tk', (∀ b o, b ≠ dx → hp.get? b = some o → h'.get? b = some o) → h'.Ns1 dx (fun y => if y = name then some v else m0 y) → R (.ok (.ret .none)) ⟨h', g, d, tk', os⟩) :
    codeAny (model prog w) A (.call (.builtin "object.__setattr__") ⟨[.ref x, .str name tk, v], []⟩) R ⟨hp, g, d, t, os⟩ := by
  obtain ⟨oD, esD, epD, hoD, hdD, _⟩ := hns.count hw
  have I : W.InstAt hp x { cls := .ref C, dict := some dx, data := .fields fv } C (some oD) := ⟨hx, rfl, rfl, hoD⟩
  have SF := F.store_object
  have ne := excTail_ne eb.ob hm
  have hob : cd.mro.contains (.type "object") = true := (W.excTail_contains "object" _ hm).trans eb.ob
  have sub : W.Looks (model prog w) hp (isInstance (.ref x) (.type "object")) true := I.type.andThen (W.looks_mroIn X (by unfold W.mroIn; rw [hcd, Option.bind_some, if_neg (by rw [ne]; decide), hob]))
  refine codeAny_call_builtin SF.slot.plain SF.entry (@W.check_slot (model prog w) _ _ ⟨hp, g, d, t, os⟩ "object.__setattr__" "object" "__setattr__" (.ref x) [.str name tk, v] [] _ SF.kind SF.split sub (SF.args (.ref x) (.str name tk) v) ?_)
  have hmr : W.Looks (model prog w) hp (mroOf (.ref C)) cd.mro := (W.looks_clsIn X hcd).andThen .now
  have L3 : W.Looks (model prog w) hp (storeTaker? none) none := .now
  have hcls : W.Looks (model prog w) hp (classData C) cd := W.looks_clsIn X hcd
  rw [W.osa_eq, refuse_eq]
  refine wpAny_bind (wpAny_bind (I.type.at (wpAny_bind (hmr.at ?_))))
  rw [W.excTail_pass _ (eb.ps _) _ hm]
  refine wpAny_pure (wpAny_bind (I.type.at (wpAny_bind ((W.looks_findIn X ha).at (wpAny_bind (L3.at ?_))))))
  show wpAny _ _ (storeInOwnDict (.ref x) (.ref C) (.str name tk) name v false) _ _ _
  obtain ⟨nm, bs, mro, ns, qn, hd, sn, sb, ab, col, del⟩ := cd
  dsimp only at hh
  subst hh
  unfold storeInOwnDict ownDictForStores
  repeat (first | with_reducible refine store_in_old hns hw hz ?_ | with_reducible refine wpAny_loadPart_at hx ?_ | with_reducible refine hcls.at ?_ | wp_step)
  intro h' tk' hn' hs
  exact hq h' tk' (fun b o hb ho => (hs.2 b hb).trans ho) hn'
end
end PySem.PuX
namespace Pu
open PySem PySem.Spec PyProof.Rows L2
open Evl (Ex EvL EvA EvT)
structure OexB (K : PySem.W.Frag) (C : Addr) : Prop where
  cls : ∃ nm q N bs bm sn sub ab col dd k0 k1 k2 k3 k5 B newId initId bmB, K.lookup C = some (excClassObj nm q C N bs bm true sn sub ab col dd k0 k1 k2 k3 k5 newId) ∧ PySem.W.excTail bmB bm = true ∧ PySem.PuX.ExB B newId initId bmB
  sa : PySem.W.findIn K (.ref C) "__setattr__" = some (some (.builtin "object.__setattr__"))
  exC : PySem.W.subIn K (.ref C) (.type "BaseException") = some true
  tyC : PySem.W.typeIn K (.ref C) = some (.type "type")
  kC : PySem.W.keepIn K (.ref C) = true
section
variable {X : Cx} {pins : List (Addr × Obj)} {σ : L2.St} {H : Hp} {s : Shared} {a C dx : Addr} {f : Str} {y : V} {u : Value} {fs : List (Str × V)} {Q : Unit → Shared → Prop} {E : Value → Shared → Prop} {A : Around}
theorem ost_newB (T : OexB X.K C) (I : Inv X pins σ H s) (e : H a = some (exo a C none)) (hno : PySem.W.findIn X.K (.ref C) f = some none) (ry : RelV y u)
    (h : ∀ dx s', H dx = none → dx ≠ a → Inv X pins σ (upd (upd H dx (exd dx [(f, y)])) a (exo a C (some dx))) s' → Q () s') : wpAny (model X.prog X.w) A (setAttr (.ref a) f u) Q E s := by
  obtain ⟨nm, q, N, bs, bm, sn, sub, ab, col, dd, k0, k1, k2, k3, k5, B, newId, initId, bmB, hC, hbm, eb⟩ := T.cls
  have hcl : PySem.W.clsIn X.K C = some { name := nm, bases := bs, mro := .ref C :: bm, ns := N, qualname := q, hasDict := true, slotNames := sn, subclasses := sub, abstract := ab, collection := col, hasDel := false } := by unfold PySem.W.clsIn; rw [hC] <;> rfl
  obtain ⟨t1, ho⟩ := exo_at I.hok e
  obtain ⟨hp, g, d, t, os⟩ := s
  refine PySem.W.set_plain I.kIn (ox := { cls := .ref C, dict := none, data := .fields #[.ref t1, .none, .none, .none, .bool false, .none] }) (od := none) ⟨ho, rfl, rfl, trivial⟩ T.sa ?_
  refine PySem.PuX.exc_osaB I.kIn ho hcl eb (show PySem.W.excTail bmB (.ref C :: bm) = true from hbm) rfl hno (fun h' tk' dx k dn dne hx hn => ?_)
  have hnd : H dx = none := I.hok.fresh dn
  have nd : ∀ {b : Addr} {o : Obj}, hp.get? b = some o → b ≠ dx := fun {b o} q => Nat.ne_of_lt (Nat.lt_of_lt_of_le (Heap.lt_size q) dn)
  have na : ∀ {b : Addr}, H b = none → b ≠ a := fun {b} n z => by
    rw [z, e] at n
    cases n
  have Un1 : Un X.fs [] H (upd (upd H dx (exd dx [(f, y)])) a (exo a C (some dx))) hp h' := {
    keep := fun b o q n _ _ => k b o (na n) q
    slot := fun b o q n _ _ => ⟨o.slots, k b o (na n) q⟩
    free := fun b o q n _ => by rw [upd_ne (na n), upd_ne (nd q)]; exact n
    there := fun b o q _ => by
      by_cases hb : b = a
      · exact ⟨_, by rw [hb]; exact hx⟩
      · exact ⟨o, k b o hb q⟩
    tups := fun b xs q => by rw [upd_ne (at_ne e q exo_tup), upd_ne (ne_of_none q hnd)]; exact q
    frzs := fun b o v q => by rw [upd_ne (at_ne e q exo_frz), upd_ne (ne_of_none q hnd)]; exact q
    tbls := fun b ps q => ⟨#[], by rw [upd_ne (at_ne e q exo_tbl), upd_ne (ne_of_none q hnd), q]; simp⟩ }
  refine h dx _ hnd dne (I.un (t' := tk') Un1 fun b o q => ?_)
  by_cases hb : b = a
  · subst hb
    rw [upd_same] at q
    cases q
    exact exo_ok hx
  · rw [upd_ne hb] at q
    by_cases hd : b = dx
    · subst hd
      rw [upd_same] at q
      cases q
      exact exd_ok hn (relO_put (fs := []) ry fun g => True.intro)
    · rw [upd_ne hd] at q
      exact (I.hok b o q).stay (fun c v hc z => k c v (by
          rcases hc with hc | hc
          · rw [hc]
            exact hb
          · exact at_ne e hc exo_own) z)
        (fun c hc => by rw [upd_ne (at_ne e hc exo_own), upd_ne (ne_of_none hc hnd)]; exact hc) (fun c xs hc => by rw [upd_ne (at_ne e hc exo_tup), upd_ne (ne_of_none hc hnd)]; exact hc)
theorem ost_oldB (T : OexB X.K C) (I : Inv X pins σ H s) (e : H a = some (exo a C (some dx))) (ed : H dx = some (exd dx fs)) (hl : fs.length ≤ 900) (hno : PySem.W.findIn X.K (.ref C) f = some none) (ry : RelV y u)
    (h : ∀ s', Inv X pins σ (upd H dx (exd dx ((f, y) :: fs))) s' → Q () s') : wpAny (model X.prog X.w) A (setAttr (.ref a) f u) Q E s := by
  obtain ⟨nm, q, N, bs, bm, sn, sub, ab, col, dd, k0, k1, k2, k3, k5, B, newId, initId, bmB, hC, hbm, eb⟩ := T.cls
  have hcl : PySem.W.clsIn X.K C = some { name := nm, bases := bs, mro := .ref C :: bm, ns := N, qualname := q, hasDict := true, slotNames := sn, subclasses := sub, abstract := ab, collection := col, hasDel := false } := by unfold PySem.W.clsIn; rw [hC] <;> rfl
  obtain ⟨t1, ho⟩ := exo_at I.hok e
  obtain ⟨mA, hns, rel⟩ := exd_at I.hok ed
  have hw := within_of rel
  obtain ⟨hp, g, d, t, os⟩ := s
  obtain ⟨oD, _, _, hoD, _, _⟩ := hns.count hw
  refine PySem.W.set_plain I.kIn (ox := { cls := .ref C, dict := some dx, data := .fields #[.ref t1, .none, .none, .none, .bool false, .none] }) (od := some oD) ⟨ho, rfl, rfl, hoD⟩ T.sa ?_
  refine PySem.PuX.osa_oldB I.kIn ho hns hw (by rw [List.length_map]; omega) hcl eb (show PySem.W.excTail bmB (.ref C :: bm) = true from hbm) rfl hno (fun h' tk' k hn => ?_)
  have hd : ∃ o, h'.get? dx = some o := by
    obtain ⟨o, _, _, e', _⟩ := hn
    exact ⟨o, e'⟩
  exact h _ (I.write (t' := tk') (x := dx) (e := dx) (o := exd dx ((f, y) :: fs)) (by rw [ed]; exact True.intro) (.inl rfl) k hd (exd_ok hn (relO_put ry rel)))
end
def tOstB (K : PySem.W.Frag) (f : Str) (to te : TE) : TS := fun D σ H => te σ H fun y H1 => to σ H1 fun x H2 => ∃ a C : Addr, x = .ref a ∧ OexB K C ∧ PySem.W.findIn K (.ref C) f = some none ∧
  ((H2 a = some (exo a C none) ∧ ∀ dx, H2 dx = none → dx ≠ a → D.nx σ (upd (upd H2 dx (exd dx [(f, y)])) a (exo a C (some dx)))) ∨
    ∃ (dx : Addr) (fs : List (Str × V)), H2 a = some (exo a C (some dx)) ∧ H2 dx = some (exd dx fs) ∧ fs.length ≤ 900 ∧ D.nx σ (upd H2 dx (exd dx ((f, y) :: fs))))
section
variable {X : Cx} {o e : Expr} {es : List Expr} {to te : TE} {ta : TA} {f : Str} {p p' p1 p2 pos : Pos}
theorem ps_ostB (ho : PE X o to) (he : PE X e te) (hs : swapsWith e (some (.Attribute o f p')) pos.line X.env = pure false := by rfl) : PS X (.Assign [.Attribute o f p'] e pos) (tOstB X.K f to te) := by
  refine ⟨fun pins s σ H D I h => ?_⟩
  refine plainObj_wpAny_Assign_Attribute (thn (he.run pins s σ H _ I h) fun v s1 ⟨y, H1, I1, r1, q1⟩ => thn (ho.run pins s1 σ H1 _ I1 q1) fun u s2 ⟨x, H2, I2, r2, a, C, ex, T, hno, q⟩ => ?_) hs
  subst ex
  obtain rfl : u = Value.ref a := r2
  rcases q with ⟨ea, q⟩ | ⟨dx, fs, ea, ed, hl, q⟩
  · exact ost_newB T I2 ea hno r1 fun dx s' n ne J => ⟨σ, _, J, q dx n ne⟩
  · exact ost_oldB T I2 ea ed hl hno r1 fun s' J => ⟨σ, _, J, q⟩
theorem mk_endN {pins : List (Addr × Obj)} {σ : L2.St} {H1 H2 : Hp} {Q : XK} {hp hp2 h2 : Heap} {g1 g2 : Array GenState} {d1 d2 : Drawn} {t1 t2 : Nat} {os1 os2 : OsState} {a C d : Addr} {fs : List (Str × V)} (T : Raises X (.ref C)) (I1 : Inv X pins σ H1 ⟨hp, g1, d1, t1, os1⟩)
    (ha : hp.objs.size ≤ a) (k : ∀ b o, hp.get? b = some o → hp2.get? b = some o) (un : Un (frs X.stack) [] (upd H1 a (exo a C none)) H2 hp2 h2) (hok : HOk X.prog X.w H2 h2) (ho : os2 = os1) (hb : AllBare g2)
    (ea : H2 a = some (exo a C (some d))) (ed : H2 d = some (exd d fs)) (hd1 : H1 d = none) (q : Q (.ref C) (some d) (upd (del H2 a) d (.xd fs))) : L2N.MkP X pins σ Q (.ref a) ⟨h2, g2, d2, t2, os2⟩ := by
  obtain ⟨t0, G, J, kG, ge, hoe, na⟩ := mk_end0 (d2 := d2) (t2 := t2) I1 ha k un hok ho hb ea ed hd1
  exact ⟨a, _, _, ⟨G, g2, d2, t2, os2⟩, _, .ref C, some d, rfl, J, kG, ge, hoe, ⟨rfl, rfl, fun vs h => by cases h; rfl⟩, rfl, rfl, na, rfl, hb, T, q⟩
theorem pmk_oexB {CX : CXT} {x : Str} {C fI : Addr} {k : Nat} {fd : FuncData} {ps : List Str} {sp : Sp} {ds : List Value} {dvs : List V} (T : OexB X.K C) (iC : PySem.W.findIn X.K (.ref C) "__init__" = some (some (.ref fI))) (tI : PySem.W.typeIn X.K (.ref fI) = some (.type "function"))
    (F1 : FnOk X.prog X.w X.K X.mg X.base CX k fI fd ps sp) (hr : Room (k + 1) X.A) (hb : Binds X.K fd ps ds) (hd : Vals dvs ds) (hx : Passes CX X (fun _ _ _ => False)) (hg : Gl X x) (hm : X.mg x = some (.ref C)) (ha : PA X (e :: es) ta)
    (hdb : (x == ("__debug__" : Str)) = false := by decide) (he : starEach (e :: es) X.env = (false, eval e X.env) :: starEach es X.env := by rfl) (hpl : (backTo pos (starEach es X.env)).any (·.1) = false := by rfl) :
    L2N.PMk X (.Call (.Name x p) (e :: es) [] pos) (tMkO C sp dvs ta) := by
  intro pins s σ H Q I h
  obtain ⟨nm, q, N, bs, bm, sn, sub, ab, col, dd, k0, k1, k2, k3, k5, B, newId, initId, bmB, hC, hbm, eb⟩ := T.cls
  refine wpAny_Call_Name_kw (ld_glob I hg hm ?_ hdb)
  refine PySem.W.callWith_K (h₀ := X.base) I.ok.mod.kin T.kC (thn (ha.run pos pins s σ H _ I h) fun us s1 ⟨vs, H1, I1, r1, hz, q1⟩ => ⟨I1.kIn, ?_⟩) he hpl
  show wpAny _ _ (call (.ref C) us) _ _ _
  obtain ⟨hp, g, dr, tk, os⟩ := s1
  have hsz : hp.objs.size ≤ hp.objs.size + 1 := Nat.le_succ _
  have hn : H1 (hp.objs.size + 1) = none := I1.hok.fresh hsz
  have hq := q1 (hp.objs.size + 1) hn
  have kk : ∀ b o, hp.get? b = some o → ((hp.push (PySem.W.kdv_tup us)).push (PySem.HandSPX.excO C hp.objs.size)).get? b = some o := fun b o e => Heap.get?_push_of_some _ (Heap.get?_push_of_some _ e)
  have hget : ((hp.push (PySem.W.kdv_tup us)).push (PySem.HandSPX.excO C hp.objs.size)).get? (hp.objs.size + 1) = some (PySem.HandSPX.excO C hp.objs.size) := by heap_get
  have I2 : Inv X pins σ (upd H1 (hp.objs.size + 1) (exo (hp.objs.size + 1) C none)) ⟨(hp.push (PySem.W.kdv_tup us)).push (PySem.HandSPX.excO C hp.objs.size), g, dr, tk, os⟩ :=
    I1.laid (t' := tk) (a := hp.objs.size + 1) (o := exo (hp.objs.size + 1) C none) (h' := (hp.push (PySem.W.kdv_tup us)).push (PySem.HandSPX.excO C hp.objs.size)) kk hsz (exo_ok hget)
  have r2 : Vals (V.ref (hp.objs.size + 1) :: (vs ++ dvs)) (Value.ref (hp.objs.size + 1) :: (us ++ ds)) := .cons rfl (r1.append hd)
  have hl : (Value.ref (hp.objs.size + 1) :: us ++ ds).length = ps.length := by
    have e := r2.length
    rw [F1.len _ _ _ _ hq] at e
    exact e.symm
  have hus : us.length ≤ sizeLine := by
    rw [← Paired.length r1, sizeLine_eq]
    omega
  refine wpAny_call (PySem.HandSPX.call_own eb.F (fun Y => PySem.W.excTail_contains Y bm hbm) (I1.kIn _ _ hC) (PySem.W.looks_findIn I1.kIn iC) (fun self => PySem.W.bind_fn I1.kIn self tI) hus
    (codeAny_mono (F1.run _ X.stack _ _ ⟨Value.ref (hp.objs.size + 1) :: us, []⟩ (Value.ref (hp.objs.size + 1) :: (us ++ ds)) _ _ (fun _ _ _ => False) (hr.make C us []) (I2.env0.make C us []) (hb _ (Value.ref (hp.objs.size + 1) :: us) I2.kIn hl) r2 hq) fun r s' hq' => ?_))
  cases r with
  | error er => exact hx pins σ _ _ er s' I2 hq'
  | ok fl =>
    cases fl with
    | ret u =>
      obtain ⟨v, H2, os2, bare2, un2, hok2, rv, ev, d, fs, ea, ed, hd1, q2⟩ := hq'
      subst ev
      obtain ⟨h2, g2, d2, t2, os'⟩ := s'
      exact ⟨rv, mk_endN (raises_own T.exC T.tyC) I1 hsz kk un2 hok2 os2 bare2 ea ed hd1 q2⟩
    | next => exact False.elim hq'
    | brk => exact False.elim hq'
    | cont => exact False.elim hq'
end
end Pu
set_option Elab.async false
set_option linter.all false
set_option maxRecDepth 100000
set_option maxHeartbeats 4000000
namespace Pu
open PySem PySem.Spec PyProof.Rows L2
open Evl (Ex EvL EvA EvT)
theorem exB_of (n : Nat) : ∃ B initId, PySem.PuX.ExB B (exNew n) initId (exBm n) := by
  match n with
  | 0 => exact ⟨_, _, F.excBase_ValueError, fun _ => F.store_ValueError.passes _, by decide +kernel⟩
  | 1 => exact ⟨_, _, F.excBase_LookupError, fun _ => F.store_LookupError.passes _, by decide +kernel⟩
  | n + 2 => exact ⟨_, _, F.excBase_ArithmeticError, fun _ => F.store_ArithmeticError.passes _, (by decide +kernel : (exBm 2).contains (.type "object") = true)⟩
theorem oexCls {K : PySem.W.Frag} {C : Addr} {n : Nat} (h : oexChk K C n = true) : ∃ nm q N bs bm sn sub ab col dd k0 k1 k2 k3 k5 B newId initId bmB, K.lookup C = some (excClassObj nm q C N bs bm true sn sub ab col dd k0 k1 k2 k3 k5 newId) ∧ PySem.W.excTail bmB bm = true ∧ PySem.PuX.ExB B newId initId bmB := by
  unfold oexChk at h
  split at h
  · rename_i dd cd sl ho
    split at h
    · rename_i C' bm k0 k1 k2 k3 n' k5 hm hs
      simp only [Bool.and_eq_true, beq_iff_eq, Bool.not_eq_true'] at h
      obtain ⟨⟨⟨⟨rfl, rfl⟩, hdel⟩, hd⟩, ht⟩ := h
      obtain ⟨nm, bs, mro, ns, qn, hd', sn, sub, ab, col, del⟩ := cd
      dsimp only at hm hdel hd
      subst hm hdel hd
      have hsl : sl = #[k0, k1, k2, k3, some (.builtin (exNew n)), k5] := by
        obtain ⟨l⟩ := sl
        simp only at hs
        rw [hs]
      subst hsl
      obtain ⟨B, i, eb⟩ := exB_of n
      exact ⟨nm, qn, ns, bs, bm, sn, sub, ab, col, dd, k0, k1, k2, k3, k5, B, _, i, _, ho, ht, eb⟩
    · cases h
  · cases h
structure RsC (K : PySem.W.Frag) (C : Str) (fs : List Str) : Prop where
  ox : OexB K (He.ga K C)
  ini : PySem.W.findIn K (.ref (He.ga K C)) "__init__" = some (some (.ref (He.ma K (He.ga K C) "__init__")))
  fn : PySem.W.typeIn K (.ref (He.ma K (He.ga K C) "__init__")) = some (.type "function")
  no : ∀ f ∈ fs, PySem.W.findIn K (.ref (He.ga K C)) f = some none
theorem clsChk_ok {K : PySem.W.Frag} {C : Addr} (h : clsChk K C = true) : PySem.W.subIn K (.ref C) (.type "BaseException") = some true ∧ PySem.W.typeIn K (.ref C) = some (.type "type") ∧ PySem.W.keepIn K (.ref C) = true := by
  unfold clsChk at h
  simpa only [Bool.and_eq_true, decide_eq_true_eq] using h
theorem rsC_of {K : PySem.W.Frag} {C : Str} {n : Nat} {fs : List Str} (h : rsChk K C n fs = true) : RsC K C fs := by
  unfold rsChk at h
  simp only [Bool.and_eq_true, decide_eq_true_eq, List.all_eq_true] at h
  obtain ⟨h1, h2, h3, h4, h5, h6⟩ := h
  obtain ⟨c1, c2, c3⟩ := clsChk_ok h2
  exact ⟨⟨oexCls h1, He.eqO_ok h3, c1, c2, c3⟩, He.eqO_ok h4, h5, fun f hf => He.eqO_ok (h6 f hf)⟩
def spI1 (f : Str) (C : Addr) : Sp := fun vs H Q _ => ∃ a y, vs = [.ref a, y] ∧ H a = some (exo a C none) ∧ ∀ dx, H dx = none → dx ≠ a → Q .non (upd (upd H dx (exd dx [(f, y)])) a (exo a C (some dx)))
structure IniB (P : Program) (w : World) (K : PySem.W.Frag) (mg : Str → Option Value) (base : Heap) (C : Str) (ps : List Str) (sp : Sp) : Prop where
  ex : ∃ fd, FnOk P w K mg base (L2N.CX P w) 1 (He.ma K (He.ga K C) "__init__") fd ps sp ∧ L2.Binds K fd ps []
section
variable {P : Program} {w : World} {K : PySem.W.Frag} {mg : Str → Option Value} {base : Heap} {dI : He5.DefA} {C f g y z : Str}
theorem ini1 {p1 p2 p3 p4 : Pos} (D : ∃ fd, FunD K dI.name dI.qual dI.params dI.body dI.scope (dI.dvs K) (dI.kws K) (dI.at_ K) fd) (bd : BindD dI ["self", y]) (S : FnScope ["self", y] ["self", y] dI.scope) (R : RsC K C [f]) (ha : dI.at_ K = He.ma K (He.ga K C) "__init__")
    (hb : dI.body = [.Assign [.Attribute (.Name "self" p1) f p2] (.Name y p3) p4]) (v1 : Vis dI.scope "self") (v2 : Vis dI.scope y) (d1 : (y == ("__debug__" : Str)) = false := by decide) (d2 : (y == ("__classdict__" : Str)) = false := by decide) :
    IniB P w K mg base C ["self", y] (spI1 f (He.ga K C)) := by
  obtain ⟨fd, D⟩ := D
  have e0 : dI.dvs K = [] := by unfold He5.DefA.dvs; rw [bd.dfl]; rfl
  rw [e0] at D
  have bb := D.bindsN bd.all
  rw [ha, hb] at D
  refine ⟨fd, ?_, bb⟩
  refine D.ok (k := 0) S (fun vs H Q E h => by obtain ⟨a, y, rfl, _⟩ := h; rfl) fun cdv A outer s H vs Q E hr h => ?_
  obtain ⟨a, u, rfl, h1, h2⟩ := h
  refine ⟨_, pss_one (ps_ostB (pe_var (i := 0) rfl v1) (pe_var (i := 1) rfl v2 d1 d2)), ?_⟩
  exact ⟨u, rfl, .ref a, rfl, a, He.ga K C, rfl, R.ox, R.no f List.mem_cons_self, .inl ⟨h1, h2⟩⟩
end
section
variable {X : Cx} {W : WX} {n k : Nat} {x f g : Str} {p pos pos' : Pos} {e : Expr} {es : List Expr} {ms : M (List RV)} {y z : Str}
theorem ss_raise1 (R : RsC X.K x [f]) (B : IniB X.prog X.w X.K X.mg X.base x ["self", y] (spI1 f (He.ga X.K x))) (G : Good X (k + 2) W) (gl : Gl X x) (at_ : X.mg x = some (.ref (He.ga X.K x))) (ha : SA X W (e :: es) ms)
    (hdb : (x == ("__debug__" : Str)) = false := by decide) (he : starEach (e :: es) X.env = (false, eval e X.env) :: starEach es X.env := by rfl) (hpl : (backTo pos (starEach es X.env)).any (·.1) = false := by rfl) :
    SS X W n (.Raise (some (.Call (.Name x p) (e :: es) [] pos)) none pos') (mRaise x [f] ms) := by
  obtain ⟨fd, F, b⟩ := B.ex
  refine PS.imp (L2N.ps_raise G.calm G.tk (pmk_oexB R.ox R.ini R.fn F (G.room.mono (by omega)) b .nil (L2N.passes_call (E := fun _ _ _ => False) G.tk fun _ _ _ _ z => z.elim) gl at_ ha hdb he hpl)) fun D σ H h => ?_
  obtain ⟨F0, e0, R0, h⟩ := h
  refine useX (R1 := RRs X.K) (Cur.refl R0) h fun rs e1 F1 H1 us C1 q1 _ h1 => ?_
  obtain ⟨F2, e2, vs, C2, _, r2, h2⟩ := AtS.dts C1 q1 h1
  match vs, us, r2, h2 with
  | [v], [u], .cons r .nil, h2 =>
    refine ⟨by simp, fun a na => ⟨a, u, rfl, upd_same, fun dx n ne => ?_⟩⟩
    have nd : H1 dx = none := by rw [upd_ne ne] at n; exact n
    refine ⟨rfl, dx, [(f, u)], upd_same, ?_, nd, ?_⟩
    · rw [upd_ne ne, upd_same]
    · have e : upd (del (upd (upd (upd H1 a (exo a (He.ga X.K x) none)) dx (exd dx [(f, u)])) a (exo a (He.ga X.K x) (some dx))) a) dx (.xd [(f, u)]) = upd H1 dx (.xd [(f, u)]) := by
        funext b
        by_cases hb : b = dx
        · rw [hb, upd_same, upd_same]
        · rw [upd_ne hb, upd_ne hb]
          by_cases hb2 : b = a
          · rw [hb2, del_same, na]
          · rw [del_ne hb2, upd_ne hb2, upd_ne hb, upd_ne hb2]
      rw [e]
      obtain ⟨C3, _, _, _⟩ := C2.grow (o := .xd [(f, u)]) nd
      exact h2 _ _ _ _ _ C3 ⟨rfl, .inr ⟨dx, [u], rfl, upd_same, rfl, .cons r .nil⟩⟩
  | [], [], _, h2 => exact h2.elim
  | _ :: _ :: _, _, _, h2 =>
    exfalso
    simpa [AtS] using h2
end
end Pu
set_option Elab.async false
set_option linter.all false
set_option maxRecDepth 100000
set_option maxHeartbeats 4000000
namespace Pu
open PySem PySem.Spec PyProof.Rows L2
section
variable {Y : Cx} {D a : Addr} {d : Option Addr} {p1 p2 p3 p4 p5 p6 p7 pos : Pos}
theorem pe_isC (E : ErrC Y.K D) (h : Hh Y a (.ref D) d) (i : Nat) {C : Str} (hN : Y.N[i]? = some "_law_e") (v : Vis Y.env.scope "_law_e") (gi : Gl Y "isinstance") (fi : Y.mg "isinstance" = none) (gl : Gl Y C) (at_ : Y.mg C = some (.ref (He.ga Y.K C))) (n : (C == ("__debug__" : Str)) = false) :
    PE Y (.Call (.Name "isinstance" p1) [.Name "_law_e" p2, .Name C p3] [] p4) (isE Y.K D a d i (.ref (He.ga Y.K C))) :=
  pe_callB (cr_isX E h) gi fi (by decide +kernel) (pa_cons (pe_var hN v) (pa_cons (pe_glob gl at_ rfl n) pa_nil))
theorem pe_isT (E : ErrC Y.K D) (h : Hh Y a (.ref D) d) (i : Nat) {C : Str} {T : String} (hN : Y.N[i]? = some "_law_e") (v : Vis Y.env.scope "_law_e") (gi : Gl Y "isinstance") (fi : Y.mg "isinstance" = none) (gl : Gl Y C) (fr : Y.mg C = none) (hv : bootBuiltins C = some (.type T)) (n1 : C ≠ "__name__") (n : (C == ("__debug__" : Str)) = false) :
    PE Y (.Call (.Name "isinstance" p1) [.Name "_law_e" p2, .Name C p3] [] p4) (isE Y.K D a d i (.ty T)) :=
  pe_callB (cr_isX E h) gi fi (by decide +kernel) (pa_cons (pe_var hN v) (pa_cons (pe_bltn gl fr hv (v := .ty T) rfl n1 n) pa_nil))
theorem pa_vals {es : List Expr} {t : TA} {vs : List V} (h : PA Y es t) (e : ∀ σ H Q, t σ H Q = Q vs H) : PA Y es (fun _ H Q => Q vs H) := PA.imp h fun σ H Q q => by rw [e]; exact q
theorem pe_isTup (E : ErrC Y.K D) (h : Hh Y a (.ref D) d) (i : Nat) {es : List Expr} {k : Nat} {vs : List V} (hN : Y.N[i]? = some "_law_e") (v : Vis Y.env.scope "_law_e") (gi : Gl Y "isinstance") (fi : Y.mg "isinstance" = none) (ha : PA Y es (fun _ H Q => Q vs H)) :
    PE Y (.Call (.Name "isinstance" p1) [.Name "_law_e" p2, .Tuple es k p3] [] p4) (isTup Y.K D a d i vs) :=
  pe_callB (cr_isX E h) gi fi (by decide +kernel) (pa_cons (pe_var hN v) (pa_cons (pe_tup ha) pa_nil))
theorem pt_tr {e : Expr} {te : TE} (h : PE Y e te) (he : ∀ whole, isTrue e Y.env whole = (do let v ← whole; standAt e.pos; holding [v] (truthy v)) := by intro _; rfl) : PT Y e (tTr Y.K te) := pt_truth h he
theorem pe_row2 {f1 f2 : Expr} {l1 l2 : List Expr} {a1 a2 : Pos} {w1 w2 : Str} {k1 k2 : Nat} {r q : Str × Str} (h1 : PE Y (.Call f1 l1 [] a1) (isE Y.K D a d 0 (.ref (He.ga Y.K r.2)))) (h2 : PE Y (.Call f2 l2 [] a2) (isE Y.K D a d 0 (.ref (He.ga Y.K q.2)))) (z1 : w1 = r.1) (z2 : w2 = q.1) :
    PE Y (.List [.List [.Constant (.str w1) k1 p1, .Call f1 l1 [] a1] p2, .List [.Constant (.str w2) k2 p3, .Call f2 l2 [] a2] p4] p5) (tTwo Y.K D a d r q) := by
  subst z1 z2
  exact pe_lst (pa_cons (pe_lst (pa_cons pe_str (pa_cons h1 pa_nil))) (pa_cons (pe_lst (pa_cons pe_str (pa_cons h2 pa_nil))) pa_nil))
theorem pe_cnt {x : Str} {i : Nat} (hN : Y.N[i]? = some x) (v : Vis Y.env.scope x) (n1 : (x == ("__debug__" : Str)) = false) (n2 : (x == ("__classdict__" : Str)) = false) {b : Bool} {k : Nat}
    (hbase : attributeBase (.Name x p1) "count" Y.env (eval (.Name x p1) Y.env) = eval (.Name x p1) Y.env := by rfl) (hline : (p2.endLine == pos.line) = true := by rfl) :
    PE Y (.Call (.Attribute (.Name x p1) "count" p2) [.Constant (.bool b) k p3] [] pos) (tBM Y.K "list" (rCntF Y.K) (tVar i) (tCons (tC (.bl b)) tNil)) :=
  pe_bm PySem.F.plainAttrs_list PySem.F.slot_list_count PySem.F.type_list_count mt_countF (pe_var hN v n1 n2) (pa_cons pe_bl pa_nil) hbase rfl hline rfl rfl
end
end Pu
set_option Elab.async false
set_option linter.all false
set_option maxRecDepth 100000
set_option maxHeartbeats 4000000
namespace Pu
open PySem PySem.Spec PyProof.Rows L2
end Pu
set_option Elab.async false
set_option linter.all false
set_option maxRecDepth 100000
set_option maxHeartbeats 4000000
namespace Pu
open PySem PySem.Spec PyProof.Rows L2
end Pu
set_option Elab.async false
set_option linter.all false
set_option maxRecDepth 100000
set_option maxHeartbeats 2000000
namespace Pu
open PySem PySem.Spec PyProof.Rows L2
open Evl (Ex Ev EvL EvA EvT)
structure FactG (cl : List Str) (K : PySem.W.Frag) (C : Str) : Prop where
  er : ErrC K (He.ga K C)
  row : ∀ q ∈ cl, PySem.W.kitOne K (.ref (He.ga K C)) (.ref (He.ga K q)) = some (q == C)
  b0 : PySem.W.kitOne K (.ref (He.ga K C)) (.ref (He.ga K "NotRight")) = some (famOf C == 0)
  b1 : PySem.W.kitOne K (.ref (He.ga K C)) (.ref (He.ga K "NotKnown")) = some (famOf C == 1)
  b2 : PySem.W.kitOne K (.ref (He.ga K C)) (.ref (He.ga K "NotPossible")) = some (famOf C == 2)
  p0 : PySem.W.kitOne K (.ref (He.ga K C)) (.type "ValueError") = some (famOf C == 0)
  p1 : PySem.W.kitOne K (.ref (He.ga K C)) (.type "LookupError") = some (famOf C == 1)
  p2 : PySem.W.kitOne K (.ref (He.ga K C)) (.type "ArithmeticError") = some (famOf C == 2)
  exm : PySem.W.exmAny K (.ref (He.ga K C)) [.ref (He.ga K "NotRight"), .ref (He.ga K "NotKnown"), .ref (He.ga K "NotPossible")] = some true
  fld : ∀ f ∈ fldNames, PySem.W.findIn K (.ref (He.ga K C)) f = some none
end Pu
set_option Elab.async false
set_option linter.all false
set_option maxRecDepth 100000
set_option maxHeartbeats 2000000
namespace Pu
open PySem PySem.Spec PyProof.Rows L2
open Evl (Ex EvL EvA EvT)
end Pu
set_option Elab.async false
set_option linter.all false
set_option maxRecDepth 100000
set_option maxHeartbeats 2000000
namespace Pu
open PySem PySem.Spec PyProof.Rows L2
open Evl (Ex EvL EvA EvT)
def okG (cl : List Str) (K : PySem.W.Frag) (D : Addr) : Prop := ∃ C ∈ cl, D = He.ga K C ∧ FactG cl K C
theorem okG.er {cl : List Str} {K : PySem.W.Frag} {D : Addr} (h : okG cl K D) : ErrC K D := by
  obtain ⟨C, _, rfl, F⟩ := h
  exact F.er
theorem okG.fld {cl : List Str} {K : PySem.W.Frag} {D : Addr} (h : okG cl K D) {f : Str} (hf : f ∈ fldNames) : PySem.W.findIn K (.ref D) f = some none := by
  obtain ⟨C, _, rfl, F⟩ := h
  exact F.fld f hf
section
variable {K : PySem.W.Frag} {W : WX} {B : Bg} {F F' H H' H1 : Hp} {e e' : Ev} {σ σ' : Sig} {np : Nat}
theorem Made.more {H H1 H2 : Hp} (m : Made H H1) (x : Ex H1 H2) : Made H H2 := ⟨m.ext.trans (LamX.ExtN.of x), fun b h => m.old b (Evl.fresh_back x h)⟩
end
end Pu
set_option Elab.async false
set_option linter.all false
set_option maxRecDepth 100000
set_option maxHeartbeats 2000000
namespace Pu
open PySem PySem.Spec PyProof.Rows L2
open Evl (Ex EvL EvA EvT)
end Pu
set_option Elab.async false
set_option linter.all false
set_option maxRecDepth 100000
set_option maxHeartbeats 2000000
namespace Pu
open PySem PySem.Spec PyProof.Rows L2
open Evl (Ex EvL EvA EvT)
end Pu
set_option Elab.async false
set_option linter.all false
set_option maxRecDepth 100000
set_option maxHeartbeats 4000000
namespace HT
open PySem PySem.Spec PyProof.Rows L2
end HT
namespace Pu
open PySem PySem.Spec PyProof.Rows L2
end Pu
set_option Elab.async false
set_option linter.all false
set_option maxRecDepth 100000
set_option maxHeartbeats 4000000
namespace L2
open PySem PySem.Spec PyProof.Rows
end L2
namespace Pu
open PySem PySem.Spec PyProof.Rows L2
end Pu
set_option Elab.async false
set_option linter.all false
set_option maxRecDepth 100000
set_option maxHeartbeats 4000000
namespace Pu
open PySem PySem.Spec PyProof.Rows L2
theorem sel_succ {α : Type} {y : α} {xs : List α} : ∀ {g : List Nat}, sel (g.map (· + 1)) (y :: xs) = sel g xs
  | [] => rfl
  | i :: g => by
    rw [List.map_cons]
    simp only [sel, List.getElem?_cons_succ]
    rw [sel_succ (g := g)]
theorem sel_self {α : Type} {y : α} {xs : List α} {g : List Nat} : sel (0 :: g.map (· + 1)) (y :: xs) = y :: sel g xs := by
  simp only [sel, List.getElem?_cons_zero]
  rw [sel_succ]
end Pu
set_option Elab.async false
set_option linter.all false
set_option maxRecDepth 100000
set_option maxHeartbeats 4000000
namespace Pu
open PySem PySem.Spec PyProof.Rows L2
end Pu
set_option Elab.async false
set_option linter.all false
set_option maxRecDepth 100000
set_option maxHeartbeats 2000000
namespace Pu
open PySem PySem.Spec PyProof.Rows L2
end Pu
set_option Elab.async false
set_option linter.all false
set_option maxRecDepth 100000
set_option maxHeartbeats 2000000
namespace Pu
open PySem PySem.Spec PyProof.Rows L2
end Pu
set_option Elab.async false
set_option linter.all false
set_option maxRecDepth 100000
set_option maxHeartbeats 4000000
namespace Pu
open PySem PySem.Spec PyProof.Rows L2
section
variable {prog : Program} {w : World} {A : Around} {E : Value → Shared → Prop} {s : Shared} {z TI TO T i1 i2 S : Addr} {f : Bool} {oT : Obj} {fp1 fp2 : List Addr} {n1 n2 i : Nat} {P1 P2 : Nat → Value → Prop} {St1 St2 : Nat → Heap → Prop}
theorem ZlSt.typeIs (st : ZlSt z TI TO i1 i2 S s.heap) : s.TypeIs (.ref z) "zip" := by
  obtain ⟨_, ⟨hz, _⟩ | ⟨T, f, oT, hz, _⟩⟩ := st
  · exact ⟨_, hz, rfl⟩
  · exact ⟨_, hz, rfl⟩
end
end Pu
set_option Elab.async false
set_option linter.all false
set_option maxRecDepth 100000
set_option maxHeartbeats 4000000
namespace Pu
open PySem PySem.Spec PyProof.Rows L2
section
variable {X : Cx} {pins : List (Addr × Obj)} {σ : L2.St} {H : Hp} {s : Shared}
open Classical in
end
def rk : Val → Str
  | .tup (.str x :: _) => x
  | _ => Str.empty
end Pu
set_option Elab.async false
set_option linter.all false
set_option maxRecDepth 100000
set_option maxHeartbeats 2000000
namespace Pu
open PySem PySem.Spec PyProof.Rows L2
end Pu
set_option Elab.async false
set_option linter.all false
set_option maxRecDepth 100000
set_option maxHeartbeats 2000000
namespace Pu
open PySem PySem.Spec PyProof.Rows L2
section
variable {X : Cx} {k : Nat} {f : Addr} {fd : FuncData} {ps : List Str} {sp : Sp} {C : Addr}
theorem goIn {pins : List (Addr × Obj)} {σ : Sig} {H : Hp} {s : Shared} {Q : VK} {us : List Value} {vs : List V} {E' : Value → Shared → Prop} (F : FnG X.prog X.w X.K X.mg X.base k f fd ps sp) (hr : Room (k + 1) X.A) (hG : X.A.guards = some []) (hb : Binds X.K fd ps [])
    (I : Inv X pins σ H s) (r : Vals vs us) (h : sp vs H Q (fun _ _ _ => False)) : wpAny (model X.prog X.w) X.A.in1 (call (.ref f) us) (EP X pins σ Q) E' s := by
  have bt := hb s us I.kIn (by rw [List.append_nil] <;> exact r.length.symm.trans (F.many _ _ _ _ h))
  have runs := F.goes X.A.in1 X.stack s H ⟨us, []⟩ us vs Q (fun _ _ _ => False) hr.in1 (by first | exact hG | simpa using hG) I.env0.in1 (by simpa using bt) r h
  refine wpAny_call (codeAny_mono runs fun res s' got => ?_)
  cases res with
  | error z =>
    obtain ⟨_, _, _, _, _, _, _, _, _, _, _, _, no⟩ := got
    exact no.elim
  | ok fl => cases fl with
    | next => exact got.elim
    | brk => exact got.elim
    | cont => exact got.elim
    | ret u =>
      obtain ⟨v, H', J3, rv, q3⟩ := I.after got
      exact ⟨v, H', J3, rv, q3⟩
end
section
variable {prog : Program} {w : World} {A : Around} {E : Value → Shared → Prop} {s : Shared} {K : PySem.W.Frag} {x C f : Addr} {ox : Obj} {od : Option Obj} {b tb : Value}
theorem rc_own {op : CmpOp} {Q : Value → Shared → Prop} (hu : A.units < cLine) (X : K.In s.heap) (I : PySem.W.InstAt s.heap x ox C od) (hb : ∀ Q : Value → Shared → Prop, Q tb s → wpAny (model prog w) A (typeOf b) Q E s) (hn : PySem.W.notFirst K C tb = true)
    (one : wpAny (model prog w) A (tryCompare (.ref x) (cmpInfo op).2.1 b) (fun r s' => ∃ v, r = some v ∧ Q v s') E s) : wpAny (model prog w) A (richCompare op (.ref x) b) Q E s := by
  unfold richCompare
  simp only [oneThing_ref]
  refine wpAny_holding (wpAny_bind (wpAny_cRoomFor hu ?_))
  refine wpAny_bind (I.type.here (wpAny_bind (hb _ ?_)))
  split
  · rename_i q
    have e : PySem.W.subIn K tb (.ref C) = some false := by
      rcases Bool.or_eq_true_iff.mp hn with e | e
      · rw [beq_iff_eq.mp e] at q; simp at q
      · exact beq_iff_eq.mp e
    refine wpAny_bind ((PySem.W.looks_subIn X e).here ?_)
    simp only [Bool.false_eq_true, if_false]
    refine wpAny_bind (wpAny_mono one (fun r s' z => ?_) fun _ _ e => e)
    obtain ⟨v, rfl, hq⟩ := z
    exact wpAny_pure hq
  · refine wpAny_bind (wpAny_pure ?_)
    simp only [Bool.false_eq_true, if_false]
    refine wpAny_bind (wpAny_mono one (fun r s' z => ?_) fun _ _ e => e)
    obtain ⟨v, rfl, hq⟩ := z
    exact wpAny_pure hq
theorem nf_same : PySem.W.notFirst K C (.ref C) = true := by unfold PySem.W.notFirst; simp
theorem nf_ty {T : String} {l : List Value} (e : fastBuiltinMro T = some l) (h : l.contains (.ref C) = false) : PySem.W.notFirst K C (.type T) = true := by
  unfold PySem.W.notFirst
  have e2 : PySem.W.subIn K (.type T) (.ref C) = some false := by
    show (fastBuiltinMro T).map (·.contains (.ref C)) = some false
    rw [e]
    show some (l.contains (.ref C)) = some false
    rw [h]
  rw [e2]; simp
theorem nf_tup : PySem.W.notFirst K C (.type "tuple") = true := nf_ty (l := [.type "tuple", .type "object"]) (by decide +kernel) (by rfl)
theorem nf_str : PySem.W.notFirst K C (.type "str") = true := nf_ty (l := [.type "str", .type "object"]) (by decide +kernel) (by rfl)
theorem nf_non : PySem.W.notFirst K C (.type "NoneType") = true := nf_ty (l := [.type "NoneType", .type "object"]) (by decide +kernel) (by rfl)
theorem ifBound_ne {args : List Value} {Q : Option Value → Shared → Prop} (X : K.In s.heap) (I : PySem.W.InstAt s.heap x ox C od) (hs : PySem.W.findIn K (.ref C) "__ne__" = some (some (.builtin "object.__ne__")))
    (h : wpAny (model prog w) A (call (.builtin "object.__ne__") (.ref x :: args)) (fun v => Q (some v)) E s) : wpAny (model prog w) A (callSpecialIfBound? (.ref x) "__ne__" args) Q E s := by
  simp only [callSpecialIfBound?, bindSpecialIfBound?]
  refine wpAny_holding (wpAny_bind (wpAny_bind (wpAny_bind (I.type.here ((PySem.W.looks_findIn X hs).here ?_)))))
  refine wpAny_bind (wpAny_askSetting (wpAny_ite ?_))
  have fin : wpAny (model prog w) A (call (.builtin "object.__ne__") ([.ref x] ++ args) >>= fun v => pure (some v)) Q E s := wpAny_bind (wpAny_mono h (fun v s' h' => wpAny_pure h') fun _ _ h' => h')
  split
  · exact wpAny_bind (wpAny_of_eq (PySem.F.cmp_object.ne.bind _) (wpAny_pure (by exact fin)))
  · exact wpAny_tryCatch (wpAny_bind (wpAny_of_eq (PySem.F.cmp_object.ne.bind _) (wpAny_pure (by exact fin))))
theorem objNe_entry {y : Value} (X : K.In s.heap) (I : PySem.W.InstAt s.heap x ox C od) (hs : PySem.W.findIn K (.ref C) "__eq__" = some (some (.ref f))) (hf : PySem.W.isFn K (.ref f) = true) (hu : A.units < cLine) {Q : Fin → Shared → Prop}
    (hcall : wpAny (model prog w) A (call (.ref f) [.ref x, y]) (fun v s' => ∃ b, v = .bool b ∧ Q (.done (.ret (.bool (!b)))) s') E s) :
    wpAny (model prog w) A (Builtin.«object.__ne__» ⟨[.ref x, y], []⟩) Q E s := by
  unfold Builtin.«object.__ne__»
  repeat (first
    | with_reducible refine wpAny_cRoomFor hu ?_
    | (refine wpAny_bind (m := callSpecialIfBound? (.ref x) (Str.ofString "__eq__") [y])
        (PySem.W.ifBound_K X I hs hf (wpAny_mono hcall (fun r s' hr => by
          obtain ⟨b, rfl, hq⟩ := hr
          repeat (first | exact hq | exact wpAny_pure hq | exact wpAny_truthy_bool hq | (refine wpAny_bind (m := truthy (.bool _)) (wpAny_truthy_bool ?_)) | wp_step)) fun _ _ e => e)))
    | wp_step)
theorem try_ne {y : Value} (X : K.In s.heap) (I : PySem.W.InstAt s.heap x ox C od) (hn : PySem.W.findIn K (.ref C) "__ne__" = some (some (.builtin "object.__ne__"))) (hm : PySem.W.mroIn K C (.type "object") = some true)
    (hs : PySem.W.findIn K (.ref C) "__eq__" = some (some (.ref f))) (hf : PySem.W.isFn K (.ref f) = true) (hu : A.units + 1 < cLine) {Q : Value → Shared → Prop}
    (hcall : wpAny (model prog w) A.in1 (call (.ref f) [.ref x, y]) (fun v s' => ∃ b, v = .bool b ∧ Q (.bool (!b)) s') E s) :
    wpAny (model prog w) A (tryCompare (.ref x) "__ne__" y) (fun r s' => ∃ v, r = some v ∧ Q v s') E s := by
  simp only [tryCompare]
  refine wpAny_bind (ifBound_ne X I hn (wpAny_call (codeAny_call_builtin PySem.F.cmp_object.ne.plain PySem.F.cmpEntry_ne (PySem.W.check_slot PySem.F.cmpKind_ne PySem.F.cmpSplit_ne (I.type.andThen (PySem.W.looks_mroIn X hm)) (PySem.F.cmpArgs_ne _ _)
    (objNe_entry (A := A.in1) X I hs hf hu (wpAny_mono hcall (fun v s' hv => ?_) fun _ _ e => e))))))
  obtain ⟨b, rfl, hq⟩ := hv
  exact ⟨b, rfl, wpAny_pure ⟨_, rfl, hq⟩⟩
end
section
variable {X : Cx} {k : Nat} {f : Addr} {fd : FuncData} {ps : List Str} {sp : Sp} {C : Addr}
inductive Oth (K : PySem.W.Frag) (C : Addr) (H : Hp) : V → Prop
  | ins {b dx : Addr} {fs : List (Str × V)} : H b = some (.ins C dx fs) → Oth K C H (.ref b)
  | tup {y : V} : TyB K H y "tuple" → Oth K C H y
  | str {y : V} : TyB K H y "str" → Oth K C H y
  | non {y : V} : TyB K H y "NoneType" → Oth K C H y
theorem Oth.ask {M : Model} {A : Around} {E : Value → Shared → Prop} {pins : List (Addr × Obj)} {σ : Sig} {H : Hp} {s : Shared} {y : V} {u : Value} (I : Inv X pins σ H s) (ru : RelV y u) (o : Oth X.K C H y) :
    ∃ tb, PySem.W.notFirst X.K C tb = true ∧ ∀ Q : Value → Shared → Prop, Q tb s → wpAny M A (typeOf u) Q E s := by
  cases o with
  | ins h =>
    cases ru
    obtain ⟨mA, O, _⟩ := ins_get I.hok h
    obtain ⟨od, J, _⟩ := O.look
    exact ⟨_, nf_same, fun Q q => J.type.here q⟩
  | tup h => exact ⟨_, nf_tup, fun Q q => wpAny_typeOf (h.is I ru) q⟩
  | str h => exact ⟨_, nf_str, fun Q q => wpAny_typeOf (h.is I ru) q⟩
  | non h => exact ⟨_, nf_non, fun Q q => wpAny_typeOf (h.is I ru) q⟩
def rCmpO (K : PySem.W.Frag) (C : Addr) (sp : Sp) (neg : Bool) : R2 := fun x y H Q => ∃ a dx fs, x = .ref a ∧ H a = some (.ins C dx fs) ∧ Oth K C H y ∧ sp [.ref a, y] H (fun v H2 => ∃ b, v = .bl b ∧ Q (.bl (if neg then !b else b)) H2) (fun _ _ _ => False)
theorem op_neO (hm : Meth X.K C "__eq__" f) (hne : PySem.W.findIn X.K (.ref C) "__ne__" = some (some (.builtin "object.__ne__"))) (hmr : PySem.W.mroIn X.K C (.type "object") = some true) (F : FnG X.prog X.w X.K X.mg X.base k f fd ps sp) (hr : Room (k + 1) X.A) (hG : X.A.guards = some []) (hb : Binds X.K fd ps []) : OpR X (compareOp .NotEq) (rCmpO X.K C sp true) := by
  intro pins s σ H x y v u Q I rx ry h
  obtain ⟨a, dx, fs, rfl, ea, oth, q⟩ := h
  obtain rfl : v = Value.ref a := rx
  obtain ⟨mA, O, _⟩ := ins_get I.hok ea
  obtain ⟨od, J, _⟩ := O.look
  have un := hr.units
  obtain ⟨tb, nf, ty⟩ := oth.ask (M := model X.prog X.w) (A := X.A) (E := X.xe) I ry
  show wpAny _ _ (richCompare .NotEq (.ref a) u) _ _ _
  refine rc_own (by omega) I.kIn J ty nf ?_
  refine try_ne I.kIn J hne hmr hm.at_ hm.fn (by omega) (wpAny_mono (goIn (E' := X.xe) (vs := [.ref a, y]) (us := [Value.ref a, u]) F hr hG hb I (.cons rfl (.cons ry .nil)) q) (fun r s' hr => ?_) fun _ _ z => z)
  obtain ⟨v, H', J3, rv, b, rfl, q3⟩ := hr
  cases rv
  exact ⟨b, rfl, .bl (!b), H', J3, rfl, q3⟩
end
section
variable {K : PySem.W.Frag} {B : Bg} {F H : Hp} {e : Ev} {σ : Sig} {W : WX}
theorem oth_of {C : Str} {w : Val} {y : V} (s : Same F H) (h : RdR K F H w y) (o : othV C w = true) : Oth K (He.ga K C) H y := by
  cases w with
  | obj C' fs vs =>
    have e : C' = C := of_decide_eq_true o
    subst e
    obtain ⟨a, dx, us, rfl, z1, _⟩ := h.obj s
    exact .ins z1
  | tup xs =>
    obtain ⟨a, us, rfl, z1, _⟩ := h.tup s
    exact .tup (.tup z1)
  | str x => rw [h.str]; exact .str (.str x)
  | non => rw [h.non]; exact .non .non
  | _ => cases o
end
section
variable {X : Cx} {W : WX} {k : Nat} {d : He5.DefA} {ps : List Str} {C : Str} {mf mo ma mb : M RV} {o a b : Expr} {x : Str} {p pos : Pos}
structure NeOf (K : PySem.W.Frag) (C : Addr) : Prop where
  ne : PySem.W.findIn K (.ref C) "__ne__" = some (some (.builtin "object.__ne__"))
  mro : PySem.W.mroIn K C (.type "object") = some true
end
section
variable {K : PySem.W.Frag} {B : Bg} {F H : Hp} {e : Ev} {σ : Sig} {W : WX}
theorem blTo_ok {ne : Bool} {m : M RV} {Q : Bool → Hp → Prop} (h : At K W (fun _ _ _ _ _ (b c : Bool) => b = c) B (blTo ne m) F e σ H Q) : At K noW (RR K) B m F e σ H (fun v H' => ∃ b, v = .bl b ∧ (fun x H2 => ∃ k, x = V.bl k ∧ Q k H2) (.bl (if ne then !b else b)) H') := by
  unfold blTo at h
  unfold At M.bind noRs at h
  unfold At
  cases z : m e with
  | bad => simp only [z] at h
  | rs x e' => simp only [z] at h
  | ok y e' =>
    simp only [z] at h
    intro F' H' u C q
    have h2 : At K W (fun _ _ _ _ _ (b c : Bool) => b = c) B ((M.rd y).bind fun b => match b with
      | .bl b => M.ret (if ne then !b else b)
      | _ => M.bad) F' e' σ H' Q := h
    obtain ⟨v, rv, h3⟩ := At.rd C.rel q h2
    cases v with
    | bl b => exact ⟨b, rv.bl, _, rfl, h3.ok rfl C rfl⟩
    | _ => exact h3.elim
end
section
variable {X : Cx} {W : WX} {k : Nat} {d : He5.DefA} {ps : List Str} {C : Str} {mf ma mb : M RV} {a b : Expr} {pos : Pos}
theorem cmpT_ok {ne : Bool} {σ : Sig} {H : Hp} {Q : Bool → Hp → Prop} (h : tT X.K W (mCmpT ne C mf ma mb) σ H Q) : tTest (tOp (rCmpO X.K (He.ga X.K C) (spG X.K 2 mf) ne) (tE X.K W ma) (tE X.K W mb)) σ H Q := by
  obtain ⟨np, F1, e, R, h⟩ := h
  refine use (R1 := RR X.K) (Cur.refl R) h fun r e1 F1 H1 u C1 q1 _ h1 => ?_
  refine useS (R1 := RR X.K) C1 h1 fun s e2 F2 H2 y C2 q2 c2 h2 => ?_
  obtain ⟨v, rv, h3⟩ := At.rd C2.rel (q1.carry c2) h2
  obtain ⟨w, rw_, h4⟩ := At.rd C2.rel (Carry.out C1 q2) h3
  cases v with
  | obj C2' fs vs =>
    dsimp only at h4
    by_cases hC : C2' = C ∧ othV C w = true
    · rw [if_pos hC] at h4
      obtain ⟨rfl, ho⟩ := hC
      obtain ⟨a, dx, us, rfl, z1, z2, z3⟩ := rv.obj C2.rel.sub
      refine ⟨a, dx, _, rfl, z1, oth_of C2.rel.sub rw_ ho, ?_⟩
      exact call_ok (W := noW) C2 (RRs.front C1 q1 c2 (RRs.cons q2 (fun _ _ j w z => by simp at z) RRs.nil)) (blTo_ok h4) rfl
    · rw [if_neg hC] at h4
      exact h4.elim
  | _ => exact h4.elim
theorem st_neO (ha : SE X W a ma) (hb : SE X W b mb) (hm : Meth X.K (He.ga X.K C) "__eq__" (d.at_ X.K)) (n : NeOf X.K (He.ga X.K C)) (D : FnB X.prog X.w X.K X.mg X.base k d ps 2 mf) (bd : BindD d ps) (G : Good X (k + 1) W) (hk : behindInMarks .NotEq b = false := by first | exact nomark _ | rfl) : ST X W (.Compare a [.NotEq] [b] pos) (mCmpT true C mf ma mb) := by
  obtain ⟨fd, F, hb2, kp⟩ := D.parts bd
  exact PT.imp (pt_cmpR (op_neO hm n.ne n.mro F G.room G.gd hb2) ha hb hk) fun _ _ _ h => cmpT_ok h
end
theorem ne_of {K : PySem.W.Frag} {C : Str} (h : neB K C = true) : NeOf K (He.ga K C) := by
  unfold neB at h
  rw [Bool.and_eq_true] at h
  obtain ⟨h1, h2⟩ := h
  refine ⟨?_, ?_⟩
  · split at h1
    · rename_i id e
      rw [e, beq_iff_eq.mp h1]
    · cases h1
  · split at h2
    · rename_i b e
      rw [e, h2]
    · cases h2
end Pu
set_option Elab.async false
set_option linter.all false
set_option maxRecDepth 100000
set_option maxHeartbeats 2000000
namespace Pu
open PySem PySem.Spec PyProof.Rows L2
end Pu
namespace Pu
open PySem PySem.Spec PyProof.Rows L2
end Pu
set_option Elab.async false
set_option linter.all false
set_option maxRecDepth 100000
set_option maxHeartbeats 2000000
namespace Pu
open PySem PySem.Spec PyProof.Rows L2
end Pu
set_option Elab.async false
set_option linter.all false
set_option maxRecDepth 100000
set_option maxHeartbeats 4000000
namespace Pu
open PySem PySem.Spec PyProof.Rows L2
end Pu
set_option Elab.async false
set_option linter.all false
set_option maxRecDepth 100000
set_option maxHeartbeats 4000000
namespace Pu
open PySem PySem.Spec PyProof.Rows L2
end Pu
set_option Elab.async false
set_option linter.all false
set_option maxRecDepth 100000
set_option maxHeartbeats 4000000
namespace Pu
open PySem PySem.Spec PyProof.Rows L2
end Pu
set_option Elab.async false
set_option linter.all false
set_option maxRecDepth 100000
set_option maxHeartbeats 2000000
namespace Pu
open PySem PySem.Spec PyProof.Rows L2
open Evl (Ex EvL EvA EvT)
end Pu
set_option Elab.async false
set_option linter.all false
set_option maxRecDepth 100000
set_option maxHeartbeats 4000000
namespace Pu
open PySem PySem.Spec PyProof.Rows L2
end Pu
set_option Elab.async false
set_option linter.all false
set_option maxRecDepth 100000
set_option maxHeartbeats 4000000
namespace Pu
open PySem PySem.Spec PyProof.Rows L2
end Pu
set_option Elab.async false
set_option linter.all false
set_option maxRecDepth 100000
set_option maxHeartbeats 4000000
namespace Pu
open PySem PySem.Spec PyProof.Rows L2
open Evl (Ex EvL EvA EvT)
section
variable {P : Program} {w : World} {K : PySem.W.Frag} {mg : Str → Option Value} {base : Heap}
structure FnXB (P : Program) (w : World) (K : PySem.W.Frag) (mg : Str → Option Value) (base : Heap) (k : Nat) (d : He5.DefA) (ps : List Str) (n : Nat) (m : M RV) : Prop where
  ex : ∃ fd, FunD K d.name d.qual d.params d.body d.scope (d.dvs K) (d.kws K) (d.at_ K) fd ∧ ∀ p, FnX P w K mg base k (d.at_ K) fd ps p (spG K n m)
theorem FnXB.parts {d : He5.DefA} {ps : List Str} {k n : Nat} {m : M RV} (B : FnXB P w K mg base k d ps n m) (bd : BindD d ps) : ∃ fd, (∀ p, FnX P w K mg base k (d.at_ K) fd ps p (spG K n m)) ∧ Binds K fd ps [] ∧ PySem.W.keepIn K (.ref (d.at_ K)) = true := by
  obtain ⟨fd, D, F⟩ := B.ex
  refine ⟨fd, F, ?_, D.kp⟩
  have e : d.dvs K = [] := by unfold He5.DefA.dvs; rw [bd.dfl]; rfl
  rw [e] at D
  exact D.bindsN bd.all
end
end Pu
set_option Elab.async false
set_option linter.all false
set_option maxRecDepth 100000
set_option maxHeartbeats 4000000
namespace Pu
open PySem PySem.Spec PyProof.Rows L2
open Evl (Ex EvL EvA EvT)
end Pu
set_option Elab.async false
set_option linter.all false
set_option maxRecDepth 100000
set_option maxHeartbeats 4000000
namespace Pu
open PySem PySem.Spec PyProof.Rows L2
open Evl (Ex EvL EvA EvT)
end Pu
set_option Elab.async false
set_option linter.all false
set_option maxRecDepth 100000
set_option maxHeartbeats 4000000
namespace Pu
open PySem PySem.Spec PyProof.Rows L2
end Pu
set_option Elab.async false
set_option linter.all false
set_option maxRecDepth 100000
set_option maxHeartbeats 4000000
namespace Pu
open PySem PySem.Spec PyProof.Rows L2
def cMulT (x : Str) (n : Int) : Prop := 1 ≤ n ∧ n ≤ 1000 ∧ x.length ≤ 1000
instance : ∀ x n, Decidable (cMulT x n) := fun x n => by unfold cMulT; infer_instance
end Pu
set_option Elab.async false
set_option linter.all false
set_option maxRecDepth 100000
set_option maxHeartbeats 4000000
namespace Pu
open PySem PySem.Spec PyProof.Rows L2
end Pu
set_option Elab.async false
set_option linter.all false
set_option maxRecDepth 100000
set_option maxHeartbeats 4000000
namespace Pu
open PySem PySem.Spec PyProof.Rows L2
open Evl (Ex EvL EvA EvT)
end Pu
set_option Elab.async false
set_option linter.all false
set_option maxRecDepth 100000
set_option maxHeartbeats 4000000
namespace Pu
open PySem PySem.Spec PyProof.Rows L2
end Pu
set_option Elab.async false
set_option linter.all false
set_option maxRecDepth 100000
set_option maxHeartbeats 4000000
namespace Pu
open PySem PySem.Spec PyProof.Rows L2
open Evl (Ex Ev EvL EvA EvT)
end Pu
set_option Elab.async false
set_option linter.all false
set_option maxRecDepth 100000
set_option maxHeartbeats 4000000
namespace Pu
open PySem PySem.Spec PyProof.Rows L2
end Pu
set_option Elab.async false
set_option linter.all false
set_option maxRecDepth 100000
set_option maxHeartbeats 4000000
namespace Pu
open PySem PySem.Spec PyProof.Rows L2
end Pu
set_option Elab.async false
set_option linter.all false
set_option maxRecDepth 100000
set_option maxHeartbeats 4000000
namespace Pu
open PySem PySem.Spec PyProof.Rows L2
end Pu
set_option Elab.async false
set_option linter.all false
set_option maxRecDepth 100000
set_option maxHeartbeats 4000000
namespace Pu
open PySem PySem.Spec PyProof.Rows L2
def cmGK (C : Addr) (sp : Sp) (W : WX) (n : Nat) (g : List Nat) (ta : TE) (t : TA) : TE := fun σ H Q => ta σ H fun y H1 => y = .ref C ∧ t σ H1 fun zs H2 => zs.length = n ∧ sp (.ref C :: sel g zs) H2 Q (WE W σ)
section
variable {X : Cx} {W : WX} {k n : Nat} {f C p0 : Addr} {mc : Value} {fd : FuncData} {ps ks : List Str} {m : Str} {pos apos : Pos} {o : Expr} {kws : List Keyword} {mf mo : M RV} {mk : M (List RV)} {sp : Sp} {ta : TE} {u : TA} {g : List Nat}
theorem pg_cmethK {pl : Sem Bool} (he : PE X o ta) (r : ClX.CRead X.K C mc) (c : ClX.CMet X.K C mc m p0 f) (F : FnG X.prog X.w X.K X.mg X.base k f fd ps sp) (hr : Room k X.A) (hG : X.A.guards = some []) (tk : L2N.Takes X W)
    (hb : KB X.K fd ps 1 ks (0 :: g.map (· + 1))) (hk : PK X kws u)
    (k1 : (backToKw pos (keywordEach kws X.env)).all (·.1.isSome) = true := by rfl) (k2 : (backToKw pos (keywordEach kws X.env)).filterMap (·.1) = ks := by rfl)
    (n3 : ((backTo pos (starEach [] X.env)).any (·.1) || (backToKw pos (keywordEach kws X.env)).any (·.1.isNone)) = false := by rfl)
    (look : eval (.Call (.Attribute o m apos) [] kws pos) X.env = (do
      let ov ← eval o X.env
      standAt apos.atName
      let (f, first) ← holding [ov] (getMethod ov m pl)
      callWith pos f first (backTo pos (starEach [] X.env)) (backToKw pos (keywordEach kws X.env))) := by rfl) : PE X (.Call (.Attribute o m apos) [] kws pos) (cmGK C sp W ks.length g ta u) := by
  refine ⟨fun pins s σ H Q I h => ?_⟩
  refine PySem.W.methodCall_KW (pl := pl) (thn (he.run pins s σ H _ I h) fun v s1 ⟨x, H1, I1, rx, ex, q⟩ => ?_) look
  subst ex
  obtain rfl : v = Value.ref C := rx
  refine ClX.getmethcm_ok I1 r c fun s2 I2 => ?_
  refine PySem.W.callWith_of n3 (PySem.W.keeps_M (K := X.K) (q := s1.heap.objs.size) (f := f) (self := .ref C) c.fi) (evalArgs_kw2_nil k1 (thn (hk.run pos _ s2 σ H1 _ I2 q) fun ws s3 ⟨zs, H2, I3, r3, l2, q2⟩ => ⟨⟨ClX.pin_at I3, I3.kIn⟩, ?_⟩))
  rw [k2]
  have rd : Vals (V.ref C :: sel g zs) (Value.ref C :: sel g ws) := .cons rfl (sel_vals r3)
  have bt := hb.to s3 [Value.ref C] ws I3.kIn rfl (r3.length.symm.trans l2)
  rw [show [Value.ref C] ++ ws = Value.ref C :: ws from rfl, sel_self] at bt
  have z : wpAny (model X.prog X.w) X.A (call (.ref s1.heap.objs.size) [] (ks.zip ws)) (EP X ((s1.heap.objs.size, PySem.W.methodObj (.ref f) (.ref C)) :: pins) σ Q) X.xe s3 :=
    wpAny_call (PySem.W.method_call (ClX.pin_at I3) (codeAny_mono (F.goes X.A X.stack s3 H2 ⟨[.ref C], ks.zip ws⟩ (.ref C :: sel g ws) (.ref C :: sel g zs) Q (WE W σ) hr hG I3.env0 bt rd q2) fun res s' got => by
      have z := end_of tk I3 got
      cases res with
      | error z' => exact z
      | ok fl => cases fl with
        | ret u => exact z
        | next => exact z.elim
        | brk => exact z.elim
        | cont => exact z.elim))
  exact thn z fun _ _ y => ClX.unpinE y
theorem se_cmethDK {pl : Sem Bool} {n2 : Nat} {C : Str} {d : He5.DefA} (ms : List Bool) (g : List Nat) (ho : SE X W o mo) (c : CmOf X.K C m) (ha0 : d.at_ X.K = gC X.K C m) (B : FnB X.prog X.w X.K X.mg X.base k d ps n mf) (bd : BindK d ps 1 ks (0 :: g.map (· + 1))) (G : Good X k W) (hk : SK X W kws mk) (hn : ms.length = n := by rfl)
    (k1 : (backToKw pos (keywordEach kws X.env)).all (·.1.isSome) = true := by rfl) (k2 : (backToKw pos (keywordEach kws X.env)).filterMap (·.1) = ks := by rfl)
    (n3 : ((backTo pos (starEach [] X.env)).any (·.1) || (backToKw pos (keywordEach kws X.env)).any (·.1.isNone)) = false := by rfl)
    (look : eval (.Call (.Attribute o m apos) [] kws pos) X.env = (do
      let ov ← eval o X.env
      standAt apos.atName
      let (f, first) ← holding [ov] (getMethod ov m pl)
      callWith pos f first (backTo pos (starEach [] X.env)) (backToKw pos (keywordEach kws X.env))) := by rfl) (hn2 : ks.length = n2 := by rfl) : SE X W (.Call (.Attribute o m apos) [] kws pos) (mCMK C ms mf mo mk n2 g) := by
  subst hn2
  obtain ⟨fd, F, hb, kp⟩ := B.partsK bd
  rw [ha0] at F
  refine PE.imp (pg_cmethK ho c.r c.c F G.room G.gd G.tk hb hk k1 k2 n3 look) fun σ H Q h => ?_
  obtain ⟨np, F, e, R, h⟩ := h
  refine use (R1 := RR X.K) (Cur.refl R) h fun r e1 F1 H1 u C1 q1 _ h1 => ?_
  obtain ⟨v0, rv, h2⟩ := At.rd C1.rel q1 h1
  cases v0 with
  | glo y =>
    dsimp only at h2
    by_cases c : y = C
    · rw [if_pos c] at h2
      subst c
      obtain rfl := rv.glo
      refine ⟨rfl, ?_⟩
      refine use (R1 := RRs X.K) C1 h2 fun zs e2 F2 H2 us C2 q2 _ h3 => ?_
      have nd : g.Nodup := by
        have := (List.nodup_cons.mp hb.nd).2
        exact (List.pairwise_map.mp this).imp fun {a b} h z => h (by rw [z])
      by_cases hl : zs.length = ks.length
      · rw [if_pos hl] at h3
        refine ⟨q2.length.symm.trans hl, ?_⟩
        have q3 : RRs X.K _ F2 H2 e2 σ (.dat (.glo y) :: sel g zs) (.ref (He.ga X.K y) :: sel g us) := .cons (show VR X.K F2 (.glo y) _ from VR.glo y) (fun v z => by cases z) (q2.sel nd)
        exact call_ok C2 q3 h3 hn
      · rw [if_neg hl] at h3
        exact h3.elim
    · rw [if_neg c] at h2
      exact h2.elim
  | _ => exact h2.elim
end
section
variable {X : Cx} {W : WX} {p1 p2 : Pos} {o : Expr} {mo : M RV} {ta : TE}
theorem pe_upper (he : PE X o ta) (hbase : attributeBase o "upper" X.env (eval o X.env) = eval o X.env := by rfl) (hline : (p1.endLine == p2.line) = true := by rfl) :
    PE X (.Call (.Attribute o "upper" p1) [] [] p2) (fun σ H Q => ta σ H fun y H1 => ∃ z : Str, y = .str z ∧ z.length ≤ 5592405 ∧ Q (.str (Txt.upper z)) H1) := by
  refine ⟨fun pins s σ H Q I h => ?_⟩
  refine J1.ev_upper hbase hline (thn (he.run pins s σ H _ I h) fun v s1 ⟨y, H1, I1, ry, z, ey, hz, q⟩ => ?_)
  subst ey
  obtain ⟨tz, rfl⟩ := ry
  exact ⟨z, tz, rfl, hz, fun t' k => ⟨.str _, H1, I1.tok k, ⟨t', rfl⟩, q⟩⟩
theorem se_upper (he : SE X W o mo) (hbase : attributeBase o "upper" X.env (eval o X.env) = eval o X.env := by rfl) (hline : (p1.endLine == p2.line) = true := by rfl) :
    SE X W (.Call (.Attribute o "upper" p1) [] [] p2) (mUpper mo) := by
  refine PE.imp (pe_upper he hbase hline) fun σ H Q h => ?_
  obtain ⟨np, F, e, R, h⟩ := h
  refine use (R1 := RR X.K) (Cur.refl R) h fun r e1 F1 H1 u C1 q1 _ h1 => ?_
  obtain ⟨v0, rv, h2⟩ := At.rd C1.rel q1 h1
  cases v0 with
  | str z =>
    obtain rfl := rv.str
    dsimp only at h2
    by_cases c : z.length ≤ 5592405
    · rw [if_pos c] at h2
      exact ⟨z, rfl, c, h2.ok rfl C1 (VR.str _)⟩
    · rw [if_neg c] at h2
      exact h2.elim
  | _ => exact h2.elim
end
theorem v_notInS {K : PySem.W.Frag} {W : WX} : OpV K W oNotInS (fun x y H Q => ∃ i j, x = .str i ∧ y = .str j ∧ Q (.bl (!(!(Builtin.Str.occurrences j i 0 j.length 1).isEmpty))) H) := by
  intro B F H e σ v w x y Q C rv rw_ h
  unfold oNotInS at h
  split at h
  · exact ⟨_, _, rv.str, rw_.str, h.ok rfl C (VR.bl _)⟩
  · exact h.elim
theorem b_notInS : ∀ v w e r' e', oNotInS v w e = .ok r' e' → ∃ b, r' = .dat (.bl b) := by
  intro v w e r' e' h
  unfold oNotInS at h
  split at h
  · unfold mV M.ret at h; cases h; exact ⟨_, rfl⟩
  · cases h
end Pu
set_option Elab.async false
set_option linter.all false
set_option maxRecDepth 100000
set_option maxHeartbeats 4000000
namespace Pu
open PySem PySem.Spec PyProof.Rows L2
end Pu
set_option Elab.async false
set_option linter.all false
set_option maxRecDepth 100000
set_option maxHeartbeats 4000000
namespace Pu
open PySem PySem.Spec PySem.Calls PyProof.Rows PyProof.V PySem.W
end Pu
namespace Pu
open PySem PySem.Spec PyProof.Rows L2
end Pu
namespace Pu
open PySem PySem.Spec PyProof.Rows L2
def keepD (ks : List Key) (vs : List Val) (k : Key) : List (Key × Val) := (ks.zip vs).filter fun p => !decide (p.1 = k)
end Pu
namespace Pu.Q
open PySem PySem.Spec PyProof.Rows L2 Pu
structure Fx (K : PySem.W.Frag) (mg : Str → Option Value) : Prop where
  free_str : mg "str" = none
  free_isinstance : mg "isinstance" = none
  free_len : mg "len" = none
  int_WORDS_7 : ∃ t, mg "WORDS" = some (.int 7 t)
  glo_InvalidText : mg "InvalidText" = some (.ref (He.ga K "InvalidText"))
  int_MOST_FIGURES_60 : ∃ t, mg "MOST_FIGURES" = some (.int 60 t)
  str_FIGURES : ∃ t, mg "FIGURES" = some (.str "0123456789" t)
  free_all : mg "all" = none
  free_int : mg "int" = none
  glo_number_in : mg "number_in" = some (.ref (He.ga K "number_in"))
  int_MOST_LIMIT_1000000000000000000 : ∃ t, mg "MOST_LIMIT" = some (.int 1000000000000000000 t)
  int_MOST_STEP_1000000000000 : ∃ t, mg "MOST_STEP" = some (.int 1000000000000 t)
  glo_SETTINGS : mg "SETTINGS" = some (.ref (He.ga K "SETTINGS"))
  free_bool : mg "bool" = none
  glo_is_integer : mg "is_integer" = some (.ref (He.ga K "is_integer"))
  glo_is_between : mg "is_between" = some (.ref (He.ga K "is_between"))
  glo_InvalidNumber : mg "InvalidNumber" = some (.ref (He.ga K "InvalidNumber"))
  glo_check_number : mg "check_number" = some (.ref (He.ga K "check_number"))
  glo_InvalidSetting : mg "InvalidSetting" = some (.ref (He.ga K "InvalidSetting"))
  cls_Rule : Cls K (He.ga K "Rule")
  noat_Rule_limit : NoAttr K (He.ga K "Rule") "limit"
  noat_Rule_parts : NoAttr K (He.ga K "Rule") "parts"
  mkr_Rule : Mk K (He.ga K "Rule") (He.ma K (He.ga K "Rule") "__init__")
  glo_Rule : mg "Rule" = some (.ref (He.ga K "Rule"))
  glo__law_error : mg "_law_error" = some (.ref (He.ga K "_law_error"))
  free_repr : mg "repr" = none
  glo__law_figure : mg "_law_figure" = some (.ref (He.ga K "_law_figure"))
  glo__law_read : mg "_law_read" = some (.ref (He.ga K "_law_read"))
  free_min : mg "min" = none
  free_max : mg "max" = none
  free_range : mg "range" = none
  glo__law_sip : mg "_law_sip" = some (.ref (He.ga K "_law_sip"))
  glo__law_made : mg "_law_made" = some (.ref (He.ga K "_law_made"))
  glo__law_pick : mg "_law_pick" = some (.ref (He.ga K "_law_pick"))
  glo__law_odd : mg "_law_odd" = some (.ref (He.ga K "_law_odd"))
  glo__law_bent : mg "_law_bent" = some (.ref (He.ga K "_law_bent"))
  glo__law_far : mg "_law_far" = some (.ref (He.ga K "_law_far"))
  glo__law_plan : mg "_law_plan" = some (.ref (He.ga K "_law_plan"))
  meth_Rule___eq__ : Meth K (He.ga K "Rule") "__eq__" (He.ma K (He.ga K "Rule") "__eq__")
  glo__law_right : mg "_law_right" = some (.ref (He.ga K "_law_right"))
  free_abs : mg "abs" = none
  glo__law_flask : mg "_law_flask" = some (.ref (He.ga K "_law_flask"))
  glo_law : mg "law" = some (.ref (He.ga K "law"))
  glo_NotRight : mg "NotRight" = some (.ref (He.ga K "NotRight"))
  glo_NotKnown : mg "NotKnown" = some (.ref (He.ga K "NotKnown"))
  glo_NotPossible : mg "NotPossible" = some (.ref (He.ga K "NotPossible"))
  glo_InvalidIndex : mg "InvalidIndex" = some (.ref (He.ga K "InvalidIndex"))
  glo_NotARule : mg "NotARule" = some (.ref (He.ga K "NotARule"))
  glo_NotRounds : mg "NotRounds" = some (.ref (He.ga K "NotRounds"))
  glo_InvalidNotes : mg "InvalidNotes" = some (.ref (He.ga K "InvalidNotes"))
  glo_InvalidTimes : mg "InvalidTimes" = some (.ref (He.ga K "InvalidTimes"))
  glo_InvalidOffers : mg "InvalidOffers" = some (.ref (He.ga K "InvalidOffers"))
  glo_InvalidFines : mg "InvalidFines" = some (.ref (He.ga K "InvalidFines"))
  glo_InvalidRules : mg "InvalidRules" = some (.ref (He.ga K "InvalidRules"))
  glo_NoFit : mg "NoFit" = some (.ref (He.ga K "NoFit"))
  glo_TooMany : mg "TooMany" = some (.ref (He.ga K "TooMany"))
  glo_Broken : mg "Broken" = some (.ref (He.ga K "Broken"))
  free_ValueError : mg "ValueError" = none
  free_LookupError : mg "LookupError" = none
  free_ArithmeticError : mg "ArithmeticError" = none
  glo__law_class : mg "_law_class" = some (.ref (He.ga K "_law_class"))
  glo__law_field : mg "_law_field" = some (.ref (He.ga K "_law_field"))
  rs_InvalidText_0_given : rsChk K "InvalidText" 0 ["given"] = true
  tup_SETTINGS : He.tupB K "SETTINGS" (([(.str "next"), (.str "last"), (.str "near")] : List Val).map gv) = true
  rs_InvalidNumber_0_given : rsChk K "InvalidNumber" 0 ["given"] = true
  rs_InvalidSetting_0_given : rsChk K "InvalidSetting" 0 ["given"] = true
  cm_Rule_read : cmB K "Rule" "read" = true
  prop_Rule_step : PropOf K (He.ga K "Rule") "step" (He.ma K (He.ga K "Rule") "step") (gA K "Rule" "step")
  prop_Rule_setting : PropOf K (He.ga K "Rule") "setting" (He.ma K (He.ga K "Rule") "setting") (gA K "Rule" "setting")
  prop_Rule_pause : PropOf K (He.ga K "Rule") "pause" (He.ma K (He.ga K "Rule") "pause") (gA K "Rule" "pause")
  prop_Rule_text : PropOf K (He.ga K "Rule") "text" (He.ma K (He.ga K "Rule") "text") (gA K "Rule" "text")
  tab_law : hasTab K (He.ga K "law") = true
  tab__law_right : hasTab K (He.ga K "_law_right") = true
  sysm : sysB K = true
  neB_Rule : neB K "Rule" = true
  chkA : chkA K ["InvalidText", "InvalidNumber", "InvalidSetting"] = true
  isi : TOk K isT
theorem fx_of {K : PySem.W.Frag} {h : Heap} {mg : Str → Option Value} (X : K.In h) (G : h.Ns mainGlobals mg) (c : SaysP fa fn fy K) : Fx K mg where
  free_str := He.free_ok X G (c.a.fact 0 (f := .free "str") rfl)
  free_isinstance := He.free_ok X G (c.a.fact 1 (f := .free "isinstance") rfl)
  free_len := He.free_ok X G (c.a.fact 2 (f := .free "len") rfl)
  int_WORDS_7 := He.int_ok X G (c.a.fact 3 (f := .int "WORDS" 7) rfl)
  glo_InvalidText := He.glo_ok X G (c.a.fact 4 (f := .glo "InvalidText") rfl)
  int_MOST_FIGURES_60 := He.int_ok X G (c.a.fact 5 (f := .int "MOST_FIGURES" 60) rfl)
  str_FIGURES := He.str_ok X G (c.a.fact 6 (f := .str "FIGURES" "0123456789") rfl)
  free_all := He.free_ok X G (c.a.fact 7 (f := .free "all") rfl)
  free_int := He.free_ok X G (c.a.fact 8 (f := .free "int") rfl)
  glo_number_in := He.glo_ok X G (c.a.fact 9 (f := .glo "number_in") rfl)
  int_MOST_LIMIT_1000000000000000000 := He.int_ok X G (c.a.fact 10 (f := .int "MOST_LIMIT" 1000000000000000000) rfl)
  int_MOST_STEP_1000000000000 := He.int_ok X G (c.a.fact 11 (f := .int "MOST_STEP" 1000000000000) rfl)
  glo_SETTINGS := He.glo_ok X G (c.a.fact 12 (f := .glo "SETTINGS") rfl)
  free_bool := He.free_ok X G (c.a.fact 13 (f := .free "bool") rfl)
  glo_is_integer := He.glo_ok X G (c.a.fact 14 (f := .glo "is_integer") rfl)
  glo_is_between := He.glo_ok X G (c.a.fact 15 (f := .glo "is_between") rfl)
  glo_InvalidNumber := He.glo_ok X G (c.a.fact 16 (f := .glo "InvalidNumber") rfl)
  glo_check_number := He.glo_ok X G (c.a.fact 17 (f := .glo "check_number") rfl)
  glo_InvalidSetting := He.glo_ok X G (c.a.fact 18 (f := .glo "InvalidSetting") rfl)
  cls_Rule := He.cls_ok (c.a.fact 19 (f := .cls "Rule") rfl)
  noat_Rule_limit := He.noat_ok (c.a.fact 20 (f := .noat "Rule" "limit") rfl)
  noat_Rule_parts := He.noat_ok (c.a.fact 21 (f := .noat "Rule" "parts") rfl)
  mkr_Rule := He.mkr_ok (c.a.fact 22 (f := .mkr "Rule") rfl)
  glo_Rule := He.glo_ok X G (c.a.fact 23 (f := .glo "Rule") rfl)
  glo__law_error := He.glo_ok X G (c.a.fact 24 (f := .glo "_law_error") rfl)
  free_repr := He.free_ok X G (c.a.fact 25 (f := .free "repr") rfl)
  glo__law_figure := He.glo_ok X G (c.a.fact 26 (f := .glo "_law_figure") rfl)
  glo__law_read := He.glo_ok X G (c.a.fact 27 (f := .glo "_law_read") rfl)
  free_min := He.free_ok X G (c.a.fact 28 (f := .free "min") rfl)
  free_max := He.free_ok X G (c.a.fact 29 (f := .free "max") rfl)
  free_range := He.free_ok X G (c.a.fact 30 (f := .free "range") rfl)
  glo__law_sip := He.glo_ok X G (c.a.fact 31 (f := .glo "_law_sip") rfl)
  glo__law_made := He.glo_ok X G (c.a.fact 32 (f := .glo "_law_made") rfl)
  glo__law_pick := He.glo_ok X G (c.a.fact 33 (f := .glo "_law_pick") rfl)
  glo__law_odd := He.glo_ok X G (c.a.fact 34 (f := .glo "_law_odd") rfl)
  glo__law_bent := He.glo_ok X G (c.a.fact 35 (f := .glo "_law_bent") rfl)
  glo__law_far := He.glo_ok X G (c.a.fact 36 (f := .glo "_law_far") rfl)
  glo__law_plan := He.glo_ok X G (c.a.fact 37 (f := .glo "_law_plan") rfl)
  meth_Rule___eq__ := He.meth_ok (c.a.fact 38 (f := .meth "Rule" "__eq__") rfl)
  glo__law_right := He.glo_ok X G (c.a.fact 39 (f := .glo "_law_right") rfl)
  free_abs := He.free_ok X G (c.a.fact 40 (f := .free "abs") rfl)
  glo__law_flask := He.glo_ok X G (c.a.fact 41 (f := .glo "_law_flask") rfl)
  glo_law := He.glo_ok X G (c.a.fact 42 (f := .glo "law") rfl)
  glo_NotRight := He.glo_ok X G (c.a.fact 43 (f := .glo "NotRight") rfl)
  glo_NotKnown := He.glo_ok X G (c.a.fact 44 (f := .glo "NotKnown") rfl)
  glo_NotPossible := He.glo_ok X G (c.a.fact 45 (f := .glo "NotPossible") rfl)
  glo_InvalidIndex := He.glo_ok X G (c.a.fact 46 (f := .glo "InvalidIndex") rfl)
  glo_NotARule := He.glo_ok X G (c.a.fact 47 (f := .glo "NotARule") rfl)
  glo_NotRounds := He.glo_ok X G (c.a.fact 48 (f := .glo "NotRounds") rfl)
  glo_InvalidNotes := He.glo_ok X G (c.a.fact 49 (f := .glo "InvalidNotes") rfl)
  glo_InvalidTimes := He.glo_ok X G (c.a.fact 50 (f := .glo "InvalidTimes") rfl)
  glo_InvalidOffers := He.glo_ok X G (c.a.fact 51 (f := .glo "InvalidOffers") rfl)
  glo_InvalidFines := He.glo_ok X G (c.a.fact 52 (f := .glo "InvalidFines") rfl)
  glo_InvalidRules := He.glo_ok X G (c.a.fact 53 (f := .glo "InvalidRules") rfl)
  glo_NoFit := He.glo_ok X G (c.a.fact 54 (f := .glo "NoFit") rfl)
  glo_TooMany := He.glo_ok X G (c.a.fact 55 (f := .glo "TooMany") rfl)
  glo_Broken := He.glo_ok X G (c.a.fact 56 (f := .glo "Broken") rfl)
  free_ValueError := He.free_ok X G (c.a.fact 57 (f := .free "ValueError") rfl)
  free_LookupError := He.free_ok X G (c.a.fact 58 (f := .free "LookupError") rfl)
  free_ArithmeticError := He.free_ok X G (c.a.fact 59 (f := .free "ArithmeticError") rfl)
  glo__law_class := He.glo_ok X G (c.a.fact 60 (f := .glo "_law_class") rfl)
  glo__law_field := He.glo_ok X G (c.a.fact 61 (f := .glo "_law_field") rfl)
  rs_InvalidText_0_given := id (c.y (.gen fun K => rsChk K "InvalidText" 0 ["given"]) (List.mem_of_getElem? (i := 0) rfl))
  tup_SETTINGS := id (c.y (.tup "SETTINGS" (([(.str "next"), (.str "last"), (.str "near")] : List Val).map gv)) (List.mem_of_getElem? (i := 1) rfl))
  rs_InvalidNumber_0_given := id (c.y (.gen fun K => rsChk K "InvalidNumber" 0 ["given"]) (List.mem_of_getElem? (i := 2) rfl))
  rs_InvalidSetting_0_given := id (c.y (.gen fun K => rsChk K "InvalidSetting" 0 ["given"]) (List.mem_of_getElem? (i := 3) rfl))
  cm_Rule_read := id (c.y (.gen fun K => cmB K "Rule" "read") (List.mem_of_getElem? (i := 4) rfl))
  prop_Rule_step := prop_ok (c.y (.prop "Rule" "step") (List.mem_of_getElem? (i := 5) rfl))
  prop_Rule_setting := prop_ok (c.y (.prop "Rule" "setting") (List.mem_of_getElem? (i := 6) rfl))
  prop_Rule_pause := prop_ok (c.y (.prop "Rule" "pause") (List.mem_of_getElem? (i := 7) rfl))
  prop_Rule_text := prop_ok (c.y (.prop "Rule" "text") (List.mem_of_getElem? (i := 8) rfl))
  tab_law := id (c.y (.gen fun K => hasTab K (He.ga K "law")) (List.mem_of_getElem? (i := 9) rfl))
  tab__law_right := id (c.y (.gen fun K => hasTab K (He.ga K "_law_right")) (List.mem_of_getElem? (i := 10) rfl))
  sysm := id (c.y (.gen fun K => sysB K) (List.mem_of_getElem? (i := 11) rfl))
  neB_Rule := id (c.y (.gen fun K => neB K "Rule") (List.mem_of_getElem? (i := 12) rfl))
  chkA := id (c.y (.gen fun K => chkA K ["InvalidText", "InvalidNumber", "InvalidSetting"]) (List.mem_of_getElem? (i := 13) rfl))
  isi := by
    refine ⟨fun e he => ?_, fun e he C hC => ?_⟩
    · have go : ∀ e ∈ isT, (Fy.kit e.1 e.2.1 e.2.2) ∈ fy := fun e he => List.mem_of_mem_drop (i := 15) (show Fy.kit e.1 e.2.1 e.2.2 ∈ isT.map fun e => Fy.kit e.1 e.2.1 e.2.2 from List.mem_map.mpr ⟨e, he, rfl⟩)
      exact kit_ok (c.y _ (go e he))
    · have go : ∀ e ∈ isT, ∀ C, e.1 = .inr C → ∃ i : Nat, fy[i]? = some (Fy.isi C) := by
        intro e he C hC
        simp only [isT, List.mem_cons, List.not_mem_nil, or_false] at he
        rcases he with rfl | rfl | rfl | rfl | rfl | rfl | rfl | rfl | rfl | rfl | rfl | rfl | rfl | rfl | rfl | rfl | rfl | rfl | rfl | rfl | rfl | rfl | rfl | rfl | rfl | rfl | rfl | rfl | rfl | rfl | rfl | rfl <;> first | (cases hC; done) | (cases hC; first | exact ⟨14, rfl⟩)
      obtain ⟨i, hi⟩ := go e he C hC
      exact isi_ok (c.y _ (List.mem_of_getElem? hi))
section
variable {P : Program} {w : World} {K : PySem.W.Frag} {mg : Str → Option Value} {base : Heap}
theorem bd__law_error : BindD d__law_error ["_law_act"] := ⟨rfl, rfl, fun _ _ _ _ _ _ us hl => match us, hl with | [_], _ => rfl⟩
theorem sc__law_error : FnScope ["_law_act", "_law_found", "_law_e", "_law_bases", "_law_plain"] ["_law_act"] d__law_error.scope := ⟨rfl, rfl, rfl, by decide +kernel, rfl, by decide +kernel, by decide +kernel⟩
theorem bd__law_class : BindD d__law_class ["_law_e"] := ⟨rfl, rfl, fun _ _ _ _ _ _ us hl => match us, hl with | [_], _ => rfl⟩
theorem sc__law_class : FnScope ["_law_e", "_law_sorts", "_law_found"] ["_law_e"] d__law_class.scope := ⟨rfl, rfl, rfl, by decide +kernel, rfl, by decide +kernel, by decide +kernel⟩
theorem bd__law_field : BindD d__law_field ["_law_e"] := ⟨rfl, rfl, fun _ _ _ _ _ _ us hl => match us, hl with | [_], _ => rfl⟩
theorem sc__law_field : FnScope ["_law_e"] ["_law_e"] d__law_field.scope := ⟨rfl, rfl, rfl, by decide +kernel, rfl, by decide +kernel, by decide +kernel⟩
theorem bd_InvalidText____init__ : BindD d_InvalidText____init__ ["self", "given"] := ⟨rfl, rfl, fun _ _ _ _ _ _ us hl => match us, hl with | [_, _], _ => rfl⟩
theorem sc_InvalidText____init__ : FnScope ["self", "given"] ["self", "given"] d_InvalidText____init__.scope := ⟨rfl, rfl, rfl, by decide +kernel, rfl, by decide +kernel, by decide +kernel⟩
theorem bd_InvalidNumber____init__ : BindD d_InvalidNumber____init__ ["self", "given"] := ⟨rfl, rfl, fun _ _ _ _ _ _ us hl => match us, hl with | [_, _], _ => rfl⟩
theorem sc_InvalidNumber____init__ : FnScope ["self", "given"] ["self", "given"] d_InvalidNumber____init__.scope := ⟨rfl, rfl, rfl, by decide +kernel, rfl, by decide +kernel, by decide +kernel⟩
theorem bd_InvalidSetting____init__ : BindD d_InvalidSetting____init__ ["self", "given"] := ⟨rfl, rfl, fun _ _ _ _ _ _ us hl => match us, hl with | [_, _], _ => rfl⟩
theorem sc_InvalidSetting____init__ : FnScope ["self", "given"] ["self", "given"] d_InvalidSetting____init__.scope := ⟨rfl, rfl, rfl, by decide +kernel, rfl, by decide +kernel, by decide +kernel⟩
theorem ini_InvalidText (x : Fx K mg) (D : ∃ fd, FunD K d_InvalidText____init__.name d_InvalidText____init__.qual d_InvalidText____init__.params d_InvalidText____init__.body d_InvalidText____init__.scope (d_InvalidText____init__.dvs K) (d_InvalidText____init__.kws K) (d_InvalidText____init__.at_ K) fd) : IniB P w K mg base "InvalidText" ["self", "given"] (spI1 "given" (He.ga K "InvalidText")) := ini1 D bd_InvalidText____init__ sc_InvalidText____init__ (rsC_of x.rs_InvalidText_0_given) rfl rfl (.inl rfl) (.inl rfl)
theorem ini_InvalidNumber (x : Fx K mg) (D : ∃ fd, FunD K d_InvalidNumber____init__.name d_InvalidNumber____init__.qual d_InvalidNumber____init__.params d_InvalidNumber____init__.body d_InvalidNumber____init__.scope (d_InvalidNumber____init__.dvs K) (d_InvalidNumber____init__.kws K) (d_InvalidNumber____init__.at_ K) fd) : IniB P w K mg base "InvalidNumber" ["self", "given"] (spI1 "given" (He.ga K "InvalidNumber")) := ini1 D bd_InvalidNumber____init__ sc_InvalidNumber____init__ (rsC_of x.rs_InvalidNumber_0_given) rfl rfl (.inl rfl) (.inl rfl)
theorem ini_InvalidSetting (x : Fx K mg) (D : ∃ fd, FunD K d_InvalidSetting____init__.name d_InvalidSetting____init__.qual d_InvalidSetting____init__.params d_InvalidSetting____init__.body d_InvalidSetting____init__.scope (d_InvalidSetting____init__.dvs K) (d_InvalidSetting____init__.kws K) (d_InvalidSetting____init__.at_ K) fd) : IniB P w K mg base "InvalidSetting" ["self", "given"] (spI1 "given" (He.ga K "InvalidSetting")) := ini1 D bd_InvalidSetting____init__ sc_InvalidSetting____init__ (rsC_of x.rs_InvalidSetting_0_given) rfl rfl (.inl rfl) (.inl rfl)
structure ErrD (K : PySem.W.Frag) : Prop where
  e : ∃ fd, FunD K d__law_error.name d__law_error.qual d__law_error.params d__law_error.body d__law_error.scope (d__law_error.dvs K) (d__law_error.kws K) (d__law_error.at_ K) fd
  c : ∃ fd, FunD K d__law_class.name d__law_class.qual d__law_class.params d__law_class.body d__law_class.scope (d__law_class.dvs K) (d__law_class.kws K) (d__law_class.at_ K) fd
  f : ∃ fd, FunD K d__law_field.name d__law_field.qual d__law_field.params d__law_field.body d__law_field.scope (d__law_field.dvs K) (d__law_field.kws K) (d__law_field.at_ K) fd
theorem hb__law_class {X : Cx} (x : Fx X.K X.mg) : HotBody X d__law_class ["_law_e", "_law_sorts", "_law_found"] (okA X.K) (tClsA X.K) := by
  intro D a dd cdv A outer s H E p ok hh
  have I : ∀ {C : Str} {p1 p2 p3 p4 : Pos}, Gl (hotCx X d__law_class ["_law_e", "_law_sorts", "_law_found"] cdv A outer s H E p) C → X.mg C = some (.ref (He.ga X.K C)) → (C == ("__debug__" : Str)) = false → PE (hotCx X d__law_class ["_law_e", "_law_sorts", "_law_found"] cdv A outer s H E p) (.Call (.Name "isinstance" p1) [.Name "_law_e" p2, .Name C p3] [] p4) (isE X.K D a dd 0 (.ref (He.ga X.K C))) := fun gl at_ n => pe_isC (Y := hotCx X d__law_class ["_law_e", "_law_sorts", "_law_found"] cdv A outer s H E p) ok.er hh 0 rfl (.inl rfl) rfl x.free_isinstance gl at_ n
  show PSs _ _ (tClsA (hotCx X d__law_class ["_law_e", "_law_sorts", "_law_found"] cdv A outer s H E p).K D a dd)
  have nd : (["_law_e", "_law_sorts", "_law_found"] : List Str).Nodup := by decide +kernel
  exact (pss_cons (ps_set (i := 1) nd rfl (.inl rfl) (pe_row2 (r := ("text", "InvalidText")) (q := ("number", "InvalidNumber")) (I rfl x.glo_InvalidText (by decide)) (I rfl x.glo_InvalidNumber (by decide)) rfl rfl)) (pss_cons (ps_set (i := 1) nd rfl (.inl rfl) (pe_op op_addA (pe_var (i := 1) rfl (.inl rfl)) (pe_row2 (r := ("setting", "InvalidSetting")) (q := ("index", "InvalidIndex")) (I rfl x.glo_InvalidSetting (by decide)) (I rfl x.glo_InvalidIndex (by decide)) rfl rfl))) (pss_cons (ps_set (i := 1) nd rfl (.inl rfl) (pe_op op_addA (pe_var (i := 1) rfl (.inl rfl)) (pe_row2 (r := ("rule", "NotARule")) (q := ("rounds", "NotRounds")) (I rfl x.glo_NotARule (by decide)) (I rfl x.glo_NotRounds (by decide)) rfl rfl))) (pss_cons (ps_set (i := 1) nd rfl (.inl rfl) (pe_op op_addA (pe_var (i := 1) rfl (.inl rfl)) (pe_row2 (r := ("notes", "InvalidNotes")) (q := ("times", "InvalidTimes")) (I rfl x.glo_InvalidNotes (by decide)) (I rfl x.glo_InvalidTimes (by decide)) rfl rfl))) (pss_cons (ps_set (i := 1) nd rfl (.inl rfl) (pe_op op_addA (pe_var (i := 1) rfl (.inl rfl)) (pe_row2 (r := ("offers", "InvalidOffers")) (q := ("fines", "InvalidFines")) (I rfl x.glo_InvalidOffers (by decide)) (I rfl x.glo_InvalidFines (by decide)) rfl rfl))) (pss_cons (ps_set (i := 1) nd rfl (.inl rfl) (pe_op op_addA (pe_var (i := 1) rfl (.inl rfl)) (pe_row2 (r := ("rules", "InvalidRules")) (q := ("none", "NoFit")) (I rfl x.glo_InvalidRules (by decide)) (I rfl x.glo_NoFit (by decide)) rfl rfl))) (pss_cons (ps_set (i := 1) nd rfl (.inl rfl) (pe_op op_addA (pe_var (i := 1) rfl (.inl rfl)) (pe_row2 (r := ("many", "TooMany")) (q := ("broken", "Broken")) (I rfl x.glo_TooMany (by decide)) (I rfl x.glo_Broken (by decide)) rfl rfl))) (pss_cons (ps_pick 1 2 hh nd rfl (.inl rfl) rfl rfl rfl rfl (by decide +kernel) (by decide +kernel) rfl rfl (by decide)) (pss_one (ps_ret (pe_ifExp (pt_cmpR op_eq (pe_callB c_len rfl x.free_len (by decide +kernel) (pa_cons (pe_var (i := 2) rfl (.inl rfl)) pa_nil)) pe_int (nomark _)) (pe_ix ix_seq (pe_var (i := 2) rfl (.inl rfl)) pe_int (fun _ _ => rfl)) pe_str)))))))))))
theorem hb__law_field {X : Cx} (x : Fx X.K X.mg) : HotBody X d__law_field ["_law_e"] (okA X.K) (tFldA X.K) := by
  intro D a dd cdv A outer s H E p ok hh
  show PSs _ _ (tFldA (hotCx X d__law_field ["_law_e"] cdv A outer s H E p).K D a dd)
  exact pss_cons (ps_if (pt_tr (pe_isTup (Y := (hotCx X d__law_field ["_law_e"] cdv A outer s H E p)) ok.er hh 0 rfl (.inl rfl) rfl x.free_isinstance (pa_vals (pa_cons (pe_glob (X := (hotCx X d__law_field ["_law_e"] cdv A outer s H E p)) (v := .ref (He.ga X.K "InvalidNotes")) rfl x.glo_InvalidNotes rfl) (pa_cons (pe_glob (X := (hotCx X d__law_field ["_law_e"] cdv A outer s H E p)) (v := .ref (He.ga X.K "InvalidTimes")) rfl x.glo_InvalidTimes rfl) (pa_cons (pe_glob (X := (hotCx X d__law_field ["_law_e"] cdv A outer s H E p)) (v := .ref (He.ga X.K "InvalidOffers")) rfl x.glo_InvalidOffers rfl) (pa_cons (pe_glob (X := (hotCx X d__law_field ["_law_e"] cdv A outer s H E p)) (v := .ref (He.ga X.K "InvalidFines")) rfl x.glo_InvalidFines rfl) (pa_cons (pe_glob (X := (hotCx X d__law_field ["_law_e"] cdv A outer s H E p)) (v := .ref (He.ga X.K "InvalidRules")) rfl x.glo_InvalidRules rfl) (pa_cons (pe_glob (X := (hotCx X d__law_field ["_law_e"] cdv A outer s H E p)) (v := .ref (He.ga X.K "Broken")) rfl x.glo_Broken rfl) (pa_nil (X := (hotCx X d__law_field ["_law_e"] cdv A outer s H E p))))))))) (fun _ _ _ => rfl)))) (pss_one (ps_ret (pe_xg (X := (hotCx X d__law_field ["_law_e"] cdv A outer s H E p)) ok.er (ok.fld (by decide)) hh (pe_var (i := 0) rfl (.inl rfl))))) pss_nil) (pss_cons (ps_if (pt_tr (pe_isC (Y := (hotCx X d__law_field ["_law_e"] cdv A outer s H E p)) ok.er hh 0 rfl (.inl rfl) rfl x.free_isinstance rfl x.glo_NoFit (by decide))) (pss_one (ps_ret pe_non)) pss_nil) (pss_one (ps_ret (pe_ifExp (pt_tr (pe_isC (Y := (hotCx X d__law_field ["_law_e"] cdv A outer s H E p)) ok.er hh 0 rfl (.inl rfl) rfl x.free_isinstance rfl x.glo_TooMany (by decide))) (pe_xg (X := (hotCx X d__law_field ["_law_e"] cdv A outer s H E p)) ok.er (ok.fld (by decide)) hh (pe_var (i := 0) rfl (.inl rfl))) (pe_xg (X := (hotCx X d__law_field ["_law_e"] cdv A outer s H E p)) ok.er (ok.fld (by decide)) hh (pe_var (i := 0) rfl (.inl rfl)))))))
theorem se_err {X : Cx} {W : WX} {k : Nat} {qual : Str} {cdv : Value} {params : Arguments} {scope : Scope} {body : Expr} {mb : M RV} {p lpos pos : Pos} (x : Fx X.K X.mg) (er : ErrD X.K) (gl : Gl X "_law_error") (La : LamAt X.K X.mg X.base cdv qual) (hcode : X.env.code = cdv) (hqual : X.env.qual = qual ++ ".<locals>.") (G : Good X (k + 2) W)
    (L : LamX.lamSB X.env.scope scope = true) (hdef : defaultsOf params X.env = ([], [])) (hbind : ∀ (q : Str) (cl : List (Str × Addr)) (pm cv ctv : Value), bindArgs (PySem.W.kla_fn "<lambda>" q params body scope cl pm cv ctv) ⟨[], []⟩ = pure [])
    (hbody : ∀ (A : Around) (outer : List Env) (s : Shared) (H : Hp) (E : XK) (f c' : Addr), Good (lamN X A outer s H E scope f c') k (fun cls d _ H => E cls d H) → SE (lamN X A outer s H E scope f c') (fun cls d _ H => E cls d H) body mb) : SE X W (.Call (.Name "_law_error" p) [.Lambda params body scope lpos] [] pos) (mErrA ["InvalidText", "InvalidNumber", "InvalidSetting"] mb) := by
  refine se_errA (dE := d__law_error) (fun cdg => gives_A (dE := d__law_error) (dC := d__law_class) (dF := d__law_field) x.chkA er.c er.f bd__law_class bd__law_field sc__law_class sc__law_field (hb__law_class x) (hb__law_field x) rfl (fun _ _ _ => ⟨rfl, by decide, .inl x.glo_NotRight⟩) (fun _ _ _ => ⟨rfl, by decide, .inl x.glo_NotKnown⟩) (fun _ _ _ => ⟨rfl, by decide, .inl x.glo_NotPossible⟩) rfl rfl rfl (fun C a d oe pn cdg s H ok hh hot rh FC FF => ?_) (by omega) cdg) er.e rfl bd__law_error sc__law_error (.inl rfl) rfl gl x.glo__law_error La hcode hqual G (LamX.lamS_by L) hdef hbind hbody
  have nd : NgA.Nodup := by decide +kernel
  show PSs _ _ (tSuiA ((gotCx X NgA d__law_error.name d__law_error.scope (d__law_error.at_ X.K) cdg s H).suite a ((a, oe) :: pn)).K C a d)
  exact pss_cons (ps_set (i := 3) nd rfl (.inl rfl) (pe_lst (pa_cons (pe_isC (Y := ((gotCx X NgA d__law_error.name d__law_error.scope (d__law_error.at_ X.K) cdg s H).suite a ((a, oe) :: pn))) ok.er hh 2 rfl (.inl rfl) rfl x.free_isinstance rfl x.glo_NotRight (by decide)) (pa_cons (pe_isC (Y := ((gotCx X NgA d__law_error.name d__law_error.scope (d__law_error.at_ X.K) cdg s H).suite a ((a, oe) :: pn))) ok.er hh 2 rfl (.inl rfl) rfl x.free_isinstance rfl x.glo_NotKnown (by decide)) (pa_cons (pe_isC (Y := ((gotCx X NgA d__law_error.name d__law_error.scope (d__law_error.at_ X.K) cdg s H).suite a ((a, oe) :: pn))) ok.er hh 2 rfl (.inl rfl) rfl x.free_isinstance rfl x.glo_NotPossible (by decide)) pa_nil))))) (pss_cons (ps_set (i := 4) nd rfl (.inl rfl) (pe_lst (pa_cons (pe_isT (Y := ((gotCx X NgA d__law_error.name d__law_error.scope (d__law_error.at_ X.K) cdg s H).suite a ((a, oe) :: pn))) ok.er hh 2 rfl (.inl rfl) rfl x.free_isinstance rfl x.free_ValueError (by decide +kernel) (by decide) (by decide)) (pa_cons (pe_isT (Y := ((gotCx X NgA d__law_error.name d__law_error.scope (d__law_error.at_ X.K) cdg s H).suite a ((a, oe) :: pn))) ok.er hh 2 rfl (.inl rfl) rfl x.free_isinstance rfl x.free_LookupError (by decide +kernel) (by decide) (by decide)) (pa_cons (pe_isT (Y := ((gotCx X NgA d__law_error.name d__law_error.scope (d__law_error.at_ X.K) cdg s H).suite a ((a, oe) :: pn))) ok.er hh 2 rfl (.inl rfl) rfl x.free_isinstance rfl x.free_ArithmeticError (by decide +kernel) (by decide) (by decide)) pa_nil))))) (pss_one (ps_ret (pe_lst (pa_cons (pe_ifExp (pw_and (pt_cmpR (op_eqA (X := ((gotCx X NgA d__law_error.name d__law_error.scope (d__law_error.at_ X.K) cdg s H).suite a ((a, oe) :: pn))) (by have := rh.un; omega)) (pe_var (i := 3) rfl (.inl rfl)) (pe_var (i := 4) rfl (.inl rfl)) (nomark _)) (pw_and1 (pt_cmpR op_eq (pe_cnt (Y := ((gotCx X NgA d__law_error.name d__law_error.scope (d__law_error.at_ X.K) cdg s H).suite a ((a, oe) :: pn))) (i := 3) rfl (.inl rfl) (by decide) (by decide)) pe_int (nomark _)))).pt (pe_hot (X := ((gotCx X NgA d__law_error.name d__law_error.scope (d__law_error.at_ X.K) cdg s H).suite a ((a, oe) :: pn))) (⟨FC.ex⟩ : HotFn ((gotCx X NgA d__law_error.name d__law_error.scope (d__law_error.at_ X.K) cdg s H).suite a ((a, oe) :: pn)) d__law_class ["_law_e"] (a, oe) (spCls C a d)) rh hot List.mem_cons_self rfl x.glo__law_class (pa_cons (pe_var (i := 2) rfl (.inl rfl)) pa_nil)) pe_str) (pa_cons (pe_hot (X := ((gotCx X NgA d__law_error.name d__law_error.scope (d__law_error.at_ X.K) cdg s H).suite a ((a, oe) :: pn))) (⟨FF.ex⟩ : HotFn ((gotCx X NgA d__law_error.name d__law_error.scope (d__law_error.at_ X.K) cdg s H).suite a ((a, oe) :: pn)) d__law_field ["_law_e"] (a, oe) (spFld C a d)) rh hot List.mem_cons_self rfl x.glo__law_field (pa_cons (pe_var (i := 2) rfl (.inl rfl)) pa_nil)) pa_nil))))))
theorem bd_number_in : BindD d_number_in ["word", "most"] := ⟨rfl, rfl, fun _ _ _ _ _ _ us hl => match us, hl with | [_, _], _ => rfl⟩
theorem sc_number_in : FnScope ["word", "most", "sign"] ["word", "most"] d_number_in.scope := ⟨rfl, rfl, rfl, by decide +kernel, rfl, by decide +kernel, by decide +kernel⟩
theorem ok_number_in (x : Fx K mg)  (D : ∃ fd, FunD K d_number_in.name d_number_in.qual d_number_in.params d_number_in.body d_number_in.scope (d_number_in.dvs K) (d_number_in.kws K) (d_number_in.at_ K) fd) : FnB P w K mg base 1 d_number_in ["word", "most"] 2 den_number_in := by
  refine fnB_of (k := 0) D sc_number_in rfl rfl fun cdv A outer s H E G => ?_
  unfold b_number_in
  exact (sb_cons (ss_if (st_w (sw_or (st_not (st_chain op_le op_le v_le v_le b_I se_int (se_callB c_len v_len rfl x.free_len (sa_cons (se_var 0) sa_nil)) (se_gInt rfl x.int_MOST_FIGURES_60))) (sw_or1 (st_not (st_val (se_callB (cr_all G.calm) v_all rfl x.free_all (sa_cons (se_comp (own := [("sign", 2)]) G.calm G.nd (si_str (se_var 0)) (blkOk_by (by first | (show blkC ["word", "most", "sign"] d_number_in.scope _ _ = true; decide +kernel) | kernel_rfl)) (fun _ _ _ _ _ => (sg_name 2 G.blk.nd)) (fun _ _ _ _ _ => sts_nil) (fun _ _ _ _ _ => (se_cmp op_in_str v_inS (se_var 2) (se_gStr rfl x.str_FIGURES)))) sa_nil))))))) (sb_one (ss_ret se_non)) sb_nil) (sb_cons (ss_if (st_w (sw_and (st_cmp (op_eqA G.room.units) v_eq b_eq (se_ix (se_var 0) se_int) se_str) (sw_and1 (st_cmp (op_neA G.room.units) v_ne b_ne (se_var 0) se_str)))) (sb_one (ss_ret se_non)) sb_nil) (sb_one (ss_ret (se_ifE (st_cmp op_le v_le b_I (se_callT call_int_str v_intS rfl x.free_int (sa_cons (se_var 0) sa_nil)) (se_var 1)) (se_callT call_int_str v_intS rfl x.free_int (sa_cons (se_var 0) sa_nil)) se_non)))))
theorem bd_is_integer : BindD d_is_integer ["value"] := ⟨rfl, rfl, fun _ _ _ _ _ _ us hl => match us, hl with | [_], _ => rfl⟩
theorem sc_is_integer : FnScope ["value"] ["value"] d_is_integer.scope := ⟨rfl, rfl, rfl, by decide +kernel, rfl, by decide +kernel, by decide +kernel⟩
theorem ok_is_integer (x : Fx K mg)  (D : ∃ fd, FunD K d_is_integer.name d_is_integer.qual d_is_integer.params d_is_integer.body d_is_integer.scope (d_is_integer.dvs K) (d_is_integer.kws K) (d_is_integer.at_ K) fd) : FnB P w K mg base 1 d_is_integer ["value"] 1 den_is_integer := by
  refine fnB_of (k := 0) D sc_is_integer rfl rfl fun cdv A outer s H E G => ?_
  unfold b_is_integer
  exact (sb_one (ss_ret (se_and (se_callB call_isi (v_isi x.isi) rfl x.free_isinstance (sa_cons (se_var 0) (sa_cons (se_ty rfl x.free_int) sa_nil))) (se_one (se_not (se_callB call_isi (v_isi x.isi) rfl x.free_isinstance (sa_cons (se_var 0) (sa_cons (se_ty rfl x.free_bool) sa_nil))))))))
theorem bd_is_between : BindD d_is_between ["value", "least", "most"] := ⟨rfl, rfl, fun _ _ _ _ _ _ us hl => match us, hl with | [_, _, _], _ => rfl⟩
theorem sc_is_between : FnScope ["value", "least", "most"] ["value", "least", "most"] d_is_between.scope := ⟨rfl, rfl, rfl, by decide +kernel, rfl, by decide +kernel, by decide +kernel⟩
theorem ok_is_between (x : Fx K mg) (c_is_integer : FnB P w K mg base 1 d_is_integer ["value"] 1 den_is_integer) (D : ∃ fd, FunD K d_is_between.name d_is_between.qual d_is_between.params d_is_between.body d_is_between.scope (d_is_between.dvs K) (d_is_between.kws K) (d_is_between.at_ K) fd) : FnB P w K mg base 2 d_is_between ["value", "least", "most"] 3 den_is_between := by
  refine fnB_of (k := 1) D sc_is_between rfl rfl fun cdv A outer s H E G => ?_
  unfold b_is_between
  exact (sb_one (ss_ret (se_and (se_callD [false] c_is_integer.up bd_is_integer G rfl x.glo_is_integer (sa_cons (se_var 0) sa_nil)) (se_one (se_chain op_le op_le v_le v_le (se_var 1) (se_var 0) (se_var 2))))))
theorem bd_check_number_k02 : BindD d_check_number_k02 ["value", "least", "most"] := ⟨rfl, rfl, fun _ _ _ _ _ _ us hl => match us, hl with | [_, _, _], _ => rfl⟩
theorem sc_check_number_k02 : FnScope ["value", "least", "most"] ["value", "least", "most"] d_check_number_k02.scope := ⟨rfl, rfl, rfl, by decide +kernel, rfl, by decide +kernel, by decide +kernel⟩
theorem ok_check_number_k02 (x : Fx K mg) (c_is_between : FnB P w K mg base 2 d_is_between ["value", "least", "most"] 3 den_is_between) (i_InvalidNumber : IniB P w K mg base "InvalidNumber" ["self", "given"] (spI1 "given" (He.ga K "InvalidNumber"))) (D : ∃ fd, FunD K d_check_number_k02.name d_check_number_k02.qual d_check_number_k02.params d_check_number_k02.body d_check_number_k02.scope (d_check_number_k02.dvs K) (d_check_number_k02.kws K) (d_check_number_k02.at_ K) fd) : FnB P w K mg base 3 d_check_number_k02 ["value", "least", "most"] 3 den_check_number_k02 := by
  refine fnB_of (k := 2) D sc_check_number_k02 rfl rfl fun cdv A outer s H E G => ?_
  unfold b_check_number_k02
  exact (sb_one (ss_if (st_not (st_val (se_callD [false, false, false] c_is_between.up bd_is_between G rfl x.glo_is_between (sa_cons (se_var 0) (sa_cons (se_var 1) (sa_cons (se_var 2) sa_nil)))))) (sb_one (ss_raise1 (rsC_of x.rs_InvalidNumber_0_given) i_InvalidNumber G rfl x.glo_InvalidNumber (sa_cons (se_var 0) sa_nil))) sb_nil))
theorem bd_Rule____init___k02 : BindD d_Rule____init___k02 ["self", "step", "setting", "limit", "pause"] := ⟨rfl, rfl, fun _ _ _ _ _ _ us hl => match us, hl with | [_, _, _, _, _], _ => rfl⟩
theorem sc_Rule____init___k02 : FnScope ["self", "step", "setting", "limit", "pause"] ["self", "step", "setting", "limit", "pause"] d_Rule____init___k02.scope := ⟨rfl, rfl, rfl, by decide +kernel, rfl, by decide +kernel, by decide +kernel⟩
theorem ok_Rule____init___k02 (x : Fx K mg) (c_check_number_k02 : FnB P w K mg base 3 d_check_number_k02 ["value", "least", "most"] 3 den_check_number_k02) (i_InvalidSetting : IniB P w K mg base "InvalidSetting" ["self", "given"] (spI1 "given" (He.ga K "InvalidSetting"))) (D : ∃ fd, FunD K d_Rule____init___k02.name d_Rule____init___k02.qual d_Rule____init___k02.params d_Rule____init___k02.body d_Rule____init___k02.scope (d_Rule____init___k02.dvs K) (d_Rule____init___k02.kws K) (d_Rule____init___k02.at_ K) fd) : FnB P w K mg base 4 d_Rule____init___k02 ["self", "step", "setting", "limit", "pause"] 5 den_Rule____init___k02 := by
  refine fnB_of (k := 3) D sc_Rule____init___k02 rfl rfl fun cdv A outer s H E G => ?_
  unfold b_Rule____init___k02
  exact (sb_cons (ss_expr (se_callD [false, false, false] c_check_number_k02.up bd_check_number_k02 G rfl x.glo_check_number (sa_cons (se_var 1) (sa_cons se_int (sa_cons (se_gInt rfl x.int_MOST_STEP_1000000000000) sa_nil))))) (sb_cons (ss_if (st_w (sw_or (st_not (st_val (se_callB call_isi (v_isi x.isi) rfl x.free_isinstance (sa_cons (se_var 2) (sa_cons (se_ty rfl x.free_str) sa_nil))))) (sw_or1 (st_cmp op_notIn_seq (v_in true) b_in (se_var 2) (se_gTup (vs := [(.str "next"), (.str "last"), (.str "near")]) rfl x.glo_SETTINGS x.tup_SETTINGS))))) (sb_one (ss_raise1 (rsC_of x.rs_InvalidSetting_0_given) i_InvalidSetting G rfl x.glo_InvalidSetting (sa_cons (se_var 2) sa_nil))) sb_nil) (sb_cons (ss_expr (se_callD [false, false, false] c_check_number_k02.up bd_check_number_k02 G rfl x.glo_check_number (sa_cons (se_var 3) (sa_cons (se_var 1) (sa_cons (se_gInt rfl x.int_MOST_LIMIT_1000000000000000000) sa_nil))))) (sb_cons (ss_expr (se_callD [false, false, false] c_check_number_k02.up bd_check_number_k02 G rfl x.glo_check_number (sa_cons (se_var 4) (sa_cons se_int (sa_cons (se_gInt rfl x.int_MOST_LIMIT_1000000000000000000) sa_nil))))) (sb_cons (ss_put x.cls_Rule x.noat_Rule_limit (se_var 0) (se_var 3)) (sb_one (ss_put x.cls_Rule x.noat_Rule_parts (se_var 0) (se_tup (sa_cons (se_var 1) (sa_cons (se_var 2) (sa_cons (se_var 3) (sa_cons (se_var 4) sa_nil))))))))))))
theorem bd_Rule__read : BindD d_Rule__read ["cls", "text"] := ⟨rfl, rfl, fun _ _ _ _ _ _ us hl => match us, hl with | [_, _], _ => rfl⟩
theorem bk_Rule__read_1_text : BindK d_Rule__read ["cls", "text"] 1 ["text"] [0, 1] := ⟨rfl, by decide, fun _ _ _ _ _ _ us ws h1 h2 => match us, ws, h1, h2 with | [_], [_], _, _ => rfl⟩
theorem sc_Rule__read : FnScope ["cls", "text", "words", "numbers"] ["cls", "text"] d_Rule__read.scope := ⟨rfl, rfl, rfl, by decide +kernel, rfl, by decide +kernel, by decide +kernel⟩
theorem ok_Rule__read (x : Fx K mg) (c_number_in : FnB P w K mg base 1 d_number_in ["word", "most"] 2 den_number_in) (c_Rule____init___k02 : FnB P w K mg base 4 d_Rule____init___k02 ["self", "step", "setting", "limit", "pause"] 5 den_Rule____init___k02) (i_InvalidText : IniB P w K mg base "InvalidText" ["self", "given"] (spI1 "given" (He.ga K "InvalidText"))) (D : ∃ fd, FunD K d_Rule__read.name d_Rule__read.qual d_Rule__read.params d_Rule__read.body d_Rule__read.scope (d_Rule__read.dvs K) (d_Rule__read.kws K) (d_Rule__read.at_ K) fd) : FnB P w K mg base 6 d_Rule__read ["cls", "text"] 2 den_Rule__read := by
  refine fnB_of (k := 5) D sc_Rule__read rfl rfl fun cdv A outer s H E G => ?_
  unfold b_Rule__read
  exact (sb_cons (ss_set 2 G (se_ifE (st_val (se_callB call_isi (v_isi x.isi) rfl x.free_isinstance (sa_cons (se_var 1) (sa_cons (se_ty rfl x.free_str) sa_nil)))) (se_split (se_var 1) se_str) (se_lst sa_nil))) (sb_cons (ss_if (st_w (sw_or (st_cmp (op_neA G.room.units) v_ne b_ne (se_callB c_len v_len rfl x.free_len (sa_cons (se_var 2) sa_nil)) (se_gInt rfl x.int_WORDS_7)) (sw_or1 (st_cmp (op_neA G.room.units) v_ne b_ne (se_lst (sa_cons (se_ix (se_var 2) se_int) (sa_cons (se_ix (se_var 2) se_int) (sa_cons (se_ix (se_var 2) se_int) sa_nil)))) (se_lst (sa_cons se_str (sa_cons se_str (sa_cons se_str sa_nil)))))))) (sb_one (ss_raise1 (rsC_of x.rs_InvalidText_0_given) i_InvalidText G rfl x.glo_InvalidText (sa_cons (se_var 1) sa_nil))) sb_nil) (sb_cons (ss_set 3 G (se_lst (sa_cons (se_callD [false, false] c_number_in.up bd_number_in G rfl x.glo_number_in (sa_cons (se_ix (se_var 2) se_int) (sa_cons (se_gInt rfl x.int_MOST_STEP_1000000000000) sa_nil))) (sa_cons (se_callD [false, false] c_number_in.up bd_number_in G rfl x.glo_number_in (sa_cons (se_ix (se_var 2) se_int) (sa_cons (se_gInt rfl x.int_MOST_LIMIT_1000000000000000000) sa_nil))) (sa_cons (se_callD [false, false] c_number_in.up bd_number_in G rfl x.glo_number_in (sa_cons (se_ix (se_var 2) se_int) (sa_cons (se_gInt rfl x.int_MOST_LIMIT_1000000000000000000) sa_nil))) sa_nil))))) (sb_cons (ss_if (st_w (sw_or (st_cmp op_in_seq (v_in false) b_in se_non (se_var 3)) (sw_or (st_cmp op_notIn_seq (v_in true) b_in (se_ix (se_var 2) se_int) (se_gTup (vs := [(.str "next"), (.str "last"), (.str "near")]) rfl x.glo_SETTINGS x.tup_SETTINGS)) (sw_or (st_not (st_chain op_le op_le v_le v_le b_I se_int (se_ix (se_var 3) se_int) (se_ix (se_var 3) se_int))) (sw_or1 (st_cmp op_lt v_lt b_I (se_ix (se_var 3) se_int) se_int)))))) (sb_one (ss_raise1 (rsC_of x.rs_InvalidText_0_given) i_InvalidText G rfl x.glo_InvalidText (sa_cons (se_var 1) sa_nil))) sb_nil) (sb_one (ss_ret (se_makeVD (k := 4) (d := d_Rule____init___k02) [false, false, false, false] x.mkr_Rule (se_var 0) c_Rule____init___k02.up bd_Rule____init___k02 G (sa_cons (se_ix (se_var 3) se_int) (sa_cons (se_ix (se_var 2) se_int) (sa_cons (se_ix (se_var 3) se_int) (sa_cons (se_ix (se_var 3) se_int) sa_nil)))))))))))
theorem bd_Rule__step : BindD d_Rule__step ["self"] := ⟨rfl, rfl, fun _ _ _ _ _ _ us hl => match us, hl with | [_], _ => rfl⟩
theorem sc_Rule__step : FnScope ["self"] ["self"] d_Rule__step.scope := ⟨rfl, rfl, rfl, by decide +kernel, rfl, by decide +kernel, by decide +kernel⟩
theorem ok_Rule__step (x : Fx K mg)  (D : ∃ fd, FunD K d_Rule__step.name d_Rule__step.qual d_Rule__step.params d_Rule__step.body d_Rule__step.scope (d_Rule__step.dvs K) (d_Rule__step.kws K) (d_Rule__step.at_ K) fd) : FnB P w K mg base 1 d_Rule__step ["self"] 1 den_Rule__step := by
  refine fnB_of (k := 0) D sc_Rule__step rfl rfl fun cdv A outer s H E G => ?_
  unfold b_Rule__step
  exact (sb_one (ss_ret (se_ix (se_get x.cls_Rule x.noat_Rule_parts (se_var 0)) se_int)))
theorem bd_Rule__setting : BindD d_Rule__setting ["self"] := ⟨rfl, rfl, fun _ _ _ _ _ _ us hl => match us, hl with | [_], _ => rfl⟩
theorem sc_Rule__setting : FnScope ["self"] ["self"] d_Rule__setting.scope := ⟨rfl, rfl, rfl, by decide +kernel, rfl, by decide +kernel, by decide +kernel⟩
theorem ok_Rule__setting (x : Fx K mg)  (D : ∃ fd, FunD K d_Rule__setting.name d_Rule__setting.qual d_Rule__setting.params d_Rule__setting.body d_Rule__setting.scope (d_Rule__setting.dvs K) (d_Rule__setting.kws K) (d_Rule__setting.at_ K) fd) : FnB P w K mg base 1 d_Rule__setting ["self"] 1 den_Rule__setting := by
  refine fnB_of (k := 0) D sc_Rule__setting rfl rfl fun cdv A outer s H E G => ?_
  unfold b_Rule__setting
  exact (sb_one (ss_ret (se_ix (se_get x.cls_Rule x.noat_Rule_parts (se_var 0)) se_int)))
theorem bd_Rule__pause : BindD d_Rule__pause ["self"] := ⟨rfl, rfl, fun _ _ _ _ _ _ us hl => match us, hl with | [_], _ => rfl⟩
theorem sc_Rule__pause : FnScope ["self"] ["self"] d_Rule__pause.scope := ⟨rfl, rfl, rfl, by decide +kernel, rfl, by decide +kernel, by decide +kernel⟩
theorem ok_Rule__pause (x : Fx K mg)  (D : ∃ fd, FunD K d_Rule__pause.name d_Rule__pause.qual d_Rule__pause.params d_Rule__pause.body d_Rule__pause.scope (d_Rule__pause.dvs K) (d_Rule__pause.kws K) (d_Rule__pause.at_ K) fd) : FnB P w K mg base 1 d_Rule__pause ["self"] 1 den_Rule__pause := by
  refine fnB_of (k := 0) D sc_Rule__pause rfl rfl fun cdv A outer s H E G => ?_
  unfold b_Rule__pause
  exact (sb_one (ss_ret (se_ix (se_get x.cls_Rule x.noat_Rule_parts (se_var 0)) se_int)))
theorem bd_Rule__text : BindD d_Rule__text ["self"] := ⟨rfl, rfl, fun _ _ _ _ _ _ us hl => match us, hl with | [_], _ => rfl⟩
theorem sc_Rule__text : FnScope ["self"] ["self"] d_Rule__text.scope := ⟨rfl, rfl, rfl, by decide +kernel, rfl, by decide +kernel, by decide +kernel⟩
theorem ok_Rule__text (x : Fx K mg) (c_Rule__step : FnB P w K mg base 1 d_Rule__step ["self"] 1 den_Rule__step) (c_Rule__setting : FnB P w K mg base 1 d_Rule__setting ["self"] 1 den_Rule__setting) (c_Rule__pause : FnB P w K mg base 1 d_Rule__pause ["self"] 1 den_Rule__pause) (D : ∃ fd, FunD K d_Rule__text.name d_Rule__text.qual d_Rule__text.params d_Rule__text.body d_Rule__text.scope (d_Rule__text.dvs K) (d_Rule__text.kws K) (d_Rule__text.at_ K) fd) : FnB P w K mg base 3 d_Rule__text ["self"] 1 den_Rule__text := by
  refine fnB_of (k := 2) D sc_Rule__text rfl rfl fun cdv A outer s H E G => ?_
  unfold b_Rule__text
  exact (sb_one (ss_ret (se_fs (.cons se_str (.cons (se_fmt (se_propD (k := 1) (d := d_Rule__step) (se_var 0) x.cls_Rule x.prop_Rule_step c_Rule__step.up bd_Rule__step G)) (.cons se_str (.cons (se_fmt (se_propD (k := 1) (d := d_Rule__setting) (se_var 0) x.cls_Rule x.prop_Rule_setting c_Rule__setting.up bd_Rule__setting G)) (.cons se_str (.cons (se_fmt (se_get x.cls_Rule x.noat_Rule_limit (se_var 0))) (.cons se_str (.cons (se_fmt (se_propD (k := 1) (d := d_Rule__pause) (se_var 0) x.cls_Rule x.prop_Rule_pause c_Rule__pause.up bd_Rule__pause G)) .nil)))))))))))
theorem bd__law_figure : BindD d__law_figure ["_law_word"] := ⟨rfl, rfl, fun _ _ _ _ _ _ us hl => match us, hl with | [_], _ => rfl⟩
theorem sc__law_figure : FnScope ["_law_word", "_law_glyph"] ["_law_word"] d__law_figure.scope := ⟨rfl, rfl, rfl, by decide +kernel, rfl, by decide +kernel, by decide +kernel⟩
theorem ok__law_figure (x : Fx K mg)  (D : ∃ fd, FunD K d__law_figure.name d__law_figure.qual d__law_figure.params d__law_figure.body d__law_figure.scope (d__law_figure.dvs K) (d__law_figure.kws K) (d__law_figure.at_ K) fd) : FnB P w K mg base 1 d__law_figure ["_law_word"] 1 den__law_figure := by
  refine fnB_of (k := 0) D sc__law_figure rfl rfl fun cdv A outer s H E G => ?_
  unfold b__law_figure
  exact (sb_cons (ss_if (st_w (sw_or (st_cmp (op_eqA G.room.units) v_eq b_eq (se_var 0) se_str) (sw_or (st_cmp op_gt v_gt b_I (se_callB c_len v_len rfl x.free_len (sa_cons (se_var 0) sa_nil)) se_int) (sw_or1 (st_cmp (op_neA G.room.units) v_ne b_ne (se_comp (own := [("_law_glyph", 1)]) G.calm G.nd (si_str (se_var 0)) (blkOk_by (by first | (show blkC ["_law_word", "_law_glyph"] d__law_figure.scope _ _ = true; decide +kernel) | kernel_rfl)) (fun _ _ _ _ _ => (sg_name 1 G.blk.nd)) (fun _ _ _ _ _ => (sts_one (st_cmp op_notIn_str v_notInS b_notInS (se_var 1) se_str))) (fun _ _ _ _ _ => (se_var 1))) (se_lst sa_nil)))))) (sb_one (ss_ret (se_neg se_int))) sb_nil) (sb_one (ss_ret (se_ifE (st_w (sw_or (st_cmp (op_eqA G.room.units) v_eq b_eq (se_var 0) se_str) (sw_or1 (st_cmp (op_neA G.room.units) v_ne b_ne (se_ix (se_var 0) se_int) se_str)))) (se_callT call_int_str v_intS rfl x.free_int (sa_cons (se_var 0) sa_nil)) (se_neg se_int)))))
theorem bd__law_read : BindD d__law_read ["_law_line"] := ⟨rfl, rfl, fun _ _ _ _ _ _ us hl => match us, hl with | [_], _ => rfl⟩
theorem sc__law_read : FnScope ["_law_line", "_law_words", "_law_plan_here"] ["_law_line"] d__law_read.scope := ⟨rfl, rfl, rfl, by decide +kernel, rfl, by decide +kernel, by decide +kernel⟩
theorem ok__law_read (x : Fx K mg) (c__law_figure : FnB P w K mg base 1 d__law_figure ["_law_word"] 1 den__law_figure) (D : ∃ fd, FunD K d__law_read.name d__law_read.qual d__law_read.params d__law_read.body d__law_read.scope (d__law_read.dvs K) (d__law_read.kws K) (d__law_read.at_ K) fd) : FnB P w K mg base 2 d__law_read ["_law_line"] 1 den__law_read := by
  refine fnB_of (k := 1) D sc__law_read rfl rfl fun cdv A outer s H E G => ?_
  unfold b__law_read
  exact (sb_cons (ss_set 1 G (se_ifE (st_val (se_callB call_isi (v_isi x.isi) rfl x.free_isinstance (sa_cons (se_var 0) (sa_cons (se_ty rfl x.free_str) sa_nil)))) (se_split (se_var 0) se_str) (se_lst sa_nil))) (sb_cons (ss_if (st_w (sw_or (st_cmp (op_neA G.room.units) v_ne b_ne (se_callB c_len v_len rfl x.free_len (sa_cons (se_var 1) sa_nil)) se_int) (sw_or1 (st_cmp (op_neA G.room.units) v_ne b_ne (se_lst (sa_cons (se_ix (se_var 1) se_int) (sa_cons (se_ix (se_var 1) se_int) (sa_cons (se_ix (se_var 1) se_int) sa_nil)))) (se_lst (sa_cons se_str (sa_cons se_str (sa_cons se_str sa_nil)))))))) (sb_one (ss_ret (se_lst sa_nil))) sb_nil) (sb_cons (ss_set 2 G (se_lst (sa_cons (se_callD [false] c__law_figure.up bd__law_figure G rfl x.glo__law_figure (sa_cons (se_ix (se_var 1) se_int) sa_nil)) (sa_cons (se_ix (se_var 1) se_int) (sa_cons (se_callD [false] c__law_figure.up bd__law_figure G rfl x.glo__law_figure (sa_cons (se_ix (se_var 1) se_int) sa_nil)) (sa_cons (se_callD [false] c__law_figure.up bd__law_figure G rfl x.glo__law_figure (sa_cons (se_ix (se_var 1) se_int) sa_nil)) sa_nil)))))) (sb_cons (ss_if (st_w (sw_or (st_cmp op_notIn_seq (v_in true) b_in (se_ix (se_var 2) se_int) (se_lst (sa_cons se_str (sa_cons se_str (sa_cons se_str sa_nil))))) (sw_or1 (st_not (st_chain op_le op_le v_le v_le b_I se_int (se_ix (se_var 2) se_int) (se_bin op_pow v_pow se_int se_int)))))) (sb_one (ss_ret (se_lst sa_nil))) sb_nil) (sb_one (ss_ret (se_ifE (st_w (sw_and (st_chain op_le op_le v_le v_le b_I (se_ix (se_var 2) se_int) (se_ix (se_var 2) se_int) (se_bin op_pow v_pow se_int se_int)) (sw_and1 (st_chain op_le op_le v_le v_le b_I se_int (se_ix (se_var 2) se_int) (se_bin op_pow v_pow se_int se_int))))) (se_var 2) (se_lst sa_nil))))))))
theorem bd__law_sip : BindD d__law_sip ["_law_flask_here", "_law_top"] := ⟨rfl, rfl, fun _ _ _ _ _ _ us hl => match us, hl with | [_, _], _ => rfl⟩
theorem sc__law_sip : FnScope ["_law_flask_here", "_law_top", "_law_digit"] ["_law_flask_here", "_law_top"] d__law_sip.scope := ⟨rfl, rfl, rfl, by decide +kernel, rfl, by decide +kernel, by decide +kernel⟩
theorem ok__law_sip (x : Fx K mg)  (D : ∃ fd, FunD K d__law_sip.name d__law_sip.qual d__law_sip.params d__law_sip.body d__law_sip.scope (d__law_sip.dvs K) (d__law_sip.kws K) (d__law_sip.at_ K) fd) : FnB P w K mg base 1 d__law_sip ["_law_flask_here", "_law_top"] 2 den__law_sip := by
  refine fnB_of (k := 0) D sc__law_sip rfl rfl fun cdv A outer s H E G => ?_
  unfold b__law_sip
  exact (sb_cons (ss_asg (ws := []) (se_bin op_addA v_add (se_ix (se_var 0) se_int) se_int) (sg_sb (se_var 0) se_int)) (sb_cons (ss_if (st_cmp op_gt v_gt b_I (se_ix (se_var 0) se_int) se_int) (sb_cons (ss_set 2 G (se_bin op_mod v_mod (se_callT call_int1 v_int rfl x.free_int (sa_cons (se_ix (se_var 0) se_int) sa_nil)) (se_var 1))) (sb_cons (ss_asg (ws := []) (se_bin op_fdivW v_div (se_callT call_int1 v_int rfl x.free_int (sa_cons (se_ix (se_var 0) se_int) sa_nil)) (se_var 1)) (sg_sb (se_var 0) se_int)) (sb_one (ss_ret (se_var 2))))) sb_nil) (sb_cons (ss_asg (ws := []) (se_bin op_mod v_mod (se_callT call_int1 v_int rfl x.free_int (sa_cons (se_bin op_addA v_add (se_bin op_addA v_add (se_bin op_mulP v_mul (se_ix (se_var 0) se_int) se_int) (se_bin op_mulP v_mul se_int (se_ix (se_var 0) se_int))) se_int) sa_nil)) se_int) (sg_sb (se_var 0) se_int)) (sb_one (ss_ret (se_bin op_mod v_mod (se_callT call_int1 v_int rfl x.free_int (sa_cons (se_bin op_fdivW v_div (se_ix (se_var 0) se_int) se_int) sa_nil)) (se_var 1)))))))
theorem bd__law_made_k03 : BindD d__law_made_k03 ["_law_plan_here"] := ⟨rfl, rfl, fun _ _ _ _ _ _ us hl => match us, hl with | [_], _ => rfl⟩
theorem sc__law_made_k03 : FnScope ["_law_plan_here"] ["_law_plan_here"] d__law_made_k03.scope := ⟨rfl, rfl, rfl, by decide +kernel, rfl, by decide +kernel, by decide +kernel⟩
theorem ok__law_made_k03 (x : Fx K mg) (c_Rule____init___k02 : FnB P w K mg base 4 d_Rule____init___k02 ["self", "step", "setting", "limit", "pause"] 5 den_Rule____init___k02) (D : ∃ fd, FunD K d__law_made_k03.name d__law_made_k03.qual d__law_made_k03.params d__law_made_k03.body d__law_made_k03.scope (d__law_made_k03.dvs K) (d__law_made_k03.kws K) (d__law_made_k03.at_ K) fd) : FnB P w K mg base 6 d__law_made_k03 ["_law_plan_here"] 1 den__law_made_k03 := by
  refine fnB_of (k := 5) D sc__law_made_k03 rfl rfl fun cdv A outer s H E G => ?_
  unfold b__law_made_k03
  exact (sb_one (ss_ret (se_makeD (k := 4) (d := d_Rule____init___k02) [false, false, false, false] x.mkr_Rule c_Rule____init___k02.up bd_Rule____init___k02 G rfl x.glo_Rule (sa_cons (se_ix (se_var 0) se_int) (sa_cons (se_ix (se_var 0) se_int) (sa_cons (se_ix (se_var 0) se_int) (sa_cons (se_ix (se_var 0) se_int) sa_nil)))))))
theorem bd__law_pick : BindD d__law_pick ["_law_flask_here", "_law_menu"] := ⟨rfl, rfl, fun _ _ _ _ _ _ us hl => match us, hl with | [_, _], _ => rfl⟩
theorem sc__law_pick : FnScope ["_law_flask_here", "_law_menu"] ["_law_flask_here", "_law_menu"] d__law_pick.scope := ⟨rfl, rfl, rfl, by decide +kernel, rfl, by decide +kernel, by decide +kernel⟩
theorem ok__law_pick (x : Fx K mg) (c__law_sip : FnB P w K mg base 1 d__law_sip ["_law_flask_here", "_law_top"] 2 den__law_sip) (D : ∃ fd, FunD K d__law_pick.name d__law_pick.qual d__law_pick.params d__law_pick.body d__law_pick.scope (d__law_pick.dvs K) (d__law_pick.kws K) (d__law_pick.at_ K) fd) : FnB P w K mg base 2 d__law_pick ["_law_flask_here", "_law_menu"] 2 den__law_pick := by
  refine fnB_of (k := 1) D sc__law_pick rfl rfl fun cdv A outer s H E G => ?_
  unfold b__law_pick
  exact (sb_one (ss_ret (se_ix (se_var 1) (se_callD [true, false] c__law_sip.up bd__law_sip G rfl x.glo__law_sip (sa_cons (se_var 0) (sa_cons (se_callB c_len v_len rfl x.free_len (sa_cons (se_var 1) sa_nil)) sa_nil))))))
theorem bd__law_odd : BindD d__law_odd ["_law_flask_here"] := ⟨rfl, rfl, fun _ _ _ _ _ _ us hl => match us, hl with | [_], _ => rfl⟩
theorem sc__law_odd : FnScope ["_law_flask_here", "_law_some"] ["_law_flask_here"] d__law_odd.scope := ⟨rfl, rfl, rfl, by decide +kernel, rfl, by decide +kernel, by decide +kernel⟩
theorem ok__law_odd (x : Fx K mg) (c__law_sip : FnB P w K mg base 1 d__law_sip ["_law_flask_here", "_law_top"] 2 den__law_sip) (D : ∃ fd, FunD K d__law_odd.name d__law_odd.qual d__law_odd.params d__law_odd.body d__law_odd.scope (d__law_odd.dvs K) (d__law_odd.kws K) (d__law_odd.at_ K) fd) : FnB P w K mg base 2 d__law_odd ["_law_flask_here"] 1 den__law_odd := by
  refine fnB_of (k := 1) D sc__law_odd rfl rfl fun cdv A outer s H E G => ?_
  unfold b__law_odd
  exact (sb_cons (ss_set 1 G (se_lst (sa_cons se_non (sa_cons se_bl (sa_cons se_bl (sa_cons se_int (sa_cons se_int (sa_cons (se_neg se_int) (sa_cons se_int (sa_cons (se_bin op_pow v_pow se_int se_int) (sa_cons (se_bin op_addA v_add (se_bin op_pow v_pow se_int se_int) se_int) (sa_cons se_str (sa_cons se_str (sa_cons se_str (sa_cons (se_tup sa_nil) (sa_cons (se_tup (sa_cons se_int sa_nil)) sa_nil)))))))))))))))) (sb_cons (ss_set 1 G (se_bin op_addA v_add (se_var 1) (se_lst (sa_cons (se_tup (sa_cons se_int (sa_cons se_int (sa_cons se_int sa_nil)))) (sa_cons (se_tup (sa_cons se_int (sa_cons se_int (sa_cons se_non sa_nil)))) (sa_cons (se_tup (sa_cons se_int (sa_cons se_int (sa_cons se_int sa_nil)))) (sa_cons (se_lst (sa_cons se_int (sa_cons se_int (sa_cons se_int sa_nil)))) (sa_cons se_dct0 (sa_cons (se_tup (sa_cons se_int (sa_cons se_int sa_nil))) (sa_cons (se_tup (sa_cons se_bl (sa_cons se_int (sa_cons se_int sa_nil)))) (sa_cons (se_tup (sa_cons se_int (sa_cons se_str (sa_cons se_int sa_nil)))) (sa_cons (se_tup (sa_cons se_int (sa_cons se_int (sa_cons se_int (sa_cons se_int sa_nil))))) (sa_cons (se_tup (sa_cons (se_tup (sa_cons se_int (sa_cons se_int (sa_cons se_int sa_nil)))) sa_nil)) sa_nil))))))))))))) (sb_one (ss_ret (se_ix (se_var 1) (se_callD [true, false] c__law_sip.up bd__law_sip G rfl x.glo__law_sip (sa_cons (se_var 0) (sa_cons (se_callB c_len v_len rfl x.free_len (sa_cons (se_var 1) sa_nil)) sa_nil))))))))
theorem bd__law_bent_k03 : BindD d__law_bent_k03 ["_law_flask_here", "_law_plan_here"] := ⟨rfl, rfl, fun _ _ _ _ _ _ us hl => match us, hl with | [_, _], _ => rfl⟩
theorem sc__law_bent_k03 : FnScope ["_law_flask_here", "_law_plan_here", "_law_line", "_law_way", "_law_words", "_law_at", "_law_spot", "_law_glyph"] ["_law_flask_here", "_law_plan_here"] d__law_bent_k03.scope := ⟨rfl, rfl, rfl, by decide +kernel, rfl, by decide +kernel, by decide +kernel⟩
theorem ok__law_bent_k03 (x : Fx K mg) (c__law_sip : FnB P w K mg base 1 d__law_sip ["_law_flask_here", "_law_top"] 2 den__law_sip) (c__law_made_k03 : FnB P w K mg base 6 d__law_made_k03 ["_law_plan_here"] 1 den__law_made_k03) (c_Rule__text : FnB P w K mg base 3 d_Rule__text ["self"] 1 den_Rule__text) (c__law_pick : FnB P w K mg base 2 d__law_pick ["_law_flask_here", "_law_menu"] 2 den__law_pick) (c__law_odd : FnB P w K mg base 2 d__law_odd ["_law_flask_here"] 1 den__law_odd) (D : ∃ fd, FunD K d__law_bent_k03.name d__law_bent_k03.qual d__law_bent_k03.params d__law_bent_k03.body d__law_bent_k03.scope (d__law_bent_k03.dvs K) (d__law_bent_k03.kws K) (d__law_bent_k03.at_ K) fd) : FnB P w K mg base 7 d__law_bent_k03 ["_law_flask_here", "_law_plan_here"] 2 den__law_bent_k03 := by
  refine fnB_of (k := 6) D sc__law_bent_k03 rfl rfl fun cdv A outer s H E G => ?_
  unfold b__law_bent_k03
  exact (sb_cons (ss_par 2 3 false G (sa_cons (se_propD (k := 5) (d := d_Rule__text) (se_callD [false] c__law_made_k03.up bd__law_made_k03 G rfl x.glo__law_made (sa_cons (se_var 1) sa_nil)) x.cls_Rule x.prop_Rule_text c_Rule__text.up bd_Rule__text G) (sa_cons (se_callD [true, false] c__law_sip.up bd__law_sip G rfl x.glo__law_sip (sa_cons (se_var 0) (sa_cons se_int sa_nil))) sa_nil))) (sb_cons (ss_if (st_cmp op_lt v_lt b_I (se_var 3) se_int) (sb_cons (ss_par 6 7 false G (sa_cons (se_callD [true, false] c__law_sip.up bd__law_sip G rfl x.glo__law_sip (sa_cons (se_var 0) (sa_cons (se_bin op_addA v_add (se_callB c_len v_len rfl x.free_len (sa_cons (se_var 2) sa_nil)) se_int) sa_nil))) (sa_cons (se_callD [true, false] c__law_pick.up bd__law_pick G rfl x.glo__law_pick (sa_cons (se_var 0) (sa_cons se_str sa_nil))) sa_nil))) (sb_one (ss_ret (se_ix (se_lst (sa_cons (se_bin op_addA v_add (se_slice (se_var 2) so_none (so_some (se_var 6))) (se_slice (se_var 2) (so_some (se_bin op_addA v_add (se_var 6) se_int)) so_none)) (sa_cons (se_bin op_addA v_add (se_bin op_addA v_add (se_slice (se_var 2) so_none (so_some (se_var 6))) (se_var 7)) (se_slice (se_var 2) (so_some (se_var 6)) so_none)) (sa_cons (se_bin op_addA v_add (se_bin op_addA v_add (se_slice (se_var 2) so_none (so_some (se_var 6))) (se_var 7)) (se_slice (se_var 2) (so_some (se_bin op_addA v_add (se_var 6) se_int)) so_none)) sa_nil)))) (se_var 3))))) sb_nil) (sb_cons (ss_if (st_cmp (op_eqA G.room.units) v_eq b_eq (se_var 3) se_int) (sb_cons (ss_set 4 G (se_split (se_var 2) se_str)) (sb_cons (ss_set 5 G (se_callD [true, false] c__law_sip.up bd__law_sip G rfl x.glo__law_sip (sa_cons (se_var 0) (sa_cons (se_callB c_len v_len rfl x.free_len (sa_cons (se_var 4) sa_nil)) sa_nil)))) (sb_one (ss_ret (se_join se_str (se_ifE (st_cmp (op_eqA G.room.units) v_eq b_eq (se_callD [true, false] c__law_sip.up bd__law_sip G rfl x.glo__law_sip (sa_cons (se_var 0) (sa_cons se_int sa_nil))) se_int) (se_bin op_addA v_add (se_slice (se_var 4) so_none (so_some (se_var 5))) (se_slice (se_var 4) (so_some (se_bin op_addA v_add (se_var 5) se_int)) so_none)) (se_bin op_addA v_add (se_bin op_addA v_add (se_slice (se_var 4) so_none (so_some (se_var 5))) (se_slice (se_var 4) (so_some (se_var 5)) (so_some (se_bin op_addA v_add (se_var 5) se_int)))) (se_slice (se_var 4) (so_some (se_var 5)) so_none)))))))) sb_nil) (sb_one (ss_ret (se_ifE (st_cmp (op_eqA G.room.units) v_eq b_eq (se_var 3) se_int) (se_callD [true, false] c__law_pick.up bd__law_pick G rfl x.glo__law_pick (sa_cons (se_var 0) (sa_cons (se_lst (sa_cons (se_callD [true] c__law_odd.up bd__law_odd G rfl x.glo__law_odd (sa_cons (se_var 0) sa_nil)) (sa_cons (se_upper (se_var 2)) (sa_cons (se_bin op_addA v_add se_str (se_var 2)) (sa_cons (se_bin op_addA v_add (se_var 2) se_str) (sa_cons (se_bin op_addA v_add (se_var 2) se_str) (sa_cons (se_ix (se_var 1) se_int) sa_nil))))))) sa_nil))) (se_var 2)))))))
theorem bd__law_far : BindD d__law_far ["_law_flask_here", "_law_most"] := ⟨rfl, rfl, fun _ _ _ _ _ _ us hl => match us, hl with | [_, _], _ => rfl⟩
theorem sc__law_far : FnScope ["_law_flask_here", "_law_most", "_law_scale"] ["_law_flask_here", "_law_most"] d__law_far.scope := ⟨rfl, rfl, rfl, by decide +kernel, rfl, by decide +kernel, by decide +kernel⟩
theorem ok__law_far (x : Fx K mg) (c__law_sip : FnB P w K mg base 1 d__law_sip ["_law_flask_here", "_law_top"] 2 den__law_sip) (c__law_pick : FnB P w K mg base 2 d__law_pick ["_law_flask_here", "_law_menu"] 2 den__law_pick) (D : ∃ fd, FunD K d__law_far.name d__law_far.qual d__law_far.params d__law_far.body d__law_far.scope (d__law_far.dvs K) (d__law_far.kws K) (d__law_far.at_ K) fd) : FnB P w K mg base 3 d__law_far ["_law_flask_here", "_law_most"] 2 den__law_far := by
  refine fnB_of (k := 2) D sc__law_far rfl rfl fun cdv A outer s H E G => ?_
  unfold b__law_far
  exact (sb_cons (ss_if (st_cmp op_le v_le b_I (se_var 1) (se_bin op_pow v_pow se_int se_int)) (sb_one (ss_ret (se_bin op_addA v_add se_int (se_callD [true, false] c__law_sip.up bd__law_sip G rfl x.glo__law_sip (sa_cons (se_var 0) (sa_cons (se_var 1) sa_nil)))))) sb_nil) (sb_cons (ss_set 2 G (se_callD [true, false] c__law_pick.up bd__law_pick G rfl x.glo__law_pick (sa_cons (se_var 0) (sa_cons (se_lst (sa_cons se_int (sa_cons se_int (sa_cons (se_bin op_pow v_pow se_int se_int) (sa_cons (se_bin op_pow v_pow se_int se_int) (sa_cons (se_bin op_pow v_pow se_int se_int) (sa_cons (se_bin op_pow v_pow se_int se_int) (sa_cons (se_bin op_pow v_pow se_int se_int) (sa_cons (se_bin op_pow v_pow se_int se_int) sa_nil))))))))) sa_nil)))) (sb_one (ss_ret (se_bin op_addA v_add se_int (se_bin op_mod v_mod (se_callT call_int1 v_int rfl x.free_int (sa_cons (se_bin op_addA v_add (se_bin op_mulP v_mul (se_callD [true, false] c__law_sip.up bd__law_sip G rfl x.glo__law_sip (sa_cons (se_var 0) (sa_cons (se_bin op_pow v_pow se_int se_int) sa_nil))) (se_var 2)) (se_callD [true, false] c__law_sip.up bd__law_sip G rfl x.glo__law_sip (sa_cons (se_var 0) (sa_cons se_int sa_nil)))) sa_nil)) (se_var 1)))))))
theorem bd__law_plan : BindD d__law_plan ["_law_flask_here", "_law_most_step"] := ⟨rfl, rfl, fun _ _ _ _ _ _ us hl => match us, hl with | [_, _], _ => rfl⟩
theorem sc__law_plan : FnScope ["_law_flask_here", "_law_most_step", "_law_grid", "_law_free"] ["_law_flask_here", "_law_most_step"] d__law_plan.scope := ⟨rfl, rfl, rfl, by decide +kernel, rfl, by decide +kernel, by decide +kernel⟩
theorem ok__law_plan (x : Fx K mg) (c__law_pick : FnB P w K mg base 2 d__law_pick ["_law_flask_here", "_law_menu"] 2 den__law_pick) (c__law_far : FnB P w K mg base 3 d__law_far ["_law_flask_here", "_law_most"] 2 den__law_far) (c__law_sip : FnB P w K mg base 1 d__law_sip ["_law_flask_here", "_law_top"] 2 den__law_sip) (D : ∃ fd, FunD K d__law_plan.name d__law_plan.qual d__law_plan.params d__law_plan.body d__law_plan.scope (d__law_plan.dvs K) (d__law_plan.kws K) (d__law_plan.at_ K) fd) : FnB P w K mg base 4 d__law_plan ["_law_flask_here", "_law_most_step"] 2 den__law_plan := by
  refine fnB_of (k := 3) D sc__law_plan rfl rfl fun cdv A outer s H E G => ?_
  unfold b__law_plan
  exact (sb_cons (ss_set 2 G (se_callD [true, false] c__law_pick.up bd__law_pick G rfl x.glo__law_pick (sa_cons (se_var 0) (sa_cons (se_lst (sa_cons se_int (sa_cons se_int (sa_cons se_int (sa_cons se_int (sa_cons (se_callD [true, false] c__law_far.up bd__law_far G rfl x.glo__law_far (sa_cons (se_var 0) (sa_cons (se_var 1) sa_nil))) sa_nil)))))) sa_nil)))) (sb_cons (ss_set 3 G (se_bin op_addA v_add (se_var 2) (se_callD [true, false] c__law_pick.up bd__law_pick G rfl x.glo__law_pick (sa_cons (se_var 0) (sa_cons (se_lst (sa_cons se_int (sa_cons se_int (sa_cons se_int (sa_cons se_int (sa_cons (se_callD [true, false] c__law_sip.up bd__law_sip G rfl x.glo__law_sip (sa_cons (se_var 0) (sa_cons (se_bin op_addA v_add (se_bin op_mulP v_mul se_int (se_callB (call_min2 G.calm) v_min2 rfl x.free_min (sa_cons (se_var 2) (sa_cons (se_bin op_pow v_pow se_int se_int) sa_nil)))) se_int) sa_nil))) sa_nil)))))) sa_nil))))) (sb_one (ss_ret (se_lst (sa_cons (se_var 2) (sa_cons (se_callD [true, false] c__law_pick.up bd__law_pick G rfl x.glo__law_pick (sa_cons (se_var 0) (sa_cons (se_lst (sa_cons se_str (sa_cons se_str (sa_cons se_str sa_nil)))) sa_nil))) (sa_cons (se_var 3) (sa_cons (se_callD [true, false] c__law_pick.up bd__law_pick G rfl x.glo__law_pick (sa_cons (se_var 0) (sa_cons (se_lst (sa_cons se_int (sa_cons se_int (sa_cons se_int (sa_cons se_int (sa_cons se_int sa_nil)))))) sa_nil))) sa_nil)))))))))
theorem bd_Rule____eq__ : BindD d_Rule____eq__ ["self", "other"] := ⟨rfl, rfl, fun _ _ _ _ _ _ us hl => match us, hl with | [_, _], _ => rfl⟩
theorem sc_Rule____eq__ : FnScope ["self", "other"] ["self", "other"] d_Rule____eq__.scope := ⟨rfl, rfl, rfl, by decide +kernel, rfl, by decide +kernel, by decide +kernel⟩
theorem ok_Rule____eq__ (x : Fx K mg)  (D : ∃ fd, FunD K d_Rule____eq__.name d_Rule____eq__.qual d_Rule____eq__.params d_Rule____eq__.body d_Rule____eq__.scope (d_Rule____eq__.dvs K) (d_Rule____eq__.kws K) (d_Rule____eq__.at_ K) fd) : FnB P w K mg base 1 d_Rule____eq__ ["self", "other"] 2 den_Rule____eq__ := by
  refine fnB_of (k := 0) D sc_Rule____eq__ rfl rfl fun cdv A outer s H E G => ?_
  unfold b_Rule____eq__
  exact (sb_one (ss_ret (se_and (se_callB call_isi (v_isi x.isi) rfl x.free_isinstance (sa_cons (se_var 1) (sa_cons (se_glo rfl x.glo_Rule) sa_nil))) (se_one (se_cmp (op_eqA G.room.units) v_eq (se_get x.cls_Rule x.noat_Rule_parts (se_var 0)) (se_get x.cls_Rule x.noat_Rule_parts (se_var 1)))))))
theorem bd__law_right_k03 : BindD d__law_right_k03 ["_law_flask_here"] := ⟨rfl, rfl, fun _ _ _ _ _ _ us hl => match us, hl with | [_], _ => rfl⟩
theorem sc__law_right_k03 : FnScope ["_law_flask_here", "_law_turn", "_law_line", "_law_found", "_law_due"] ["_law_flask_here"] d__law_right_k03.scope := ⟨rfl, rfl, rfl, by decide +kernel, rfl, by decide +kernel, by decide +kernel⟩
theorem ok__law_right_k03 (x : Fx K mg) (c__law_bent_k03 : FnB P w K mg base 7 d__law_bent_k03 ["_law_flask_here", "_law_plan_here"] 2 den__law_bent_k03) (c__law_plan : FnB P w K mg base 4 d__law_plan ["_law_flask_here", "_law_most_step"] 2 den__law_plan) (c__law_read : FnB P w K mg base 2 d__law_read ["_law_line"] 1 den__law_read) (c_Rule__read : FnB P w K mg base 6 d_Rule__read ["cls", "text"] 2 den_Rule__read) (c__law_made_k03 : FnB P w K mg base 6 d__law_made_k03 ["_law_plan_here"] 1 den__law_made_k03) (c_Rule____eq__ : FnB P w K mg base 1 d_Rule____eq__ ["self", "other"] 2 den_Rule____eq__) (tone : TabOne K) (tb : TabsB K mg base) (er : ErrD K) (D : ∃ fd, FunD K d__law_right_k03.name d__law_right_k03.qual d__law_right_k03.params d__law_right_k03.body d__law_right_k03.scope (d__law_right_k03.dvs K) (d__law_right_k03.kws K) (d__law_right_k03.at_ K) fd) : FnB P w K mg base 9 d__law_right_k03 ["_law_flask_here"] 1 den__law_right_k03 := by
  refine fnB_ofL (k := 8) D sc__law_right_k03 rfl rfl x.tab__law_right tb tone fun cdv La A outer s H E G => ?_
  unfold b__law_right_k03
  exact (sb_cons (ss_for (ws := [1]) G (si_rng1 rfl x.free_range se_int) (sg_name 1 G.nd) (sb_cons (ss_set 2 G (se_callD [true, false] c__law_bent_k03.up bd__law_bent_k03 G rfl x.glo__law_bent (sa_cons (se_var 0) (sa_cons (se_callD [true, false] c__law_plan.up bd__law_plan G rfl x.glo__law_plan (sa_cons (se_var 0) (sa_cons (se_bin op_pow v_pow se_int se_int) sa_nil))) sa_nil)))) (sb_cons (ss_par 3 4 false G (sa_cons (se_err (k := 6) x er rfl La rfl rfl G (by show LamX.lamSB d__law_right_k03.scope _ = true; decide +kernel) rfl (fun _ _ _ _ _ => rfl) (fun A outer s H E f c' Gl => (se_cmethD (d := d_Rule__read) [false, false] (se_glo rfl x.glo_Rule) (cm_ok x.cm_Rule_read) rfl c_Rule__read.up bd_Rule__read Gl (sa_cons (se_var 2) sa_nil)))) (sa_cons (se_callD [false] c__law_read.up bd__law_read G rfl x.glo__law_read (sa_cons (se_var 2) sa_nil)) sa_nil))) (sb_cons (ss_if (st_w (sw_and (st_cmp (op_eqA G.room.units) v_eq b_eq (se_var 4) (se_lst sa_nil)) (sw_and1 (st_cmp (op_neA G.room.units) v_ne b_ne (se_callB (c_reprR (sysB_ok x.sysm) G.room G.gd) v_reprR rfl x.free_repr (sa_cons (se_var 3) sa_nil)) (se_callB (c_reprR (sysB_ok x.sysm) G.room G.gd) v_reprR rfl x.free_repr (sa_cons (se_lst (sa_cons se_str (sa_cons (se_var 2) sa_nil))) sa_nil)))))) (sb_one (ss_ret se_bl)) sb_nil) (sb_one (ss_if (st_w (sw_and (st_cmp (op_neA G.room.units) v_ne b_ne (se_var 4) (se_lst sa_nil)) (sw_and1 (st_w (sw_or (st_cmp (op_neA G.room.units) v_ne b_ne (se_ix (se_var 3) se_int) se_str) (sw_or (st_neO (k := 7) (d := d_Rule____eq__) (se_ix (se_var 3) se_int) (se_callD [false] c__law_made_k03.up bd__law_made_k03 G rfl x.glo__law_made (sa_cons (se_var 4) sa_nil)) x.meth_Rule___eq__ (ne_of x.neB_Rule) c_Rule____eq__.up bd_Rule____eq__ G) (sw_or1 (st_neO (k := 7) (d := d_Rule____eq__) (se_cmethDK (d := d_Rule__read) [false, false] [0] (se_glo rfl x.glo_Rule) (cm_ok x.cm_Rule_read) rfl c_Rule__read.up bk_Rule__read_1_text G (sk_cons (se_var 2) sk_nil)) (se_callD [false] c__law_made_k03.up bd__law_made_k03 G rfl x.glo__law_made (sa_cons (se_var 4) sa_nil)) x.meth_Rule___eq__ (ne_of x.neB_Rule) c_Rule____eq__.up bd_Rule____eq__ G)))))))) (sb_one (ss_ret se_bl)) sb_nil)))))) (sb_one (ss_ret se_bl)))
theorem bd__law_flask : BindD d__law_flask ["_law_script", "_law_turn"] := ⟨rfl, rfl, fun _ _ _ _ _ _ us hl => match us, hl with | [_, _], _ => rfl⟩
theorem sc__law_flask : FnScope ["_law_script", "_law_turn", "_law_entry", "_law_stirred", "_law_each"] ["_law_script", "_law_turn"] d__law_flask.scope := ⟨rfl, rfl, rfl, by decide +kernel, rfl, by decide +kernel, by decide +kernel⟩
theorem ok__law_flask (x : Fx K mg)  (D : ∃ fd, FunD K d__law_flask.name d__law_flask.qual d__law_flask.params d__law_flask.body d__law_flask.scope (d__law_flask.dvs K) (d__law_flask.kws K) (d__law_flask.at_ K) fd) : FnB P w K mg base 1 d__law_flask ["_law_script", "_law_turn"] 2 den__law_flask := by
  refine fnB_of (k := 0) D sc__law_flask rfl rfl fun cdv A outer s H E G => ?_
  unfold b__law_flask
  exact (sb_cons (ss_set 2 G (se_ifE (st_cmp op_lt v_lt b_I (se_var 1) (se_callB c_len v_len rfl x.free_len (sa_cons (se_var 0) sa_nil))) (se_callT call_int1 v_int rfl x.free_int (sa_cons (se_ix (se_var 0) (se_var 1)) sa_nil)) (se_bin op_addA v_add (se_bin op_mulP v_mul se_int (se_var 1)) se_int))) (sb_cons (ss_set 3 G (se_bin op_addA v_add se_int (se_bin op_mulP v_mul se_int (se_var 1)))) (sb_cons (ss_for (ws := [4]) G (si_seq (se_slice (se_var 0) so_none (so_some se_int))) (sg_name 4 G.nd) (sb_one (ss_set 3 G (se_bin op_mod v_mod (se_callT call_int1 v_int rfl x.free_int (sa_cons (se_bin op_addA v_add (se_bin op_addA v_add (se_bin op_mulP v_mul (se_var 3) se_int) (se_bin op_mod v_mod (se_callT call_int1 v_int rfl x.free_int (sa_cons (se_var 4) sa_nil)) se_int)) (se_var 1)) sa_nil)) se_int)))) (sb_cons (ss_set 3 G (se_bin op_mod v_mod (se_callT call_int1 v_int rfl x.free_int (sa_cons (se_bin op_addA v_add (se_bin op_mulP v_mul (se_var 3) se_int) (se_bin op_mod v_mod (se_callT call_int1 v_int rfl x.free_int (sa_cons (se_var 2) sa_nil)) se_int)) sa_nil)) se_int)) (sb_one (ss_ret (se_lst (sa_cons (se_ifE (st_cmp op_ge v_ge b_I (se_callB call_abs v_abs rfl x.free_abs (sa_cons (se_var 2) sa_nil)) (se_bin op_pow v_pow se_int se_int)) (se_callB call_abs v_abs rfl x.free_abs (sa_cons (se_var 2) sa_nil)) se_int) (sa_cons (se_var 3) (sa_cons se_int sa_nil))))))))))
theorem bd_law_k03 : BindD d_law_k03 ["_law_script"] := ⟨rfl, rfl, fun _ _ _ _ _ _ us hl => match us, hl with | [_], _ => rfl⟩
theorem sc_law_k03 : FnScope ["_law_script", "_law_good", "_law_wrong", "_law_line", "_law_turn"] ["_law_script"] d_law_k03.scope := ⟨rfl, rfl, rfl, by decide +kernel, rfl, by decide +kernel, by decide +kernel⟩
theorem ok_law_k03 (x : Fx K mg) (c_Rule__read : FnB P w K mg base 6 d_Rule__read ["cls", "text"] 2 den_Rule__read) (c_Rule__text : FnB P w K mg base 3 d_Rule__text ["self"] 1 den_Rule__text) (c__law_read : FnB P w K mg base 2 d__law_read ["_law_line"] 1 den__law_read) (c__law_right_k03 : FnB P w K mg base 9 d__law_right_k03 ["_law_flask_here"] 1 den__law_right_k03) (c__law_flask : FnB P w K mg base 1 d__law_flask ["_law_script", "_law_turn"] 2 den__law_flask) (tone : TabOne K) (tb : TabsB K mg base) (er : ErrD K) (D : ∃ fd, FunD K d_law_k03.name d_law_k03.qual d_law_k03.params d_law_k03.body d_law_k03.scope (d_law_k03.dvs K) (d_law_k03.kws K) (d_law_k03.at_ K) fd) : FnB P w K mg base 10 d_law_k03 ["_law_script"] 1 den_law_k03 := by
  refine fnB_ofL (k := 9) D sc_law_k03 rfl rfl x.tab_law tb tone fun cdv La A outer s H E G => ?_
  unfold b_law_k03
  exact (sb_cons (ss_set 1 G (se_lst (sa_cons se_str (sa_cons se_str (sa_cons se_str sa_nil))))) (sb_cons (ss_set 2 G (se_lst (sa_cons se_str (sa_cons se_str (sa_cons se_str (sa_cons se_str (sa_cons se_str sa_nil))))))) (sb_cons (ss_set 2 G (se_bin op_addA v_add (se_var 2) (se_lst (sa_cons se_str (sa_cons se_str (sa_cons se_str (sa_cons se_str sa_nil))))))) (sb_cons (ss_if (st_cmp (op_neA G.room.units) v_ne b_ne (se_comp (own := [("_law_line", 3)]) G.calm G.nd (si_seq (se_var 1)) (blkOk_by (by first | (show blkC ["_law_script", "_law_good", "_law_wrong", "_law_line", "_law_turn"] d_law_k03.scope _ _ = true; decide +kernel) | kernel_rfl)) (fun _ _ _ _ _ => (sg_name 3 G.blk.nd)) (fun _ _ _ _ _ => sts_nil) (fun _ _ _ _ _ => (se_propD (k := 8) (d := d_Rule__text) (se_cmethD (d := d_Rule__read) [false, false] (se_glo rfl x.glo_Rule) (cm_ok x.cm_Rule_read) rfl c_Rule__read.up bd_Rule__read G.blk (sa_cons (se_var 3) sa_nil)) x.cls_Rule x.prop_Rule_text c_Rule__text.up bd_Rule__text G.blk))) (se_var 1)) (sb_one (ss_ret se_bl)) sb_nil) (sb_cons (ss_for (ws := [3]) G (si_seq (se_bin op_addA v_add (se_var 2) (se_lst (sa_cons se_non (sa_cons se_int (sa_cons (se_tup (sa_cons se_str sa_nil)) sa_nil)))))) (sg_name 3 G.nd) (sb_one (ss_if (st_w (sw_or (st_cmp (op_neA G.room.units) v_ne b_ne (se_callB (c_repr G.room G.gd) v_repr rfl x.free_repr (sa_cons (se_err (k := 7) x er rfl La rfl rfl G (by show LamX.lamSB d_law_k03.scope _ = true; decide +kernel) rfl (fun _ _ _ _ _ => rfl) (fun A outer s H E f c' Gl => (se_cmethDK (d := d_Rule__read) [false, false] [0] (se_glo rfl x.glo_Rule) (cm_ok x.cm_Rule_read) rfl c_Rule__read.up bk_Rule__read_1_text Gl (sk_cons (se_var 3) sk_nil)))) sa_nil)) (se_callB (c_repr G.room G.gd) v_repr rfl x.free_repr (sa_cons (se_lst (sa_cons se_str (sa_cons (se_var 3) sa_nil))) sa_nil))) (sw_or1 (st_cmp (op_neA G.room.units) v_ne b_ne (se_callD [false] c__law_read.up bd__law_read G rfl x.glo__law_read (sa_cons (se_var 3) sa_nil)) (se_lst sa_nil))))) (sb_one (ss_ret se_bl)) sb_nil))) (sb_one (ss_ret (se_callB (cr_all G.calm) v_all rfl x.free_all (sa_cons (se_comp (own := [("_law_turn", 4)]) G.calm G.nd (si_rng1 rfl x.free_range (se_callB (call_max2 G.calm) v_max2 rfl x.free_max (sa_cons se_int (sa_cons (se_callB (call_min2 G.calm) v_min2 rfl x.free_min (sa_cons (se_callB c_len v_len rfl x.free_len (sa_cons (se_var 0) sa_nil)) (sa_cons se_int sa_nil))) sa_nil)))) (blkOk_by (by first | (show blkC ["_law_script", "_law_good", "_law_wrong", "_law_line", "_law_turn"] d_law_k03.scope _ _ = true; decide +kernel) | kernel_rfl)) (fun _ _ _ _ _ => (sg_name 4 G.blk.nd)) (fun _ _ _ _ _ => sts_nil) (fun _ _ _ _ _ => (se_callD [true] c__law_right_k03.up bd__law_right_k03 G.blk rfl x.glo__law_right (sa_cons (se_callD [false, false] c__law_flask.up bd__law_flask G.blk rfl x.glo__law_flask (sa_cons (se_var 0) (sa_cons (se_var 4) sa_nil))) sa_nil)))) sa_nil)))))))))
theorem all_ok {h : Heap} (X : K.In h) (Gm : h.Ns mainGlobals mg) (c : SaysP fa fn fy K) (tone : TabOne K) (tb : TabsB K mg base) : FnB P w K mg base 10 d_law_k03 ["_law_script"] 1 den_law_k03 := by
  have x := fx_of X Gm c
  have er : ErrD K := ⟨c.a.def_ 23 (d := d__law_error) rfl, c.a.def_ 24 (d := d__law_class) rfl, c.a.def_ 25 (d := d__law_field) rfl⟩
  have i_InvalidText := ini_InvalidText (P := P) (w := w) (base := base) x (c.a.def_ 26 (d := d_InvalidText____init__) rfl)
  have i_InvalidNumber := ini_InvalidNumber (P := P) (w := w) (base := base) x (c.a.def_ 27 (d := d_InvalidNumber____init__) rfl)
  have i_InvalidSetting := ini_InvalidSetting (P := P) (w := w) (base := base) x (c.a.def_ 28 (d := d_InvalidSetting____init__) rfl)
  have c_number_in := ok_number_in (P := P) (w := w) (base := base) x  (c.a.def_ 0 (d := d_number_in) rfl)
  have c_is_integer := ok_is_integer (P := P) (w := w) (base := base) x  (c.a.def_ 1 (d := d_is_integer) rfl)
  have c_is_between := ok_is_between (P := P) (w := w) (base := base) x c_is_integer (c.a.def_ 2 (d := d_is_between) rfl)
  have c_check_number_k02 := ok_check_number_k02 (P := P) (w := w) (base := base) x c_is_between i_InvalidNumber (c.a.def_ 3 (d := d_check_number_k02) rfl)
  have c_Rule____init___k02 := ok_Rule____init___k02 (P := P) (w := w) (base := base) x c_check_number_k02 i_InvalidSetting (c.a.def_ 4 (d := d_Rule____init___k02) rfl)
  have c_Rule__read := ok_Rule__read (P := P) (w := w) (base := base) x c_number_in c_Rule____init___k02 i_InvalidText (c.a.def_ 5 (d := d_Rule__read) rfl)
  have c_Rule__step := ok_Rule__step (P := P) (w := w) (base := base) x  (c.a.def_ 6 (d := d_Rule__step) rfl)
  have c_Rule__setting := ok_Rule__setting (P := P) (w := w) (base := base) x  (c.a.def_ 7 (d := d_Rule__setting) rfl)
  have c_Rule__pause := ok_Rule__pause (P := P) (w := w) (base := base) x  (c.a.def_ 8 (d := d_Rule__pause) rfl)
  have c_Rule__text := ok_Rule__text (P := P) (w := w) (base := base) x c_Rule__step c_Rule__setting c_Rule__pause (c.a.def_ 9 (d := d_Rule__text) rfl)
  have c__law_figure := ok__law_figure (P := P) (w := w) (base := base) x  (c.a.def_ 10 (d := d__law_figure) rfl)
  have c__law_read := ok__law_read (P := P) (w := w) (base := base) x c__law_figure (c.a.def_ 11 (d := d__law_read) rfl)
  have c__law_sip := ok__law_sip (P := P) (w := w) (base := base) x  (c.a.def_ 12 (d := d__law_sip) rfl)
  have c__law_made_k03 := ok__law_made_k03 (P := P) (w := w) (base := base) x c_Rule____init___k02 (c.a.def_ 13 (d := d__law_made_k03) rfl)
  have c__law_pick := ok__law_pick (P := P) (w := w) (base := base) x c__law_sip (c.a.def_ 14 (d := d__law_pick) rfl)
  have c__law_odd := ok__law_odd (P := P) (w := w) (base := base) x c__law_sip (c.a.def_ 15 (d := d__law_odd) rfl)
  have c__law_bent_k03 := ok__law_bent_k03 (P := P) (w := w) (base := base) x c__law_sip c__law_made_k03 c_Rule__text c__law_pick c__law_odd (c.a.def_ 16 (d := d__law_bent_k03) rfl)
  have c__law_far := ok__law_far (P := P) (w := w) (base := base) x c__law_sip c__law_pick (c.a.def_ 17 (d := d__law_far) rfl)
  have c__law_plan := ok__law_plan (P := P) (w := w) (base := base) x c__law_pick c__law_far c__law_sip (c.a.def_ 18 (d := d__law_plan) rfl)
  have c_Rule____eq__ := ok_Rule____eq__ (P := P) (w := w) (base := base) x  (c.a.def_ 19 (d := d_Rule____eq__) rfl)
  have c__law_right_k03 := ok__law_right_k03 (P := P) (w := w) (base := base) x c__law_bent_k03 c__law_plan c__law_read c_Rule__read c__law_made_k03 c_Rule____eq__ tone tb er (c.a.def_ 20 (d := d__law_right_k03) rfl)
  have c__law_flask := ok__law_flask (P := P) (w := w) (base := base) x  (c.a.def_ 21 (d := d__law_flask) rfl)
  have c_law_k03 := ok_law_k03 (P := P) (w := w) (base := base) x c_Rule__read c_Rule__text c__law_read c__law_right_k03 c__law_flask tone tb er (c.a.def_ 22 (d := d_law_k03) rfl)
  exact c_law_k03
end
def fnLaw : Nat := 22
theorem law_at {K : PySem.W.Frag} {h : Heap} {mg : Str → Option Value} (X : K.In h) (G : h.Ns mainGlobals mg) (c : SaysP fa fn fy K) : mg "law" = some (.ref (He.ga K "law")) := (fx_of X G c).glo_law
end Pu.Q
local macro_rules
  | `(tactic| simp_arith [$xs,*]) => `(tactic| simp (disch := first | omega | rfl) only [↓Pu.ok_d1, ↓Pu.ok_d2, ↓Pu.ok_d3, ↓Pu.ok_d4, ↓Pu.ok_d5, ↓Pu.ok_d6, ↓Pu.ok_d7, ↓Pu.ok_bind, ↓Pu.ok_ret, ↓Pu.ok_bad, ↓Pu.ok_mV, ↓Pu.ok_rdD, ↓Pu.ok_rdT, ↓Pu.ok_dtD, ↓Pu.ok_dtT, ↓Pu.ok_rds0, ↓Pu.ok_rdsC, ↓Pu.ok_dts0, ↓Pu.ok_dtsC, ↓Pu.ok_nil, ↓Pu.ok_cons, ↓Pu.ok_bin, ↓Pu.ok_cb, ↓Pu.ok_tup, ↓Pu.ok_lst, ↓Pu.ok_tru, ↓Pu.ok_truB, ↓Pu.ok_truI, ↓Pu.ok_truN, ↓Pu.ok_truL, ↓Pu.ok_truT, ↓Pu.ok_and, ↓Pu.ok_or, ↓Pu.ok_not, ↓Pu.ok_ifE, ↓Pu.ok_andV, ↓Pu.ok_orV, ↓Pu.ok_notV, ↓Pu.ok_neg, ↓Pu.ok_chain, ↓Pu.ok_seq, ↓Pu.ok_skip, ↓Pu.ok_retS, ↓Pu.ok_retN, ↓Pu.ok_bk, ↓Pu.ok_ct, ↓Pu.ok_ex1, ↓Pu.ok_if, ↓Pu.ok_set, ↓Pu.ok_setP, ↓Pu.ok_asg, ↓Pu.ok_gN, ↓Pu.ok_gsN, ↓Pu.ok_gsC, ↓Pu.ok_gT, ↓Pu.ok_gTL, ↓Pu.ok_gSb, ↓Pu.ok_par, ↓Pu.ok_put, ↓Pu.ok_get, ↓Pu.ok_run, ↓Pu.ok_call, ↓Pu.ok_callK, ↓Pu.ok_callKD, ↓Pu.ok_make, ↓Pu.ok_prop, ↓Pu.ok_for, ↓Pu.ok_items, ↓Pu.ok_rng1, ↓Pu.ok_rng2, ↓Pu.ok_comp, ↓Pu.ok_yes, ↓Pu.ok_compS0, ↓Pu.ok_compSC, Pu.wipeE, ↓Pu.ok_sl, ↓Pu.ok_noP, ↓Pu.ok_pt, ↓Pu.ok_slL, ↓Pu.ok_slT, ↓Pu.ok_rep, ↓Pu.ok_app, ↓Pu.ok_oSub, ↓Pu.ok_oMul, ↓Pu.ok_oDiv, ↓Pu.ok_oMod, ↓Pu.ok_oPow, ↓Pu.ok_oLt, ↓Pu.ok_oLe, ↓Pu.ok_oGt, ↓Pu.ok_oGe, ↓Pu.ok_oAdd, ↓Pu.ok_oAddL, ↓Pu.ok_oAddT, ↓Pu.ok_oAddI, ↓Pu.ok_oEqI, ↓Pu.ok_oEqL, ↓Pu.ok_oEqT, ↓Pu.ok_oEqB, ↓Pu.ok_oEqN, ↓Pu.ok_oEqS, ↓Pu.ok_oNeI, ↓Pu.ok_oNeL, ↓Pu.ok_oNeT, ↓Pu.ok_oNeB, ↓Pu.ok_oNeN, ↓Pu.ok_oNeS, ↓Pu.ok_oIs, ↓Pu.ok_oIsN, ↓Pu.ix_0, ↓Pu.ix_1, ↓Pu.ix_2, ↓Pu.ix_3, ↓Pu.ix_4, ↓Pu.it_0, ↓Pu.it_1, ↓Pu.it_2, ↓Pu.it_3, Pu.ixn_0, Pu.ixn_1, Pu.ixn_2, ↓Pu.ok_len, ↓Pu.ok_lenT, ↓Pu.ok_absI, ↓Pu.ok_intI, ↓Pu.ok_max2, ↓Pu.ok_min2, ↓Pu.ok_max3, ↓Pu.ok_min3, ↓Pu.ok_dm, ↓Pu.ok_repr, Pu.argsE, Pu.backE, Pu.outE, Pu.M.dt, List.getElem?_cons_zero, List.getElem?_cons_succ, List.set_cons_zero, List.set_cons_succ, List.take_succ_cons, List.take_zero, List.replicate_zero, List.replicate_succ, List.append_nil, List.nil_append, List.cons_append, List.length_cons, List.length_nil, Nat.sub_self, Nat.reduceSub, Nat.reduceAdd, Nat.reduceLeDiff, decide_true, decide_false, reduceCtorEq, Pu.noBor, Pu.setsE, Pu.slotOf, Pu.setsS, Pu.putFs, Pu.putVs, Pu.lookV, Pu.sel, Pu.isNon, Bool.not_true, Bool.not_false, Bool.not_eq_true, decide_eq_true_eq, decide_eq_false_iff_not, Bool.true_eq_false, Bool.false_eq_true, false_implies, true_implies, and_true, true_and, not_true_eq_false, not_false_eq_true, and_self, implies_true, or_false, false_or, List.flatten_cons, List.flatten_nil, true_or, or_true, Int.sub_zero, eq_self, Pu.veq_int, Pu.veq_str, Pu.cMod, Pu.cDiv, Pu.cPow, Pu.cMul_r, Pu.cMul_l, Pu.strq, String.reduceEq, Pu.sz, Pu.szl, Pu.dOk_int, Pu.dOk_bl, Pu.dOk_non, if_true, if_false, Int.reducePow, Int.reduceToNat, Int.reduceMul, Int.reduceAdd, Int.reduceSub, Int.reduceNeg, Int.reduceLT, Int.reduceLE, Int.reduceGT, Int.reduceEq, gt_iff_lt, ge_iff_le, Nat.reducePow, Nat.reduceMul, Nat.reduceLT, Int.cast_ofNat_Int, false_and, and_false, Bool.and_true, Bool.true_and, Bool.and_false, Bool.false_and, Bool.or_true, Bool.true_or, Bool.or_false, Bool.false_or, ↓Pu.vD_0, ↓Pu.vO_0, ↓Pu.rD_0, ↓Pu.rO_0, ↓Pu.kD_0, ↓Pu.kO_0, ↓Pu.vD_1, ↓Pu.vO_1, ↓Pu.rD_1, ↓Pu.rO_1, ↓Pu.kD_1, ↓Pu.kO_1, ↓Pu.vD_2, ↓Pu.vO_2, ↓Pu.rD_2, ↓Pu.rO_2, ↓Pu.kD_2, ↓Pu.kO_2, ↓Pu.vD_3, ↓Pu.vO_3, ↓Pu.rD_3, ↓Pu.rO_3, ↓Pu.kD_3, ↓Pu.kO_3, ↓Pu.vD_4, ↓Pu.vO_4, ↓Pu.rD_4, ↓Pu.rO_4, ↓Pu.kD_4, ↓Pu.kO_4, ↓Pu.vD_5, ↓Pu.vO_5, ↓Pu.rD_5, ↓Pu.rO_5, ↓Pu.kD_5, ↓Pu.kO_5, ↓Pu.vD_6, ↓Pu.vO_6, ↓Pu.rD_6, ↓Pu.rO_6, ↓Pu.kD_6, ↓Pu.kO_6, ↓Pu.vD_7, ↓Pu.vO_7, ↓Pu.rD_7, ↓Pu.rO_7, ↓Pu.kD_7, ↓Pu.kO_7, ↓Pu.vD_8, ↓Pu.vO_8, ↓Pu.rD_8, ↓Pu.rO_8, ↓Pu.kD_8, ↓Pu.kO_8, ↓Pu.vD_9, ↓Pu.vO_9, ↓Pu.rD_9, ↓Pu.rO_9, ↓Pu.kD_9, ↓Pu.kO_9, ↓Pu.vD_10, ↓Pu.vO_10, ↓Pu.rD_10, ↓Pu.rO_10, ↓Pu.kD_10, ↓Pu.kO_10, ↓Pu.vD_11, ↓Pu.vO_11, ↓Pu.rD_11, ↓Pu.rO_11, ↓Pu.kD_11, ↓Pu.kO_11, ↓Pu.vD_12, ↓Pu.vO_12, ↓Pu.rD_12, ↓Pu.rO_12, ↓Pu.kD_12, ↓Pu.kO_12, ↓Pu.vD_13, ↓Pu.vO_13, ↓Pu.rD_13, ↓Pu.rO_13, ↓Pu.kD_13, ↓Pu.kO_13, ↓Pu.vD_14, ↓Pu.vO_14, ↓Pu.rD_14, ↓Pu.rO_14, ↓Pu.kD_14, ↓Pu.kO_14, ↓Pu.vD_15, ↓Pu.vO_15, ↓Pu.rD_15, ↓Pu.rO_15, ↓Pu.kD_15, ↓Pu.kO_15, $xs,*])
  | `(tactic| simp_arith) => `(tactic| simp (disch := first | omega | rfl) only [↓Pu.ok_d1, ↓Pu.ok_d2, ↓Pu.ok_d3, ↓Pu.ok_d4, ↓Pu.ok_d5, ↓Pu.ok_d6, ↓Pu.ok_d7, ↓Pu.ok_bind, ↓Pu.ok_ret, ↓Pu.ok_bad, ↓Pu.ok_mV, ↓Pu.ok_rdD, ↓Pu.ok_rdT, ↓Pu.ok_dtD, ↓Pu.ok_dtT, ↓Pu.ok_rds0, ↓Pu.ok_rdsC, ↓Pu.ok_dts0, ↓Pu.ok_dtsC, ↓Pu.ok_nil, ↓Pu.ok_cons, ↓Pu.ok_bin, ↓Pu.ok_cb, ↓Pu.ok_tup, ↓Pu.ok_lst, ↓Pu.ok_tru, ↓Pu.ok_truB, ↓Pu.ok_truI, ↓Pu.ok_truN, ↓Pu.ok_truL, ↓Pu.ok_truT, ↓Pu.ok_and, ↓Pu.ok_or, ↓Pu.ok_not, ↓Pu.ok_ifE, ↓Pu.ok_andV, ↓Pu.ok_orV, ↓Pu.ok_notV, ↓Pu.ok_neg, ↓Pu.ok_chain, ↓Pu.ok_seq, ↓Pu.ok_skip, ↓Pu.ok_retS, ↓Pu.ok_retN, ↓Pu.ok_bk, ↓Pu.ok_ct, ↓Pu.ok_ex1, ↓Pu.ok_if, ↓Pu.ok_set, ↓Pu.ok_setP, ↓Pu.ok_asg, ↓Pu.ok_gN, ↓Pu.ok_gsN, ↓Pu.ok_gsC, ↓Pu.ok_gT, ↓Pu.ok_gTL, ↓Pu.ok_gSb, ↓Pu.ok_par, ↓Pu.ok_put, ↓Pu.ok_get, ↓Pu.ok_run, ↓Pu.ok_call, ↓Pu.ok_callK, ↓Pu.ok_callKD, ↓Pu.ok_make, ↓Pu.ok_prop, ↓Pu.ok_for, ↓Pu.ok_items, ↓Pu.ok_rng1, ↓Pu.ok_rng2, ↓Pu.ok_comp, ↓Pu.ok_yes, ↓Pu.ok_compS0, ↓Pu.ok_compSC, Pu.wipeE, ↓Pu.ok_sl, ↓Pu.ok_noP, ↓Pu.ok_pt, ↓Pu.ok_slL, ↓Pu.ok_slT, ↓Pu.ok_rep, ↓Pu.ok_app, ↓Pu.ok_oSub, ↓Pu.ok_oMul, ↓Pu.ok_oDiv, ↓Pu.ok_oMod, ↓Pu.ok_oPow, ↓Pu.ok_oLt, ↓Pu.ok_oLe, ↓Pu.ok_oGt, ↓Pu.ok_oGe, ↓Pu.ok_oAdd, ↓Pu.ok_oAddL, ↓Pu.ok_oAddT, ↓Pu.ok_oAddI, ↓Pu.ok_oEqI, ↓Pu.ok_oEqL, ↓Pu.ok_oEqT, ↓Pu.ok_oEqB, ↓Pu.ok_oEqN, ↓Pu.ok_oEqS, ↓Pu.ok_oNeI, ↓Pu.ok_oNeL, ↓Pu.ok_oNeT, ↓Pu.ok_oNeB, ↓Pu.ok_oNeN, ↓Pu.ok_oNeS, ↓Pu.ok_oIs, ↓Pu.ok_oIsN, ↓Pu.ix_0, ↓Pu.ix_1, ↓Pu.ix_2, ↓Pu.ix_3, ↓Pu.ix_4, ↓Pu.it_0, ↓Pu.it_1, ↓Pu.it_2, ↓Pu.it_3, Pu.ixn_0, Pu.ixn_1, Pu.ixn_2, ↓Pu.ok_len, ↓Pu.ok_lenT, ↓Pu.ok_absI, ↓Pu.ok_intI, ↓Pu.ok_max2, ↓Pu.ok_min2, ↓Pu.ok_max3, ↓Pu.ok_min3, ↓Pu.ok_dm, ↓Pu.ok_repr, Pu.argsE, Pu.backE, Pu.outE, Pu.M.dt, List.getElem?_cons_zero, List.getElem?_cons_succ, List.set_cons_zero, List.set_cons_succ, List.take_succ_cons, List.take_zero, List.replicate_zero, List.replicate_succ, List.append_nil, List.nil_append, List.cons_append, List.length_cons, List.length_nil, Nat.sub_self, Nat.reduceSub, Nat.reduceAdd, Nat.reduceLeDiff, decide_true, decide_false, reduceCtorEq, Pu.noBor, Pu.setsE, Pu.slotOf, Pu.setsS, Pu.putFs, Pu.putVs, Pu.lookV, Pu.sel, Pu.isNon, Bool.not_true, Bool.not_false, Bool.not_eq_true, decide_eq_true_eq, decide_eq_false_iff_not, Bool.true_eq_false, Bool.false_eq_true, false_implies, true_implies, and_true, true_and, not_true_eq_false, not_false_eq_true, and_self, implies_true, or_false, false_or, List.flatten_cons, List.flatten_nil, true_or, or_true, Int.sub_zero, eq_self, Pu.veq_int, Pu.veq_str, Pu.cMod, Pu.cDiv, Pu.cPow, Pu.cMul_r, Pu.cMul_l, Pu.strq, String.reduceEq, Pu.sz, Pu.szl, Pu.dOk_int, Pu.dOk_bl, Pu.dOk_non, if_true, if_false, Int.reducePow, Int.reduceToNat, Int.reduceMul, Int.reduceAdd, Int.reduceSub, Int.reduceNeg, Int.reduceLT, Int.reduceLE, Int.reduceGT, Int.reduceEq, gt_iff_lt, ge_iff_le, Nat.reducePow, Nat.reduceMul, Nat.reduceLT, Int.cast_ofNat_Int, false_and, and_false, Bool.and_true, Bool.true_and, Bool.and_false, Bool.false_and, Bool.or_true, Bool.true_or, Bool.or_false, Bool.false_or, ↓Pu.vD_0, ↓Pu.vO_0, ↓Pu.rD_0, ↓Pu.rO_0, ↓Pu.kD_0, ↓Pu.kO_0, ↓Pu.vD_1, ↓Pu.vO_1, ↓Pu.rD_1, ↓Pu.rO_1, ↓Pu.kD_1, ↓Pu.kO_1, ↓Pu.vD_2, ↓Pu.vO_2, ↓Pu.rD_2, ↓Pu.rO_2, ↓Pu.kD_2, ↓Pu.kO_2, ↓Pu.vD_3, ↓Pu.vO_3, ↓Pu.rD_3, ↓Pu.rO_3, ↓Pu.kD_3, ↓Pu.kO_3, ↓Pu.vD_4, ↓Pu.vO_4, ↓Pu.rD_4, ↓Pu.rO_4, ↓Pu.kD_4, ↓Pu.kO_4, ↓Pu.vD_5, ↓Pu.vO_5, ↓Pu.rD_5, ↓Pu.rO_5, ↓Pu.kD_5, ↓Pu.kO_5, ↓Pu.vD_6, ↓Pu.vO_6, ↓Pu.rD_6, ↓Pu.rO_6, ↓Pu.kD_6, ↓Pu.kO_6, ↓Pu.vD_7, ↓Pu.vO_7, ↓Pu.rD_7, ↓Pu.rO_7, ↓Pu.kD_7, ↓Pu.kO_7, ↓Pu.vD_8, ↓Pu.vO_8, ↓Pu.rD_8, ↓Pu.rO_8, ↓Pu.kD_8, ↓Pu.kO_8, ↓Pu.vD_9, ↓Pu.vO_9, ↓Pu.rD_9, ↓Pu.rO_9, ↓Pu.kD_9, ↓Pu.kO_9, ↓Pu.vD_10, ↓Pu.vO_10, ↓Pu.rD_10, ↓Pu.rO_10, ↓Pu.kD_10, ↓Pu.kO_10, ↓Pu.vD_11, ↓Pu.vO_11, ↓Pu.rD_11, ↓Pu.rO_11, ↓Pu.kD_11, ↓Pu.kO_11, ↓Pu.vD_12, ↓Pu.vO_12, ↓Pu.rD_12, ↓Pu.rO_12, ↓Pu.kD_12, ↓Pu.kO_12, ↓Pu.vD_13, ↓Pu.vO_13, ↓Pu.rD_13, ↓Pu.rO_13, ↓Pu.kD_13, ↓Pu.kO_13, ↓Pu.vD_14, ↓Pu.vO_14, ↓Pu.rD_14, ↓Pu.rO_14, ↓Pu.kD_14, ↓Pu.kO_14, ↓Pu.vD_15, ↓Pu.vO_15, ↓Pu.rD_15, ↓Pu.rO_15, ↓Pu.kD_15, ↓Pu.kO_15])
set_option Elab.async false
set_option linter.all false
set_option maxRecDepth 100000
set_option maxHeartbeats 4000000
namespace Pu.Q
open PySem PySem.Spec PyProof.Rows L2 Pu
theorem i_int {i : Int} : fIsi isT [.int i, .ty "int"] = mV (.bl true) := rfl
theorem i_boo {i : Int} : fIsi isT [.int i, .ty "bool"] = mV (.bl false) := rfl
theorem i_str {z : Str} : fIsi isT [.str z, .ty "str"] = mV (.bl true) := rfl
section
variable {Q : RV → Ev → Prop}
theorem r_is_integer {i : Int} : Ok den_is_integer [.dat (.int i)] Q ↔ Q (.dat (.bl true)) [.un] := by
  simp_arith [↓den_is_integer, ↓b_is_integer, ↓i_int, ↓i_boo]
abbrev rV (s l p : Int) (t : Str) : Val := .obj "Rule" ["limit", "parts"] [.int l, .tup [.int s, .str t, .int l, .int p]]
variable {s l p : Int} {t : Str}
def low (t : Str) (s : Int) : Int := if t = "next" then 0 else if t = "last" then 1 - s else -((s - 1) / 2)
def high (t : Str) (s : Int) : Int := if t = "next" then s - 1 else if t = "last" then 0 else s / 2
theorem r_sip {a b c top : Int} (h1 : 0 < top) (h2 : top < 1606938044258990275541962092341162602522202993782792835301376) :
    Ok den__law_sip [.own (.lst [.int a, .int b, .int c]), .dat (.int top)] fun r e' => ∃ d a' b' c', r = .dat (.int d) ∧ e' = [.own (.lst [.int a', .int b', .int c']), .un] ∧ 0 ≤ d ∧ d < top := by
  simp_arith [↓den__law_sip, ↓b__law_sip, ↓h1, ↓h2]
  refine ⟨fun q => ⟨_, _, _, _, rfl, rfl, Int.emod_nonneg _ (by omega), Int.emod_lt_of_pos _ h1⟩, fun q => ⟨_, _, _, _, rfl, rfl, Int.emod_nonneg _ (by omega), Int.emod_lt_of_pos _ h1⟩⟩
end
section
variable {Q : RV → Ev → Prop} {s l p : Int} {t : Str}
def markV (t : Str) (s a : Int) : Int := a + low t s + (-a - low t s) % s
def mx (i j : Int) : Int := if j > i then j else i
def inMenu (t : Str) : Prop := t = "next" ∨ t = "last" ∨ t = "near"
theorem notin {t : Str} (h : inMenu t) : oInG true (.str t) (.tup [.str "next", .str "last", .str "near"]) = mV (.bl false) := by
  rcases h with rfl | rfl | rfl <;> rfl
theorem r_pick {a b c : Int} {xs : List Val} (h1 : xs ≠ []) (h2 : xs.length ≤ 1000) :
    Ok den__law_pick [.own (.lst [.int a, .int b, .int c]), .dat (.lst xs)] fun r e' => ∃ v a' b' c', v ∈ xs ∧ r = .dat v ∧ e' = [.own (.lst [.int a', .int b', .int c']), .un] := by
  have h3 : 0 < xs.length := List.length_pos_iff.mpr h1
  simp_arith [↓den__law_pick, ↓b__law_pick]
  refine Ok.mono (r_sip (top := (xs.length : Int)) (by omega) (by omega)) ?_
  rintro _ _ ⟨d, a', b', c', rfl, rfl, h4, h5⟩
  obtain ⟨v, hv, e1⟩ := atI_mem h4 h5
  simp_arith [↓ok_ixL]
  exact ⟨v, e1, v, a', b', c', hv, rfl, rfl⟩
end
section
variable {Q : RV → Ev → Prop} {s l p : Int} {t : Str}
theorem r_far {a b c most : Int} (h1 : 1 ≤ most) (h2 : most < 1606938044258990275541962092341162602522202993782792835301376) :
    Ok den__law_far [.own (.lst [.int a, .int b, .int c]), .dat (.int most)] fun r e' => ∃ d a' b' c', r = .dat (.int d) ∧ e' = [.own (.lst [.int a', .int b', .int c']), .un] ∧ 1 ≤ d ∧ d ≤ most := by
  simp_arith [↓den__law_far, ↓b__law_far]
  refine ⟨fun q => ?_, fun q => ?_⟩
  · refine Ok.mono (r_sip (by omega) (by omega)) ?_
    rintro _ _ ⟨d, a', b', c', rfl, rfl, h4, h5⟩
    simp_arith
    exact ⟨_, _, _, _, rfl, rfl, by omega, by omega⟩
  · refine Ok.mono (r_pick (by simp) (by simp)) ?_
    rintro _ _ ⟨v, a', b', c', hv, rfl, rfl⟩
    have hi : ∃ k, v = .int k := by
      simp only [List.mem_cons, List.not_mem_nil, or_false] at hv
      rcases hv with rfl | rfl | rfl | rfl | rfl | rfl | rfl | rfl <;> exact ⟨_, rfl⟩
    obtain ⟨k, rfl⟩ := hi
    simp_arith
    refine Ok.mono (r_sip (by omega) (by omega)) ?_
    rintro _ _ ⟨d, a1, b1, c1, rfl, rfl, h4, h5⟩
    simp_arith
    refine Ok.mono (r_sip (by omega) (by omega)) ?_
    rintro _ _ ⟨d2, a2, b2, c2, rfl, rfl, h6, h7⟩
    simp_arith
    refine ⟨by omega, _, _, _, _, rfl, rfl, ?_, ?_⟩
    · have := Int.emod_nonneg (d * k + d2) (show most ≠ 0 by omega)
      omega
    · have := Int.emod_lt_of_pos (d * k + d2) (show 0 < most by omega)
      omega
theorem r_plan {a b c mm : Int} (h1 : 5 ≤ mm) (h2 : mm < 1606938044258990275541962092341162602522202993782792835301376) :
    Ok den__law_plan [.own (.lst [.int a, .int b, .int c]), .dat (.int mm)] fun r e' => ∃ g t f p a' b' c', r = .tmp (.lst [.int g, .str t, .int f, .int p]) ∧ e' = [.own (.lst [.int a', .int b', .int c']), .un] ∧ (1 ≤ g ∧ g ≤ mm) ∧ inMenu t ∧ (g ≤ f ∧ f ≤ g + 3000007) ∧ 1 ≤ p ∧ p ≤ 8 := by
  simp_arith [↓den__law_plan, ↓b__law_plan]
  refine Ok.mono (r_far (by omega) (by omega)) ?_
  rintro _ _ ⟨d, a1, b1, c1, rfl, rfl, h4, h5⟩
  simp_arith
  refine Ok.mono (r_pick (by simp) (by simp)) ?_
  rintro _ _ ⟨v, a2, b2, c2, hv, rfl, rfl⟩
  have hi : ∃ k : Int, v = .int k ∧ 1 ≤ k ∧ k ≤ mm := by
    simp only [List.mem_cons, List.not_mem_nil, or_false] at hv
    rcases hv with rfl | rfl | rfl | rfl | rfl <;> exact ⟨_, rfl, by omega, by omega⟩
  obtain ⟨g, rfl, g1, g2⟩ := hi
  simp_arith
  have hm : 1 ≤ (if (1000000 : Int) < g then (1000000 : Int) else g) ∧ (if (1000000 : Int) < g then (1000000 : Int) else g) ≤ 1000000 := by split <;> omega
  generalize (if (1000000 : Int) < g then (1000000 : Int) else g) = m at hm ⊢
  refine Ok.mono (r_sip (by omega) (by omega)) ?_
  rintro _ _ ⟨d2, a3, b3, c3, rfl, rfl, h6, h7⟩
  simp_arith
  refine Ok.mono (r_pick (by simp) (by simp)) ?_
  rintro _ _ ⟨v, a4, b4, c4, hv, rfl, rfl⟩
  have hi : ∃ k : Int, v = .int k ∧ 0 ≤ k ∧ k ≤ 3000007 := by
    simp only [List.mem_cons, List.not_mem_nil, or_false] at hv
    rcases hv with rfl | rfl | rfl | rfl | rfl <;> exact ⟨_, rfl, by omega, by omega⟩
  obtain ⟨f, rfl, f1, f2⟩ := hi
  simp_arith
  refine Ok.mono (r_pick (by simp) (by simp)) ?_
  rintro _ _ ⟨v, a5, b5, c5, hv, rfl, rfl⟩
  have hi : ∃ k : Str, v = .str k ∧ inMenu k := by
    simp only [List.mem_cons, List.not_mem_nil, or_false] at hv
    rcases hv with rfl | rfl | rfl
    · exact ⟨_, rfl, .inl rfl⟩
    · exact ⟨_, rfl, .inr (.inl rfl)⟩
    · exact ⟨_, rfl, .inr (.inr rfl)⟩
  obtain ⟨t, rfl, t1⟩ := hi
  simp_arith
  refine Ok.mono (r_pick (by simp) (by simp)) ?_
  rintro _ _ ⟨v, a6, b6, c6, hv, rfl, rfl⟩
  have hi : ∃ k : Int, v = .int k ∧ 1 ≤ k ∧ k ≤ 8 := by
    simp only [List.mem_cons, List.not_mem_nil, or_false] at hv
    rcases hv with rfl | rfl | rfl | rfl | rfl <;> exact ⟨_, rfl, by omega, by omega⟩
  obtain ⟨p, rfl, p1, p2⟩ := hi
  simp_arith
  exact ⟨_, _, _, _, _, _, _, rfl, rfl, ⟨g1, g2⟩, t1, ⟨by omega, by omega⟩, p1, p2⟩
def pV (g f p : Int) (t : Str) : Val := .lst [.int g, .str t, .int f, .int p]
end
theorem ceil_iff {y k g : Int} (hg : 0 < g) (hk : k % g = 0) : y + (-y) % g = k ↔ k - g < y ∧ y ≤ k := by
  have h0 := Int.emod_nonneg (-y) (show g ≠ 0 by omega)
  have h1 := Int.emod_lt_of_pos (-y) hg
  have h2 : (y + (-y) % g) % g = 0 := by
    rw [Int.add_emod, Int.emod_emod_of_dvd _ (Int.dvd_refl g), ← Int.add_emod, Int.add_right_neg, Int.zero_emod]
  constructor
  · intro h; omega
  · rintro ⟨h3, h4⟩
    obtain ⟨c, hc⟩ := Int.dvd_of_emod_eq_zero h2
    obtain ⟨d, hd⟩ := Int.dvd_of_emod_eq_zero hk
    have e1 : y + (-y) % g - k = g * (c - d) := by rw [Int.mul_sub, ← hc, ← hd]
    have b1 : y + (-y) % g - k < g := by omega
    have b2 : -g < y + (-y) % g - k := by omega
    have e2 : c - d = 0 := by
      rcases Int.lt_trichotomy (c - d) 0 with q | q | q
      · have : g * (c - d) ≤ g * (-1) := Int.mul_le_mul_of_nonneg_left (by omega) (by omega)
        omega
      · exact q
      · have : g * 1 ≤ g * (c - d) := Int.mul_le_mul_of_nonneg_left (by omega) (by omega)
        omega
    rw [e2] at e1
    omega
theorem high_low {t : Str} {g : Int} (ht : inMenu t) : high t g = low t g + g - 1 := by
  unfold high low
  rcases ht with rfl | rfl | rfl
  · simp_arith
    omega
  · simp_arith
    omega
  · simp_arith
    omega
theorem mark_iff {t : Str} {g x k : Int} (hg : 0 < g) (ht : inMenu t) (hk : k % g = 0) : markV t g x = k ↔ k - high t g ≤ x ∧ x ≤ k - low t g := by
  have h := ceil_iff (y := x + low t g) hg hk
  have e : markV t g x = x + low t g + (-(x + low t g)) % g := by
    unfold markV
    rw [show -x - low t g = -(x + low t g) by omega]
  rw [e, h, high_low ht]
  constructor
  · rintro ⟨a, b⟩; exact ⟨by omega, by omega⟩
  · rintro ⟨a, b⟩; exact ⟨by omega, by omega⟩
theorem Ok.seq {a b : S} {e : Ev} {Q : Out → Ev → Prop} (P : Ev → Prop) (h : Ok a e fun o e1 => o = .nx ∧ P e1) (k : ∀ e1, P e1 → Ok b e1 Q) : Ok (mSeq a b) e Q := by
  rw [ok_seq]
  exact Ok.mono h fun o e1 ⟨h1, h2⟩ => by subst h1; exact k e1 h2
theorem Ok.loopI {mt : Val → M Unit} {mb : S} (P : Ev → Prop) {vs : List Val} {e : Ev} (h : P e) (st : ∀ (v : Val) (e : Ev), v ∈ vs → P e → Ok (mt v) e fun _ e1 => Ok mb e1 fun o e2 => (o = .nx ∨ o = .ct) ∧ P e2) : Ok (loopS mt mb vs) e fun o e' => o = .nx ∧ P e' :=
  Ok.loop (fun _ => P) (i := 0) h fun j v e hj hp => st v e (List.mem_of_getElem? hj) hp
theorem r_flask {ns : List Int} {k : Int} (hk : 0 ≤ k) : Ok den__law_flask [.dat (.lst (ns.map .int)), .dat (.int k)] fun r e' => ∃ a b c, r = .tmp (.lst [.int a, .int b, .int c]) ∧ e' = [.un, .un] := by
  unfold den__law_flask
  rw [ok_d2]
  unfold b__law_flask
  refine Ok.seq (fun e => ∃ i, e = [.dat (.lst (ns.map .int)), .dat (.int k), .dat (.int i), .un, .un]) ?_ ?_
  · simp_arith
    refine ⟨fun q => ?_, fun _ => ⟨_, rfl⟩⟩
    obtain ⟨v, hv, e1⟩ := atI_mem hk q
    obtain ⟨i, _, rfl⟩ := List.mem_map.mp hv
    simp_arith [↓ok_ixL]
    exact ⟨_, e1, by simp_arith; exact ⟨_, rfl⟩⟩
  rintro _ ⟨i, rfl⟩
  refine Ok.seq (fun e => ∃ st, e = [.dat (.lst (ns.map .int)), .dat (.int k), .dat (.int i), .dat (.int st), .un]) ?_ ?_
  · simp_arith
    exact ⟨_, rfl⟩
  rintro _ ⟨st, rfl⟩
  refine Ok.seq (fun e => ∃ st s4, e = [.dat (.lst (ns.map .int)), .dat (.int k), .dat (.int i), .dat (.int st), s4]) ?_ ?_
  · simp_arith
    refine Ok.loopI _ ⟨_, _, rfl⟩ ?_
    rintro v _ hv ⟨st, s4, rfl⟩
    have hi : ∃ j, v = .int j := by
      have h1 := List.mem_of_mem_take hv
      have h2 := List.mem_of_mem_drop h1
      obtain ⟨j, _, rfl⟩ := List.mem_map.mp h2
      exact ⟨j, rfl⟩
    obtain ⟨j, rfl⟩ := hi
    simp_arith
    exact ⟨_, _, rfl⟩
  rintro _ ⟨st, s4, rfl⟩
  simp_arith
  exact ⟨fun q => ⟨_, _, _, rfl⟩, fun q => ⟨_, _, _, rfl⟩⟩
section
variable {Q : RV → Ev → Prop} {s l p : Int} {t : Str}
theorem n1 : inMenu "next" := .inl rfl
theorem n2 : inMenu "last" := .inr (.inl rfl)
theorem n3 : inMenu "near" := .inr (.inr rfl)
theorem mx_n (i j : Int) : mx i j = if j > i then j else i := rfl
theorem back_t {v : Val} {p e : Ev} : backE [true] [.tmp v] p e = e := by cases p <;> rfl
end
end Pu.Q
set_option Elab.async false
set_option linter.all false
set_option maxRecDepth 100000
set_option maxHeartbeats 4000000
namespace Pu.Q
open PySem PySem.Spec PyProof.Rows L2 Pu
theorem ok_det {α : Type} {m : M α} {e e' : Ev} {a : α} {Q : α → Ev → Prop} (h : Ok m e fun r x => r = a ∧ x = e') : Ok m e Q ↔ Q a e' := by
  obtain ⟨r, x, h1, rfl, rfl⟩ := ok_ex.mp h
  constructor
  · intro q
    obtain ⟨r', x', h2, q⟩ := ok_ex.mp q
    rw [h1] at h2; cases h2
    exact q
  · intro q
    exact ok_ex.mpr ⟨_, _, h1, q⟩
theorem ixL_of {xs : List Val} {i : Int} {v : Val} {e : Ev} {Q : RV → Ev → Prop} (h : atI xs i = some v) : Ok (oIx (.lst xs) (.int i)) e Q ↔ Q (.dat v) e := by
  rw [ok_ixL, h]; simp
abbrev Note := Int × Int × Option Int
def mkAt (ns : List Note) (i : Nat) : Option Int := (ns[i]?).bind (·.2.2)
def joinsB (ns : List Note) (i : Nat) (ap : List Int) : Bool := decide (0 < i) && !decide ((i : Int) ∈ ap) && (mkAt ns i).isSome && decide (mkAt ns i = mkAt ns (i - 1))
theorem mkAt_of {ns : List Note} {i : Nat} (h : i < ns.length) : mkAt ns i = ns[i].2.2 := by simp [mkAt, h]
def leastArr (p now : Int) (last : Option Int) (ab : Bool) : Int :=
  let l := match last with
    | none => 0
    | some x => x + p
  if ab then mx l (now + 1) else l
structure WS where
  now : Int
  last : Option Int
  beg : Option Int
def absB (ns : List Note) (i : Nat) : Bool := decide (0 < i) && (mkAt ns (i - 1)).isNone
def wStep (s p : Int) (t : Str) (ns : List Note) (ap : List Int) (i : Nat) (n : Note) (w : WS) : Option WS :=
  match n.2.2 with
  | none =>
    let x := mx (mx n.1 w.now) (match w.last with
      | none => 0
      | some x => x + 1)
    if n.2.1 < x then none else some ⟨x, w.last, w.beg⟩
  | some m => if joinsB ns i ap then (if n.2.1 < mx n.1 w.now then none else some ⟨mx n.1 w.now, some (mx n.1 w.now), w.beg⟩)
    else
      let b := mx (mx 0 (m - high t s)) (leastArr p w.now w.last (absB ns i))
      if m - low t s < b then none else if n.2.1 < mx (mx n.1 w.now) b then none else some ⟨mx (mx n.1 w.now) b, some (mx (mx n.1 w.now) b), some b⟩
def wGo (s p : Int) (t : Str) (ns : List Note) (ap : List Int) : List Note → Nat → WS → Option (List (Int × Option Int))
  | [], _, _ => some []
  | n :: r, i, w => match wStep s p t ns ap i n w with
    | none => none
    | some w' => match wGo s p t ns ap r (i + 1) w' with
      | none => none
      | some out => some ((w'.now, n.2.2.bind fun _ => w'.beg) :: out)
theorem wGo_none {s p : Int} {t : Str} {ns : List Note} {ap : List Int} {n : Note} {r : List Note} {i : Nat} {w : WS} (h : wStep s p t ns ap i n w = none) : wGo s p t ns ap (n :: r) i w = none := by
  simp only [wGo, h]
theorem wGo_some {s p : Int} {t : Str} {ns : List Note} {ap : List Int} {n : Note} {r : List Note} {i : Nat} {w w' : WS} (h : wStep s p t ns ap i n w = some w') : wGo s p t ns ap (n :: r) i w = match wGo s p t ns ap r (i + 1) w' with
    | none => none
    | some out => some ((w'.now, n.2.2.bind fun _ => w'.beg) :: out) := by
  simp only [wGo, h]
abbrev w0 : WS := ⟨0, none, none⟩
def ways (s p : Int) (t : Str) (ns : List Note) (ap : List Int) : Option (List (Int × Option Int)) := wGo s p t ns ap ns 0 w0
end Pu.Q
set_option Elab.async false
set_option linter.all false
set_option maxRecDepth 100000
set_option maxHeartbeats 4000000
namespace Pu.Q
open PySem PySem.Spec PyProof.Rows L2 Pu
mutual
def nb : Val → Bool
  | .non => true
  | .int _ => true
  | .str _ => true
  | .tup xs => nbs xs
  | .lst xs => nbs xs
  | _ => false
def nbs : List Val → Bool
  | [] => true
  | x :: xs => nb x && nbs xs
end
mutual
theorem veq_nb : ∀ x y : Val, nb x = true → nb y = true → (veq x y = true ↔ x = y)
  | .non, y, _, h => by cases y <;> simp_all [veq, toP, PyData.eqv, nb]
  | .int _, y, _, h => by cases y <;> simp_all [veq, toP, PyData.eqv, nb]
  | .str _, y, _, h => by cases y <;> simp_all [veq, toP, PyData.eqv, nb]
  | .tup xs, y, g, h => by
    cases y with
    | tup ys =>
      have := veqs_nb xs ys (by simpa [nb] using g) (by simpa [nb] using h)
      simpa [veq, toP, PyData.eqv] using this
    | _ => simp_all [veq, toP, PyData.eqv, nb]
  | .lst xs, y, g, h => by
    cases y with
    | lst ys =>
      have := veqs_nb xs ys (by simpa [nb] using g) (by simpa [nb] using h)
      simpa [veq, toP, PyData.eqv] using this
    | _ => simp_all [veq, toP, PyData.eqv, nb]
  | .bl _, _, g, _ => by simp [nb] at g
  | .ty _, _, g, _ => by simp [nb] at g
  | .glo _, _, g, _ => by simp [nb] at g
  | .obj _ _ _, _, g, _ => by simp [nb] at g
theorem veqs_nb : ∀ xs ys : List Val, nbs xs = true → nbs ys = true → (PyData.eqvAll (toPs xs) (toPs ys) = true ↔ xs = ys)
  | [], [], _, _ => by simp [toPs, PyData.eqvAll]
  | [], y :: ys, _, _ => by simp [toPs, PyData.eqvAll]
  | x :: xs, [], _, _ => by simp [toPs, PyData.eqvAll]
  | x :: xs, y :: ys, g, h => by
    rw [nbs, Bool.and_eq_true] at g h
    have h1 := veq_nb x y g.1 h.1
    have h2 := veqs_nb xs ys g.2 h.2
    unfold veq at h1
    simp [toPs, PyData.eqvAll, h1, h2]
end
theorem veq_no {x y : Val} (hx : nb x = true) (hy : nb y = true) (h : x ≠ y) : veq x y = false := by
  cases q : veq x y
  · rfl
  · exact absurd ((veq_nb x y hx hy).mp q) h
section
variable {Q : RV → Ev → Prop} {s l p : Int} {t : Str}
theorem r_is_betweenB {v lo hi : Int} : Ok den_is_between [.dat (.int v), .dat (.int lo), .dat (.int hi)] Q ↔ Q (.dat (.bl (decide (lo ≤ v ∧ v ≤ hi)))) [.un, .un, .un] := by
  refine ok_det ?_
  simp_arith [↓den_is_between, ↓b_is_between, ↓r_is_integer]
  by_cases h1 : lo ≤ v
  · simp_arith [↓h1]
    try simp [h1]
  · simp_arith [↓h1]
    try simp [h1]
abbrev Mx : Int := 1000000000000000000000000000000
def markB (s m : Int) : Bool := decide ((0 ≤ m ∧ m ≤ Mx) ∧ m % s = 0)
def noteB (s : Int) (n : Note) : Bool := decide (0 ≤ n.1 ∧ n.1 ≤ Mx) && decide (0 ≤ n.2.1 ∧ n.2.1 ≤ Mx) && decide (n.1 ≤ n.2.1) && (match n.2.2 with
  | none => true
  | some m => markB s m)
end
end Pu.Q
set_option Elab.async false
set_option linter.all false
set_option maxRecDepth 100000
set_option maxHeartbeats 4000000
set_option Elab.async false
set_option linter.all false
set_option maxRecDepth 100000
set_option maxHeartbeats 4000000
namespace Pu.Q
open PySem PySem.Spec PyProof.Rows L2 Pu
theorem Ok.iffQ {α : Type} {m : M α} {e : Ev} {P R : α → Ev → Prop} (h : ∀ a e, P a e ↔ R a e) : Ok m e P ↔ Ok m e R := ⟨fun q => Ok.mono q fun a e' => (h a e').mp, fun q => Ok.mono q fun a e' => (h a e').mpr⟩
end Pu.Q
set_option Elab.async false
set_option linter.all false
set_option maxRecDepth 100000
set_option maxHeartbeats 8000000
namespace Pu.Q
open PySem PySem.Spec PyProof.Rows L2 Pu
theorem clamp {len m : Int} (hm : 2 ≤ m) : 2 ≤ (if 2 < (if m < len then m else len) then (if m < len then m else len) else 2) ∧ (if 2 < (if m < len then m else len) then (if m < len then m else len) else 2) ≤ m := by
  split
  · split <;> omega
  · omega
theorem all_right {ws : List Nat} {n : Int} {mt : Val → M Unit} {me : M RV} {e : Ev} {Q : RV → Ev → Prop} (h1 : 0 ≤ n) (h2 : n ≤ 100)
    (st : ∀ i : Int, 0 ≤ i → i < n → Ok (mt (.int i)) e fun _ e1 => Ok me e1 fun x e3 => Ok (M.dt x) e3 fun w e4 => w = .bl true ∧ wipeE e4 ws = e) (k : Q (.dat (.bl true)) e) :
    Ok (compS ws mt mYes me (rangeV 0 n) []) e fun r e1 => Ok (fAll [.lst r]) e1 Q := by
  refine Ok.mono (Ok.compS (fun e' => e' = e) (fun _ w => w = .bl true) rfl ?_ ?_) ?_
  · have : (rangeV 0 n).length = n.toNat := by simp [rangeV]
    rw [this, sizeLine_eq, List.length_nil]
    omega
  · rintro v e' hv rfl
    obtain ⟨i, hi, rfl⟩ := List.mem_map.mp hv
    have := List.mem_range.mp hi
    exact st _ (by omega) (by omega)
  · rintro r e' ⟨rfl, rs, hrs, hl, hp⟩
    rw [List.nil_append] at hrs
    subst hrs
    refine (ok_allT fun x hr => ?_).mpr k
    obtain ⟨j, hj, e1⟩ := List.mem_iff_getElem.mp hr
    have h1 : r[j]? = some x := by rw [List.getElem?_eq_getElem hj, e1]
    exact hp j _ _ (List.getElem?_eq_getElem (by omega)) h1
end Pu.Q
set_option Elab.async false
set_option linter.all false
set_option maxRecDepth 100000
set_option maxHeartbeats 8000000
namespace Pu.Q
open PySem PySem.Spec PyProof.Rows L2 Pu
abbrev Ds := List (Option Int)
def dAt (d : Ds) (i : Nat) : Option Int := d.getD i none
def done (d e : Ds) : Nat → Nat
  | 0 => 0
  | n + 1 => done d e n + if dAt d n = dAt e n then 1 else 0
def Tells (C : Int → Prop) : Option (Option Int × Option Int) → Prop
  | none => ∀ c, ¬ C c
  | some (l, h) => (∃ c, C c) ∧ ∀ c, C c ↔ (∀ a, l = some a → a ≤ c) ∧ (∀ b, h = some b → c ≤ b)
end Pu.Q
set_option Elab.async false
set_option linter.all false
set_option maxRecDepth 100000
set_option maxHeartbeats 8000000
set_option Elab.async false
set_option linter.all false
set_option maxRecDepth 100000
set_option maxHeartbeats 8000000
namespace Pu.Q
open PySem PySem.Spec PyProof.Rows L2 Pu
structure BSt where
  seen : Option Nat
  gone : Option Nat
  mark : Option Int
end Pu.Q
set_option Elab.async false
set_option linter.all false
set_option maxRecDepth 100000
set_option maxHeartbeats 8000000
namespace Pu.Q
open PySem PySem.Spec PyProof.Rows L2 Pu
variable {s l p : Int} {t : Str} {Q : RV → Ev → Prop}
abbrev b0 : BSt := ⟨none, none, none⟩
def LateOk (n : Int) : Int → List Int → Prop
  | _, [] => True
  | lo, x :: r => lo ≤ x ∧ x ≤ n - 1 ∧ LateOk n (x + 1) r
end Pu.Q
set_option Elab.async false
set_option linter.all false
set_option maxRecDepth 100000
set_option maxHeartbeats 8000000
namespace Pu.Q
open PySem PySem.Spec PyProof.Rows L2 Pu
variable {s l p : Int} {t : Str} {Q : RV → Ev → Prop}
theorem mx_eq (i j : Int) : mx i j = max i j := by rw [mx_n]; split <;> omega
end Pu.Q
set_option Elab.async false
set_option linter.all false
set_option maxRecDepth 100000
set_option maxHeartbeats 8000000
set_option Elab.async false
set_option linter.all false
set_option maxRecDepth 100000
set_option maxHeartbeats 8000000
namespace Pu.Q
open PySem PySem.Spec PyProof.Rows L2 Pu
section
variable {s l p : Int} {t : Str} {Q : RV → Ev → Prop}
theorem LateOk.mono {n : Int} : ∀ {is : List Int} {lo lo' : Int}, lo' ≤ lo → LateOk n lo is → LateOk n lo' is
  | [], _, _, _, _ => trivial
  | _ :: _, _, _, h, ⟨h1, h2, h3⟩ => ⟨by omega, h2, h3⟩
structure FormOk (s l p : Int) (t : Str) : Prop where
  s1 : 1 ≤ s
  s2 : s ≤ 1000000000000
  l1 : s ≤ l
  l2 : l ≤ 1000000000000000000
  p1 : 1 ≤ p
  p2 : p ≤ 1000000000000000000
  t1 : inMenu t
structure LotOk (s N W : Int) (ns : List Note) : Prop where
  ne : ns ≠ []
  few : ns.length ≤ 8
  all : ∀ n ∈ ns, N ≤ n.1 ∧ n.1 ≤ n.2.1 ∧ n.2.1 ≤ W ∧ ∀ m, n.2.2 = some m → 0 ≤ m ∧ m ≤ W ∧ m % s = 0
theorem LotOk.mark {s N W : Int} {ns : List Note} (h : LotOk s N W ns) : ∀ n ∈ ns, ∀ m, n.2.2 = some m → 0 ≤ m := fun n hn m hm => ((h.all n hn).2.2.2 m hm).1
end
end Pu.Q
set_option Elab.async false
set_option linter.all false
set_option maxRecDepth 100000
set_option maxHeartbeats 8000000
namespace Pu.Q
open PySem PySem.Spec PyProof.Rows L2 Pu
section
variable {s l p : Int} {t : Str} {Q : RV → Ev → Prop}
def NOk (s N W : Int) (n : Note) : Prop := N ≤ n.1 ∧ n.1 ≤ n.2.1 ∧ n.2.1 ≤ W ∧ ∀ m, n.2.2 = some m → 0 ≤ m ∧ m ≤ W ∧ m % s = 0
end
end Pu.Q
set_option Elab.async false
set_option linter.all false
set_option maxRecDepth 100000
set_option maxHeartbeats 8000000
set_option Elab.async false
set_option linter.all false
set_option maxRecDepth 100000
set_option maxHeartbeats 8000000
namespace Pu.Q
open PySem PySem.Spec PyProof.Rows L2 Pu
section
variable {s l p : Int} {t : Str} {Q : RV → Ev → Prop}
theorem Tells.fit {C : Int → Prop} {a b : Option Int} (T : Tells C (some (a, b))) {c : Int} (h1 : ∀ x, a = some x → x ≤ c) (h2 : ∀ x, b = some x → c ≤ x) : C c := (T.2 c).mpr ⟨h1, h2⟩
end
end Pu.Q
set_option Elab.async false
set_option linter.all false
set_option maxRecDepth 100000
set_option maxHeartbeats 8000000
set_option Elab.async false
set_option linter.all false
set_option maxRecDepth 100000
set_option maxHeartbeats 8000000
set_option Elab.async false
set_option linter.all false
set_option maxRecDepth 100000
set_option maxHeartbeats 8000000
set_option Elab.async false
set_option linter.all false
set_option maxRecDepth 100000
set_option maxHeartbeats 8000000
set_option Elab.async false
set_option linter.all false
set_option maxRecDepth 100000
set_option maxHeartbeats 8000000
namespace Pu.Q
open PySem PySem.Spec PyProof.Rows L2 Pu
section
variable {s l p : Int} {t : Str} {Q : RV → Ev → Prop}
theorem LateOk.filter {n : Int} : ∀ {is : List Int} {lo : Int}, LateOk n lo is → ∀ k, LateOk k lo (is.filter fun x => decide (x < k))
  | [], _, _, _ => trivial
  | x :: r, lo, ⟨h1, h2, h3⟩, k => by
    rw [List.filter_cons]
    by_cases hx : x < k
    · rw [if_pos (decide_eq_true hx)]
      exact ⟨h1, by omega, LateOk.filter h3 k⟩
    · rw [if_neg (by simpa using hx)]
      exact LateOk.mono (by omega) (LateOk.filter h3 k)
end
end Pu.Q
set_option Elab.async false
set_option linter.all false
set_option maxRecDepth 100000
set_option maxHeartbeats 8000000
set_option Elab.async false
set_option linter.all false
set_option maxRecDepth 100000
set_option maxHeartbeats 8000000
set_option Elab.async false
set_option linter.all false
set_option maxRecDepth 100000
set_option maxHeartbeats 8000000
set_option Elab.async false
set_option linter.all false
set_option maxRecDepth 100000
set_option maxHeartbeats 8000000
namespace Pu.Q
open PySem PySem.Spec PyProof.Rows L2 Pu
section
variable {s l p : Int} {t : Str} {Q : RV → Ev → Prop}
def cutStep (j : Bool) (line : List Int) : List (List Int) := if j = true then [line ++ [1], line ++ [0]] else [line ++ [1]]
def cutGo (ns : List Note) : Nat → Nat → List (List Int) → List (List Int)
  | 0, _, f => f
  | r + 1, i, f => cutGo ns r (i + 1) (f.flatMap (cutStep (joinsB ns i [])))
def cutsL (ns : List Note) : List (List Int) := cutGo ns ns.length 0 [[]]
abbrev Stay := Int × Int × Int × Int
structure FS where
  found : List Stay
  gone : Int
  lx : Option Int
def setLast (f : List Stay) (k : Int) : List Stay := match f.getLast? with
  | none => f
  | some a => f.dropLast ++ [(a.1, k, a.2.2)]
def mn (i j : Int) : Int := if j < i then j else i
def stLeast (s p : Int) (t : Str) (m : Int) (w : FS) : Int := mx (mx (mx 0 (m - high t s)) (match w.lx with
  | none => 0
  | some y => y + p)) (w.gone + 1)
def stStep (s p : Int) (t : Str) (k : Int) (n : Note) (x c : Int) (w : FS) : Option FS := match n.2.2 with
  | none => (match w.lx with
    | none => some { w with gone := x }
    | some y => if y ≥ x then none else some { w with gone := x })
  | some m => if c = 0 then some ⟨setLast w.found k, w.gone, some x⟩
    else if stLeast s p t m w > mn (m - low t s) x then none else some ⟨w.found ++ [(k, k, stLeast s p t m w, mn (m - low t s) x)], w.gone, some x⟩
def stGo (s p : Int) (t : Str) : List Note → List Int → List Int → Nat → FS → Option FS
  | [], _, _, _, w => some w
  | n :: r, x :: xs, c :: cs, k, w => (stStep s p t k n x c w).bind fun w' => stGo s p t r xs cs (k + 1) w'
  | _ :: _, _, _, _, _ => none
abbrev fs0 : FS := ⟨[], -1, none⟩
def staysL (s p : Int) (t : Str) (ns : List Note) (xs cs : List Int) : Option (List Stay) := (stGo s p t ns xs cs 0 fs0).map (·.found)
theorem setLast_some {f : List Stay} {a : Stay} {k : Int} (h : f.getLast? = some a) : setLast f k = f.dropLast ++ [(a.1, k, a.2.2)] := by
  unfold setLast; rw [h]
end
end Pu.Q
set_option Elab.async false
set_option linter.all false
set_option maxRecDepth 100000
set_option maxHeartbeats 8000000
namespace Pu.Q
open PySem PySem.Spec PyProof.Rows L2 Pu
section
variable {s l p : Int} {t : Str} {Q : RV → Ev → Prop}
theorem mem_cutGo {ns : List Note} {cs : List Int} : ∀ {r i : Nat} {f : List (List Int)}, cs ∈ cutGo ns r i f ↔ ∃ line ∈ f, ∃ tl : List Int, cs = line ++ tl ∧ tl.length = r ∧ ∀ j v, tl[j]? = some v → v = 1 ∨ (v = 0 ∧ joinsB ns (i + j) [] = true)
  | 0, i, f => by
    unfold cutGo
    constructor
    · intro h
      exact ⟨cs, h, [], by simp, rfl, fun j v q => by simp at q⟩
    · rintro ⟨line, h, tl, rfl, h2, _⟩
      rw [List.length_eq_zero_iff.mp h2, List.append_nil]
      exact h
  | r + 1, i, f => by
    unfold cutGo
    rw [mem_cutGo]
    constructor
    · rintro ⟨line, h, tl, rfl, h2, h3⟩
      obtain ⟨l0, h4, h5⟩ := List.mem_flatMap.mp h
      have key : ∃ v, line = l0 ++ [v] ∧ (v = 1 ∨ (v = 0 ∧ joinsB ns i [] = true)) := by
        unfold cutStep at h5
        split at h5
        · rename_i j
          simp only [List.mem_cons, List.not_mem_nil, or_false] at h5
          rcases h5 with rfl | rfl
          · exact ⟨1, rfl, .inl rfl⟩
          · exact ⟨0, rfl, .inr ⟨rfl, j⟩⟩
        · simp only [List.mem_cons, List.not_mem_nil, or_false] at h5
          exact ⟨1, h5, .inl rfl⟩
      obtain ⟨v, rfl, hv⟩ := key
      refine ⟨l0, h4, v :: tl, by simp, by simp [h2], fun j u q => ?_⟩
      cases j with
      | zero => simp at q; subst q; exact hv
      | succ j =>
        have := h3 j u (by simpa using q)
        rwa [show i + 1 + j = i + (j + 1) by omega] at this
    · rintro ⟨line, h, tl, rfl, h2, h3⟩
      cases tl with
      | nil => cases h2
      | cons v tl =>
        refine ⟨line ++ [v], List.mem_flatMap.mpr ⟨line, h, ?_⟩, tl, by simp, by simpa using h2, fun j u q => ?_⟩
        · unfold cutStep
          rcases h3 0 v rfl with rfl | ⟨rfl, j⟩
          · split <;> simp
          · rw [if_pos (by simpa using j)]; simp
        · have := h3 (j + 1) u (by simpa using q)
          rwa [show i + 1 + j = i + (j + 1) by omega]
theorem mem_cuts {ns : List Note} {cs : List Int} : cs ∈ cutsL ns ↔ cs.length = ns.length ∧ ∀ (j : Nat) (v : Int), cs[j]? = some v → v = 1 ∨ (v = 0 ∧ joinsB ns j [] = true) := by
  unfold cutsL
  rw [mem_cutGo]
  constructor
  · rintro ⟨line, h, tl, rfl, h2, h3⟩
    rw [List.mem_singleton] at h
    subst h
    exact ⟨by simpa using h2, fun j v q => by have := h3 j v (by simpa using q); simpa using this⟩
  · rintro ⟨h1, h2⟩
    exact ⟨[], List.mem_singleton.mpr rfl, cs, rfl, h1, fun j v q => by have := h2 j v q; simpa using this⟩
def Mins : List Note → Option Int → List Int → Prop
  | [], _, xs => xs = []
  | n :: r, q, xs => ∃ x xs', xs = x :: xs' ∧ n.1 ≤ x ∧ x ≤ n.2.1 ∧ (∀ y, q = some y → y ≤ x) ∧ Mins r (some x) xs'
theorem Mins.len : ∀ {ns : List Note} {q : Option Int} {xs : List Int}, Mins ns q xs → xs.length = ns.length
  | [], _, _, h => by rw [show _ = _ from h]; rfl
  | n :: r, q, xs, ⟨x, xs', e, _, _, _, h⟩ => by rw [e, List.length_cons, List.length_cons, h.len]
end
end Pu.Q
set_option Elab.async false
set_option linter.all false
set_option maxRecDepth 100000
set_option maxHeartbeats 8000000
namespace Pu.Q
open PySem PySem.Spec PyProof.Rows L2 Pu
section
variable {s l p : Int} {t : Str}
theorem mkAt_get {ns : List Note} {i : Nat} {n : Note} (h : ns[i]? = some n) : mkAt ns i = n.2.2 := by simp [mkAt, h]
theorem joins_same {ns : List Note} {i : Nat} {ap : List Int} (h : joinsB ns i ap = true) : 0 < i ∧ (mkAt ns i).isSome = true ∧ mkAt ns (i - 1) = mkAt ns i := by
  unfold joinsB at h
  simp only [Bool.and_eq_true, decide_eq_true_eq] at h
  exact ⟨h.1.1.1, h.1.2, h.2.symm⟩
theorem joins_here {ns : List Note} {i : Nat} {ap : List Int} (h : joinsB ns i ap = true) : absB ns i = false := by
  obtain ⟨_, h2, h3⟩ := joins_same h
  unfold absB
  rw [h3]
  cases q : mkAt ns i
  · rw [q] at h2; cases h2
  · simp
theorem absB_next {ns : List Note} {i : Nat} {n : Note} (h : ns[i]? = some n) : absB ns (i + 1) = n.2.2.isNone := by
  unfold absB
  rw [Nat.add_sub_cancel, mkAt_get h]
  simp
def goneX (lo now : Int) (last : Option Int) : Int := mx (mx lo now) (match last with
  | none => 0
  | some x => x + 1)
theorem wStep_none {ns : List Note} {ap : List Int} {i : Nat} {lo hi : Int} {w : WS} : wStep s p t ns ap i (lo, hi, none) w = if hi < goneX lo w.now w.last then none else some ⟨goneX lo w.now w.last, w.last, w.beg⟩ := rfl
def begX (s p : Int) (t : Str) (ns : List Note) (i : Nat) (m : Int) (w : WS) : Int := mx (mx 0 (m - high t s)) (leastArr p w.now w.last (absB ns i))
theorem wStep_new {ns : List Note} {ap : List Int} {i : Nat} {lo hi m : Int} {w : WS} (h : joinsB ns i ap = false) : wStep s p t ns ap i (lo, hi, some m) w = if m - low t s < begX s p t ns i m w then none else if hi < mx (mx lo w.now) (begX s p t ns i m w) then none else some ⟨mx (mx lo w.now) (begX s p t ns i m w), some (mx (mx lo w.now) (begX s p t ns i m w)), some (begX s p t ns i m w)⟩ := by
  unfold wStep begX
  simp only [h]
  rfl
theorem wStep_join {ns : List Note} {ap : List Int} {i : Nat} {lo hi m : Int} {w : WS} (h : joinsB ns i ap = true) : wStep s p t ns ap i (lo, hi, some m) w = if hi < mx lo w.now then none else some ⟨mx lo w.now, some (mx lo w.now), w.beg⟩ := by
  unfold wStep
  simp only [h, if_true]
structure Eqs (ns : List Note) (p : Int) (i : Nat) (w : WS) (v : FS) : Prop where
  last : v.lx = w.last
  away : absB ns i = true → v.gone = w.now
  mid : absB ns i = false → v.gone + 1 ≤ (match w.last with
    | none => 0
    | some a => a + p)
  there : 0 < i → mkAt ns (i - 1) ≠ none → w.last = some w.now
def cutOf (ns : List Note) (ap : List Int) (i : Nat) : Int := if joinsB ns i ap = true then 0 else 1
theorem eq_step {ns : List Note} {ap : List Int} {i : Nat} {n : Note} {w w' : WS} {v : FS} (hp : 1 ≤ p) (hi : ns[i]? = some n) (R : Eqs ns p i w v) (e : wStep s p t ns ap i n w = some w') :
    ∃ v', stStep s p t i n w'.now (cutOf ns ap i) v = some v' ∧ Eqs ns p (i + 1) w' v' ∧ n.1 ≤ w'.now ∧ w'.now ≤ n.2.1 ∧ w.now ≤ w'.now := by
  obtain ⟨R1, R2, R3, R4⟩ := R
  have ab := absB_next hi
  have mk := mkAt_get hi
  obtain ⟨lo, hi_, m⟩ := n
  simp only at ab mk
  cases m with
  | none =>
    rw [wStep_none] at e
    by_cases q : hi_ < goneX lo w.now w.last
    · rw [if_pos q] at e; cases e
    · rw [if_neg q] at e
      cases e
      have g : ∀ a, w.last = some a → a < goneX lo w.now w.last := fun a ha => by unfold goneX; rw [ha, mx_eq]; simp only; omega
      have g2 : lo ≤ goneX lo w.now w.last ∧ w.now ≤ goneX lo w.now w.last := by unfold goneX; rw [mx_eq, mx_eq]; omega
      refine ⟨{ v with gone := goneX lo w.now w.last }, ?_, ⟨R1, fun _ => rfl, fun z => (by rw [ab] at z; cases z), fun _ z => (by rw [Nat.add_sub_cancel, mk] at z; exact absurd rfl z)⟩, g2.1, (by simp only; omega), g2.2⟩
      simp only [stStep, R1]
      cases hl : w.last with
      | none => rfl
      | some a =>
        have := g a hl
        rw [hl] at this
        simp only
        rw [if_neg (by omega)]
  | some m =>
    unfold cutOf
    cases hj : joinsB ns i ap with
    | true =>
      rw [wStep_join hj] at e
      by_cases q : hi_ < mx lo w.now
      · rw [if_pos q] at e; cases e
      · rw [if_neg q] at e
        cases e
        obtain ⟨j1, j2, j3⟩ := joins_same hj
        have ja := joins_here hj
        have m3 := R3 ja
        have lw : w.last = some w.now := R4 j1 (by rw [j3, mk]; simp)
        rw [lw] at m3
        have : w.now ≤ mx lo w.now ∧ lo ≤ mx lo w.now := by rw [mx_eq]; omega
        refine ⟨_, by simp only [stStep, if_true]; rfl, ⟨rfl, fun z => (by rw [ab] at z; cases z), fun _ => ?_, fun _ _ => rfl⟩, this.2, by simp only; omega, this.1⟩
        simp only at m3 ⊢
        omega
    | false =>
      rw [wStep_new hj] at e
      by_cases q1 : m - low t s < begX s p t ns i m w
      · rw [if_pos q1] at e; cases e
      · rw [if_neg q1] at e
        by_cases q2 : hi_ < mx (mx lo w.now) (begX s p t ns i m w)
        · rw [if_pos q2] at e; cases e
        · rw [if_neg q2] at e
          cases e
          have bl : stLeast s p t m v = begX s p t ns i m w := by
            unfold stLeast begX leastArr
            rw [R1]
            cases ha : absB ns i with
            | true =>
              have r2 := R2 ha
              cases hl : w.last with
              | none =>
                simp only [if_true, mx_eq]
                omega
              | some a =>
                simp only [if_true, mx_eq]
                omega
            | false =>
              have r3 := R3 ha
              cases hl : w.last with
              | none =>
                rw [hl] at r3
                simp only [Bool.false_eq_true, if_false, mx_eq] at r3 ⊢
                omega
              | some a =>
                rw [hl] at r3
                simp only [Bool.false_eq_true, if_false, mx_eq] at r3 ⊢
                omega
          have g1 : begX s p t ns i m w ≤ mx (mx lo w.now) (begX s p t ns i m w) := by rw [mx_eq (mx lo w.now)]; omega
          have g2 : lo ≤ mx (mx lo w.now) (begX s p t ns i m w) ∧ w.now ≤ mx (mx lo w.now) (begX s p t ns i m w) := by rw [mx_eq (mx lo w.now), mx_eq lo]; omega
          have g3 : v.gone + 1 ≤ stLeast s p t m v := by unfold stLeast; rw [mx_eq]; omega
          refine ⟨⟨v.found ++ [((i : Int), (i : Int), begX s p t ns i m w, mn (m - low t s) (mx (mx lo w.now) (begX s p t ns i m w)))], v.gone, some (mx (mx lo w.now) (begX s p t ns i m w))⟩, ?_, ⟨rfl, fun z => (by rw [ab] at z; cases z), fun _ => ?_, fun _ _ => rfl⟩, g2.1, (by simp only; omega), g2.2⟩
          rotate_left
          · simp only
            omega
          · simp only [stStep]
            rw [if_neg (show ¬ (if false = true then (0 : Int) else 1) = 0 by decide), bl, if_neg (by unfold mn; split <;> omega)]
theorem eq_go {ns : List Note} {ap : List Int} (hp : 1 ≤ p) : ∀ (rest : List Note) (i : Nat) (w : WS) (v : FS) (out : List (Int × Option Int)), ns.drop i = rest → Eqs ns p i w v → wGo s p t ns ap rest i w = some out →
    (∃ v', stGo s p t rest (out.map (·.1)) ((List.range' i rest.length).map (cutOf ns ap)) i v = some v') ∧ Mins rest (some w.now) (out.map (·.1)) := by
  intro rest
  induction rest with
  | nil => intro i w v out _ _ e; simp [wGo] at e; subst e; exact ⟨⟨v, rfl⟩, rfl⟩
  | cons n r ih =>
    intro i w v out hd R e
    have hi : ns[i]? = some n := by
      have : (ns.drop i)[0]? = some n := by rw [hd]; rfl
      simpa using this
    cases e1 : wStep s p t ns ap i n w with
    | none => rw [wGo_none e1] at e; cases e
    | some w1 =>
      rw [wGo_some e1] at e
      obtain ⟨v1, a1, a2, a3, a4, a5⟩ := eq_step hp hi R e1
      cases e2 : wGo s p t ns ap r (i + 1) w1 with
      | none => rw [e2] at e; cases e
      | some o2 =>
        rw [e2] at e
        cases e
        obtain ⟨⟨v', b1⟩, b2⟩ := ih (i + 1) w1 v1 o2 (by rw [← List.drop_drop, hd]; rfl) a2 e2
        refine ⟨⟨v', ?_⟩, w1.now, o2.map (·.1), rfl, a3, a4, fun y hy => by cases hy; exact a5, b2⟩
        rw [List.length_cons, List.range'_succ, List.map_cons, List.map_cons]
        simp only [stGo]
        rw [a1]
        exact b1
theorem Mins.weak {xs : List Int} {q : Option Int} : ∀ {ns : List Note}, Mins ns q xs → Mins ns none xs
  | [], h => h
  | n :: r, ⟨x, xs', e, a, b, _, h⟩ => ⟨x, xs', e, a, b, fun y hy => (by cases hy), h⟩
def cutsOf (ns : List Note) (ap : List Int) : List Int := (List.range ns.length).map (cutOf ns ap)
theorem cutsOf_mem {ns : List Note} {ap : List Int} : cutsOf ns ap ∈ cutsL ns := by
  refine mem_cuts.mpr ⟨by simp [cutsOf], fun j v h => ?_⟩
  unfold cutsOf at h
  rw [List.getElem?_map] at h
  by_cases hj : j < ns.length
  · rw [List.getElem?_range hj] at h
    have h : cutOf ns ap j = v := by simpa using h
    unfold cutOf at h
    split at h
    · rename_i q
      right
      refine ⟨h.symm, ?_⟩
      unfold joinsB at q ⊢
      simp only [Bool.and_eq_true, decide_eq_true_eq] at q
      simp only [Bool.and_eq_true, decide_eq_true_eq]
      exact ⟨⟨⟨q.1.1.1, by simp⟩, q.1.2⟩, q.2⟩
    · exact .inl h.symm
  · rw [List.getElem?_eq_none (by simpa using hj)] at h
    cases h
theorem ways_fit {ns : List Note} {ap : List Int} {out : List (Int × Option Int)} (hp : 1 ≤ p) (e : ways s p t ns ap = some out) :
    ∃ f, staysL s p t ns (out.map (·.1)) (cutsOf ns ap) = some f ∧ Mins ns none (out.map (·.1)) := by
  obtain ⟨⟨v', b1⟩, b2⟩ := eq_go (s := s) (t := t) hp ns 0 w0 fs0 out rfl ⟨rfl, fun z => by simp [absB] at z, fun _ => by show (-1 : Int) + 1 ≤ 0; decide, fun z => by omega⟩ e
  refine ⟨v'.found, ?_, b2.weak⟩
  unfold staysL cutsOf
  rw [List.range_eq_range', b1]
  rfl
end
end Pu.Q
set_option Elab.async false
set_option linter.all false
set_option maxRecDepth 100000
set_option maxHeartbeats 8000000
namespace Pu.Q
open PySem PySem.Spec PyProof.Rows L2 Pu
section
variable {s l p : Int} {t : Str} {Q : RV → Ev → Prop}
structure RowN (g w : Int) (n : Note) : Prop where
  lo : 0 ≤ n.1 ∧ n.1 ≤ 10000
  hi : n.1 ≤ n.2.1 ∧ n.2.1 < n.1 + w
  mar : ∀ m, n.2.2 = some m → 0 ≤ m ∧ m ≤ 20000 ∧ m % g = 0
end
end Pu.Q
set_option Elab.async false
set_option linter.all false
set_option maxRecDepth 100000
set_option maxHeartbeats 8000000
namespace Pu.Q
open PySem PySem.Spec PyProof.Rows L2 Pu
section
variable {s l p : Int} {t : Str} {Q : RV → Ev → Prop}
abbrev Fine := Int × Int
def Asc : Int → Int → List Fine → Prop
  | _, _, [] => True
  | lo, low, q :: r => lo ≤ q.1 ∧ low ≤ q.2 ∧ Asc (q.1 + 1) q.2 r
theorem Asc.weak : ∀ {fs : List Fine} {lo lo' low low' : Int}, Asc lo low fs → lo' ≤ lo → low' ≤ low → Asc lo' low' fs
  | [], _, _, _, _, _, _, _ => trivial
  | q :: r, _, _, _, _, ⟨a, b, c⟩, h1, h2 => ⟨by omega, by omega, c⟩
def setB (acc : List (Int × Int)) (k : Int) : List (Int × Int) := match acc.getLast? with
  | none => acc
  | some a => acc.dropLast ++ [(a.1, k)]
theorem setB_some {acc : List (Int × Int)} {a : Int × Int} {k : Int} : setB (acc ++ [a]) k = acc ++ [(a.1, k)] := by
  unfold setB
  simp
end
end Pu.Q
set_option Elab.async false
set_option linter.all false
set_option maxRecDepth 100000
set_option maxHeartbeats 8000000
namespace Pu.Q
open PySem PySem.Spec PyProof.Rows L2 Pu
section
variable {s l p : Int} {t : Str} {Q : RV → Ev → Prop}
def lastGo : List Note → List Int → Nat → List Int → List Int
  | [], _, _, acc => acc
  | n :: r, c :: cs, k, acc => lastGo r cs (k + 1) (match n.2.2 with
    | none => acc
    | some _ => if c = 0 then acc.dropLast ++ [(k : Int)] else acc ++ [(k : Int)])
  | _ :: _, [], _, acc => acc
theorem last_none {n : Note} {r : List Note} {c : Int} {cs : List Int} {k : Nat} {acc : List Int} (h : n.2.2 = none) : lastGo (n :: r) (c :: cs) k acc = lastGo r cs (k + 1) acc := by simp only [lastGo, h]
theorem last_zero {n : Note} {r : List Note} {cs : List Int} {k : Nat} {acc : List Int} {m : Int} (h : n.2.2 = some m) : lastGo (n :: r) (0 :: cs) k acc = lastGo r cs (k + 1) (acc.dropLast ++ [(k : Int)]) := by simp only [lastGo, h, if_true]
theorem last_one {n : Note} {r : List Note} {c : Int} {cs : List Int} {k : Nat} {acc : List Int} {m : Int} (h : n.2.2 = some m) (hc : c ≠ 0) : lastGo (n :: r) (c :: cs) k acc = lastGo r cs (k + 1) (acc ++ [(k : Int)]) := by simp only [lastGo, h, if_neg hc]
theorem setLast_map {f : List Stay} {k : Int} (h : f ≠ []) : (setLast f k).map (·.2.1) = (f.map (·.2.1)).dropLast ++ [k] := by
  obtain ⟨a, ha⟩ : ∃ a, f.getLast? = some a := ⟨f.getLast h, List.getLast?_eq_some_getLast h⟩
  rw [setLast_some ha, List.map_append, List.map_dropLast]
  rfl
theorem drop_head {ns r : List Note} {n : Note} {i : Nat} (hd : ns.drop i = n :: r) : ns[i]? = some n ∧ ns.drop (i + 1) = r := by
  constructor
  · have : (ns.drop i)[0]? = some n := by rw [hd]; rfl
    simpa using this
  · rw [← List.drop_drop, hd]; rfl
theorem st_lasts {ns : List Note} : ∀ (rest : List Note) (i : Nat) (xs cs : List Int) (w w' : FS), ns.drop i = rest → (0 < i → mkAt ns (i - 1) ≠ none → w.found ≠ []) → (∀ j, cs[j]? = some 0 → joinsB ns (i + j) [] = true) →
    stGo s p t rest xs cs i w = some w' → w'.found.map (·.2.1) = lastGo rest cs i (w.found.map (·.2.1))
  | [], i, xs, cs, w, w', _, _, _, e => by simp only [stGo] at e; cases e; rfl
  | n :: r, i, [], cs, w, w', _, _, _, e => by simp [stGo] at e
  | n :: r, i, x :: xs, [], w, w', _, _, _, e => by simp [stGo] at e
  | n :: r, i, x :: xs, c :: cs, w, w', hd, hp, hz, e => by
    obtain ⟨hi, hr⟩ := drop_head hd
    have mk := mkAt_get hi
    simp only [stGo] at e
    cases e1 : stStep s p t i n x c w with
    | none => rw [e1] at e; cases e
    | some w1 =>
      rw [e1] at e
      have ih := st_lasts r (i + 1) xs cs w1 w' hr
      have hz' : ∀ j, cs[j]? = some 0 → joinsB ns (i + 1 + j) [] = true := fun j z => by have := hz (j + 1) (by simpa using z); rwa [show i + 1 + j = i + (j + 1) by omega]
      obtain ⟨lo, hi_, m⟩ := n
      cases m with
      | none =>
        rw [last_none rfl]
        have ef : w1.found = w.found := by
          simp only [stStep] at e1
          split at e1
          · cases e1; rfl
          · split at e1
            · cases e1
            · cases e1; rfl
        rw [← ef]
        exact ih (fun _ z => absurd (by rw [Nat.add_sub_cancel]; exact mk) z) hz' e
      | some m =>
        simp only [stStep] at e1
        by_cases c0 : c = 0
        · rw [if_pos c0] at e1
          cases e1
          subst c0
          obtain ⟨j1, j2, j3⟩ := joins_same (hz 0 rfl)
          have ne := hp j1 (by rw [show i + 0 = i from rfl] at j3; rw [j3, mk]; simp)
          rw [last_zero rfl, ← setLast_map ne]
          refine ih (fun _ _ z => ?_) hz' e
          have := congrArg (List.map (·.2.1)) z
          simp only at this
          rw [setLast_map ne] at this
          simp at this
        · rw [if_neg c0] at e1
          split at e1
          · cases e1
          · cases e1
            rw [last_one rfl c0]
            have := ih (fun _ _ z => by simp at z) hz' e
            rw [this, List.map_append]
            rfl
def sg (g : Int → Int) (L : List Int) : Int := (L.map g).sum
theorem last_ok {ns : List Note} : ∀ (rest : List Note) (i : Nat) (cs L : List Int), ns.drop i = rest → (∀ a ∈ L, 0 ≤ a ∧ ∃ m, mkAt ns a.toNat = some m) → ∀ a ∈ lastGo rest cs i L, 0 ≤ a ∧ ∃ m, mkAt ns a.toNat = some m
  | [], i, cs, L, _, h => by simpa only [lastGo] using h
  | n :: r, i, [], L, _, h => by simpa only [lastGo] using h
  | n :: r, i, c :: cs, L, hd, h => by
    obtain ⟨hi, hr⟩ := drop_head hd
    have mk := mkAt_get hi
    have ih := fun L => last_ok r (i + 1) cs L hr
    cases hm : n.2.2 with
    | none => rw [last_none hm]; exact ih L h
    | some m =>
      have hk : 0 ≤ (i : Int) ∧ ∃ m, mkAt ns (i : Int).toNat = some m := ⟨by omega, m, by rw [Int.toNat_natCast, mk, hm]⟩
      by_cases c0 : c = 0
      · rw [c0, last_zero hm]
        refine ih _ fun a ha => ?_
        rcases List.mem_append.mp ha with q | q
        · exact h a ((List.dropLast_sublist L).subset q)
        · rw [List.mem_singleton.mp q]; exact hk
      · rw [last_one hm c0]
        refine ih _ fun a ha => ?_
        rcases List.mem_append.mp ha with q | q
        · exact h a q
        · rw [List.mem_singleton.mp q]; exact hk
theorem fit_lasts {ns : List Note} {xs cs : List Int} {f : List Stay} (hc : cs ∈ cutsL ns) (e : staysL s p t ns xs cs = some f) : f.map (·.2.1) = lastGo ns cs 0 [] := by
  unfold staysL at e
  cases e1 : stGo s p t ns xs cs 0 fs0 with
  | none => rw [e1] at e; cases e
  | some w' =>
    rw [e1] at e
    cases e
    exact st_lasts ns 0 xs cs fs0 w' rfl (fun z => by omega) (fun j z => by
      rcases (mem_cuts.mp hc).2 j 0 z with q | q
      · cases q
      · simpa using q.2) e1
end
end Pu.Q
set_option Elab.async false
set_option linter.all false
set_option maxRecDepth 100000
set_option maxHeartbeats 8000000
namespace Pu.Q
open PySem PySem.Spec PyProof.Rows L2 Pu
section
variable {s l p : Int} {t : Str} {Q : RV → Ev → Prop}
theorem atI_of0 {α : Type} {xs : List α} {k : Int} {a : α} (h0 : 0 ≤ k) (h : xs[k.toNat]? = some a) : atI xs k = some a := by
  have e : ((k.toNat : Nat) : Int) = k := by omega
  have := atI_lit k.toNat h
  rwa [e] at this
theorem noteB_of' {n : Note} (h1 : 0 ≤ n.1) (h2 : n.1 ≤ n.2.1) (h3 : n.2.1 ≤ Mx) (hm : ∀ m, n.2.2 = some m → (0 ≤ m ∧ m ≤ Mx) ∧ m % s = 0) : noteB s n = true := by
  unfold noteB
  obtain ⟨lo, hi, m⟩ := n
  simp only at h1 h2 h3 hm ⊢
  have e1 : decide (0 ≤ lo ∧ lo ≤ Mx) = true := decide_eq_true ⟨h1, Int.le_trans h2 h3⟩
  have e2 : decide (0 ≤ hi ∧ hi ≤ Mx) = true := decide_eq_true ⟨Int.le_trans h1 h2, h3⟩
  rw [e1, e2, decide_eq_true h2]
  cases m with
  | none => rfl
  | some m =>
    have := hm m rfl
    simp only [markB, Bool.true_and]
    simp [this.1.1, this.1.2, this.2]
theorem RowN.noteB {g : Int} {n : Note} {w : Int} (h : RowN g w n) (hg : 0 < g) (hw : w ≤ 1000) : noteB g n = true := by
  have h1 := h.lo
  have h2 := h.hi
  refine noteB_of' (by omega) (by omega) ?_ fun m hm => ?_
  · have : n.2.1 ≤ 20000 := by omega
    exact Int.le_trans this (by decide)
  · have := h.mar m hm
    exact ⟨⟨by omega, Int.le_trans this.2.1 (by decide)⟩, this.2.2⟩
end
end Pu.Q
set_option Elab.async false
set_option linter.all false
set_option maxRecDepth 100000
set_option maxHeartbeats 8000000
set_option Elab.async false
set_option linter.all false
set_option maxRecDepth 100000
set_option maxHeartbeats 8000000
namespace Pu.Q
open PySem PySem.Spec PyProof.Rows L2 Pu
def Rs {α : Type} (m : M α) (e : Ev) (P : Val → Ev → Prop) : Prop := match m e with
  | .rs x e' => P x e'
  | _ => False
section
variable {α β : Type} {m : M α} {e : Ev} {P : Val → Ev → Prop} {a b : S}
theorem rs_ex_iff : Rs m e P ↔ ∃ x e', m e = .rs x e' ∧ P x e' := by
  unfold Rs
  cases h : m e with
  | rs x e' => exact ⟨fun z => ⟨x, e', rfl, z⟩, fun ⟨b, f, z, y⟩ => by cases z; exact y⟩
  | _ => exact ⟨fun z => z.elim, fun ⟨b, f, z, y⟩ => nomatch z⟩
theorem Rs.mono {P' : Val → Ev → Prop} (h : Rs m e P) (k : ∀ x e', P x e' → P' x e') : Rs m e P' := by
  obtain ⟨x, e', h1, h2⟩ := rs_ex_iff.mp h
  exact rs_ex_iff.mpr ⟨x, e', h1, k _ _ h2⟩
theorem rs_bindO {f : α → M β} (h : Ok m e fun r e1 => Rs (f r) e1 P) : Rs (m.bind f) e P := by
  obtain ⟨r, e1, h1, h2⟩ := ok_ex.mp h
  unfold Rs M.bind
  rw [h1]
  exact h2
theorem rs_seqO (h : Ok a e fun o e1 => o = .nx ∧ Rs b e1 P) : Rs (mSeq a b) e P := by
  obtain ⟨r, e1, h1, rfl, h2⟩ := ok_ex.mp h
  unfold Rs mSeq
  rw [h1]
  exact h2
theorem rs_seqR (h : Rs a e P) : Rs (mSeq a b) e P := by
  obtain ⟨x, e', h1, h2⟩ := rs_ex_iff.mp h
  unfold Rs mSeq
  rw [h1]
  exact h2
theorem rs_if {c : M Bool} (h : Ok c e fun k e1 => (k = true → Rs a e1 P) ∧ (¬ k = true → Rs b e1 P)) : Rs (mIf c a b) e P := by
  unfold mIf
  refine rs_bindO (Ok.mono h fun k e1 q => ?_)
  cases k with
  | true => rw [if_pos rfl]; exact q.1 rfl
  | false => rw [if_neg Bool.false_ne_true]; exact q.2 Bool.false_ne_true
theorem rs_ifT {c : M Bool} (h : Ok c e fun k e1 => k = true ∧ Rs a e1 P) : Rs (mIf c a b) e P := rs_if (Ok.mono h fun k e1 q => ⟨fun _ => q.2, fun z => absurd q.1 z⟩)
theorem rs_raise1 {C f : Str} {ms : M (List RV)} (h : Ok ms e fun rs e1 => Ok (M.dts rs) e1 fun vs e2 => ∃ v, vs = [v] ∧ P (.obj C [f] [v]) e2) : Rs (mRaise C [f] ms) e P := by
  unfold mRaise
  refine rs_bindO (Ok.mono h fun rs e1 q => rs_bindO (Ok.mono q fun vs e2 q2 => ?_))
  obtain ⟨v, rfl, q2⟩ := q2
  exact q2
theorem rs_fn {n nn : Nat} {b : S} (hl : e.length = n) (h : Rs b (e ++ List.replicate (nn - n) Slot.un) fun x e' => P x (outE (e'.take n))) : Rs (fnDen n nn b) e P := by
  obtain ⟨x, e', h1, h2⟩ := rs_ex_iff.mp h
  unfold Rs fnDen
  rw [if_pos hl, h1]
  exact h2
theorem rs_run {ms : List Bool} {f : M RV} {rs : List RV} {p e1 : Ev} (ha : argsE ms rs e = some (p, e1)) (h : Rs f p fun x p' => P x (backE ms rs p' e1)) : Rs (runF ms f rs) e P := by
  obtain ⟨x, p', h1, h2⟩ := rs_ex_iff.mp h
  unfold Rs runF
  rw [ha]
  dsimp only
  rw [h1]
  exact h2
theorem errA_ok {R : List Str} {mb : M RV} {Q : RV → Ev → Prop} (h : Ok mb e fun r e1 => Ok (M.dt r) e1 fun v e2 => Q (.tmp (.lst [.str "told", v])) e2) : Ok (mErrA R mb) e Q := by
  obtain ⟨r, e1, h1, h2⟩ := ok_ex.mp h
  obtain ⟨v, e2, h3, h4⟩ := ok_ex.mp h2
  refine ok_ex.mpr ⟨_, _, ?_, h4⟩
  unfold mErrA M.bind
  simp only [h1, h3]
theorem errA_rs {R : List Str} {mb : M RV} {Q : RV → Ev → Prop} (h : Rs mb e fun x e1 => ∃ v, errV R x = some v ∧ Q (.tmp v) e1) : Ok (mErrA R mb) e Q := by
  obtain ⟨x, e1, h1, v, h2, h3⟩ := rs_ex_iff.mp h
  refine ok_ex.mpr ⟨_, _, ?_, h3⟩
  unfold mErrA M.bind
  simp only [h1, h2]
end
end Pu.Q
set_option Elab.async false
set_option linter.all false
set_option maxRecDepth 100000
set_option maxHeartbeats 1000000
namespace Pu.Q
open PySem PySem.Spec PyProof.Rows L2 Pu
section
variable {Q : RV → Ev → Prop} {v w f : Val}
theorem ok_reprR {v : Val} {e : Ev} {Q : RV → Ev → Prop} : Ok (fReprR [v]) e Q ↔ rkOk v = true ∧ Q (.dat (.str (shownV v))) e := by
  show Ok (if rkOk v = true then _ else _) e Q ↔ _
  by_cases h : rkOk v = true
  · rw [if_pos h]; exact ⟨fun z => ⟨h, z⟩, fun z => z.2⟩
  · rw [if_neg h]; exact ⟨fun z => z.elim, fun z => h z.1⟩
theorem rk_word {x : Str} {v : Val} (h : PyData.strOk x = true) (hx : x.length ≤ 100) (hr : isR v = true) (hi : iOk v = true) (hd : dep v ≤ 50) (hz : rsz v ≤ 1000000) : rkOk (.lst [.str x, v]) = true := by
  unfold rkOk
  simp only [Bool.and_eq_true, decide_eq_true_eq]
  refine ⟨⟨⟨?_, ?_⟩, ?_⟩, ?_⟩
  · simp [isR, isRs, h, hr]
  · simp only [dep, deps]; omega
  · simp [iOk, iOks, hi]
  · simp only [rsz, rszs]; omega
def Comes (f : M RV) (vs : List Val) : Sum Val Val → Prop
  | .inl v => ∃ r, (r = .dat v ∨ r = .tmp v) ∧ f (vs.map .dat) = .ok r (List.replicate vs.length .un)
  | .inr x => f (vs.map .dat) = .rs x (List.replicate vs.length .un)
end
end Pu.Q
set_option Elab.async false
set_option linter.all false
set_option maxRecDepth 100000
set_option maxHeartbeats 8000000
set_option Elab.async false
set_option linter.all false
set_option maxRecDepth 100000
set_option maxHeartbeats 8000000
set_option Elab.async false
set_option linter.all false
set_option maxRecDepth 100000
set_option maxHeartbeats 8000000
namespace Pu.Q
open PySem PySem.Spec PyProof.Rows L2 Pu
section
variable {s l p : Int} {t : Str} {Q : RV → Ev → Prop}
theorem isDs_of : ∀ {vs : List Val}, (∀ v ∈ vs, isD v = true) → isDs vs = true
  | [], _ => rfl
  | v :: vs, h => by rw [isDs, h v List.mem_cons_self, isDs_of fun u hu => h u (List.mem_cons_of_mem _ hu)]; rfl
theorem deps_of {k : Nat} : ∀ {vs : List Val}, (∀ v ∈ vs, dep v ≤ k) → deps vs ≤ k
  | [], _ => Nat.zero_le _
  | v :: vs, h => by
    rw [deps]
    have h1 := h v List.mem_cons_self
    have h2 := deps_of fun u hu => h u (List.mem_cons_of_mem _ hu)
    omega
theorem nbs_of : ∀ {vs : List Val}, (∀ v ∈ vs, nb v = true) → nbs vs = true
  | [], _ => rfl
  | v :: vs, h => by rw [nbs, h v List.mem_cons_self, nbs_of fun u hu => h u (List.mem_cons_of_mem _ hu)]; rfl
structure Pl (k : Nat) (v : Val) : Prop where
  d : isD v = true
  h : dep v ≤ k
  b : nb v = true
theorem Pl.int {i : Int} : Pl 0 (.int i) := ⟨rfl, Nat.le_refl _, rfl⟩
theorem Pl.lst {k : Nat} {vs : List Val} (h : ∀ v ∈ vs, Pl k v) : Pl (k + 1) (.lst vs) := by
  have := deps_of fun v hv => (h v hv).h
  exact ⟨by rw [isD]; exact isDs_of fun v hv => (h v hv).d, by rw [dep]; omega, by rw [nb]; exact nbs_of fun v hv => (h v hv).b⟩
theorem Pl.tup {k : Nat} {vs : List Val} (h : ∀ v ∈ vs, Pl k v) : Pl (k + 1) (.tup vs) := by
  have := deps_of fun v hv => (h v hv).h
  exact ⟨by rw [isD]; exact isDs_of fun v hv => (h v hv).d, by rw [dep]; omega, by rw [nb]; exact nbs_of fun v hv => (h v hv).b⟩
end
end Pu.Q
set_option Elab.async false
set_option linter.all false
set_option maxRecDepth 100000
set_option maxHeartbeats 8000000
set_option Elab.async false
set_option linter.all false
set_option maxRecDepth 100000
set_option maxHeartbeats 8000000
namespace Pu.Q
open PySem PySem.Spec PyProof.Rows L2 Pu
section
variable {s l p : Int} {t : Str} {Q : RV → Ev → Prop}
def pr (a : Stay) : Int × Int := (a.1, a.2.1)
def bkGo : List Note → List Int → Nat → List (Int × Int) → List (Int × Int)
  | n :: r, c :: cs, k, acc => match n.2.2 with
    | none => bkGo r cs (k + 1) acc
    | some _ => if c = 0 then bkGo r cs (k + 1) (setB acc (k : Int)) else bkGo r cs (k + 1) (acc ++ [((k : Int), (k : Int))])
  | _, _, _, acc => acc
theorem setLast_pr {f : List Stay} {k : Int} : (setLast f k).map pr = setB (f.map pr) k := by
  rcases List.eq_nil_or_concat f with z | ⟨g, a, z⟩
  · subst z; rfl
  · rw [List.concat_eq_append] at z
    subst z
    rw [setLast_some (a := a) (by simp), List.dropLast_concat, List.map_append, List.map_append]
    exact (setB_some (acc := g.map pr) (a := pr a) (k := k)).symm
theorem st_pairs : ∀ (rest : List Note) (i : Nat) (xs cs : List Int) (w w' : FS), stGo s p t rest xs cs i w = some w' → w'.found.map pr = bkGo rest cs i (w.found.map pr)
  | [], i, xs, cs, w, w', e => by simp only [stGo] at e; cases e; rfl
  | n :: r, i, [], cs, w, w', e => by simp [stGo] at e
  | n :: r, i, x :: xs, [], w, w', e => by simp [stGo] at e
  | n :: r, i, x :: xs, c :: cs, w, w', e => by
    simp only [stGo] at e
    cases e1 : stStep s p t i n x c w with
    | none => rw [e1] at e; cases e
    | some w1 =>
      rw [e1] at e
      have ih := st_pairs r (i + 1) xs cs w1 w' e
      obtain ⟨lo, hi_, m⟩ := n
      cases m with
      | none =>
        have ef : w1.found = w.found := by
          simp only [stStep] at e1
          split at e1
          · cases e1; rfl
          · split at e1
            · cases e1
            · cases e1; rfl
        rw [ef] at ih
        exact ih
      | some m =>
        simp only [stStep] at e1
        simp only [bkGo]
        by_cases c0 : c = 0
        · rw [if_pos c0] at e1 ⊢
          cases e1
          rw [ih]
          simp only
          rw [setLast_pr]
        · rw [if_neg c0] at e1 ⊢
          split at e1
          · cases e1
          · cases e1
            rw [ih, List.map_append]
            rfl
def cutAt (ns : List Note) (cs : List Int) (i : Nat) : Bool := (mkAt ns i).isSome && decide (cs.getD i 1 ≠ 0)
def cntTo (ns : List Note) (cs : List Int) : Nat → Nat
  | 0 => 0
  | n + 1 => cntTo ns cs n + (if cutAt ns cs n = true then 1 else 0)
theorem cutN_mono {ns : List Note} {cs : List Int} {i : Nat} : ∀ {j : Nat}, i ≤ j → cntTo ns cs i ≤ cntTo ns cs j := fun {j} => by
  induction j with
  | zero => intro h; rw [Nat.le_zero.mp h]; exact Nat.le_refl _
  | succ j ih =>
    intro h
    by_cases e : i = j + 1
    · rw [e]; exact Nat.le_refl _
    · have := ih (by omega)
      simp only [cntTo]
      omega
theorem cutN_eq {ns : List Note} {cs : List Int} {i : Nat} : ∀ {j : Nat}, i ≤ j → (cntTo ns cs i = cntTo ns cs j ↔ ∀ a, i ≤ a → a < j → cutAt ns cs a = false) := fun {j} => by
  induction j with
  | zero => intro h; rw [Nat.le_zero.mp h]; exact ⟨fun _ a _ h2 => by omega, fun _ => rfl⟩
  | succ j ih =>
    intro h
    by_cases e : i = j + 1
    · rw [e]; exact ⟨fun _ a h1 h2 => by omega, fun _ => rfl⟩
    · have ih := ih (by omega)
      have m := cutN_mono (ns := ns) (cs := cs) (show i ≤ j by omega)
      simp only [cntTo]
      constructor
      · intro z a h1 h2
        by_cases ea : a = j
        · subst ea
          cases c : cutAt ns cs a with
          | false => rfl
          | true => rw [c] at z; simp at z; omega
        · exact ih.mp (by omega) a h1 (by omega)
      · intro z
        rw [z j (by omega) (by omega), ih.mpr fun a h1 h2 => z a h1 (by omega)]
        simp
structure BK (ns : List Note) (cs : List Int) (n : Nat) (ps : List (Int × Int)) : Prop where
  len : ps.length = cntTo ns cs n
  at_ : ∀ (i : Nat) (a b : Int), ps[i]? = some (a, b) → 0 ≤ a ∧ a ≤ b ∧ b < n ∧ ∀ k : Nat, k < n → (mkAt ns k).isSome = true → ((a ≤ k ∧ (k : Int) ≤ b) ↔ i + 1 = cntTo ns cs (k + 1))
  last : 0 < n → (mkAt ns (n - 1)).isSome = true → ∃ g a, ps = g ++ [(a, (n : Int) - 1)]
theorem bk_none {ns : List Note} {cs : List Int} {n : Nat} {ps : List (Int × Int)} (B : BK ns cs n ps) (h : mkAt ns n = none) : BK ns cs (n + 1) ps := by
  have c : cutAt ns cs n = false := by unfold cutAt; rw [h]; rfl
  refine ⟨by rw [B.len]; simp [cntTo, c], fun i a b e => ?_, fun _ z => ?_⟩
  · obtain ⟨h1, h2, h3, h4⟩ := B.at_ i a b e
    refine ⟨h1, h2, by omega, fun k hk mk => h4 k ?_ mk⟩
    refine Nat.lt_of_le_of_ne (by omega) fun z => ?_
    rw [z, h] at mk; cases mk
  · rw [Nat.add_sub_cancel, h] at z; cases z
theorem bk_cut {ns : List Note} {cs : List Int} {n : Nat} {ps : List (Int × Int)} (B : BK ns cs n ps) (h : (mkAt ns n).isSome = true) (hc : cs.getD n 1 ≠ 0) : BK ns cs (n + 1) (ps ++ [((n : Int), (n : Int))]) := by
  have c : cutAt ns cs n = true := by unfold cutAt; rw [h, decide_eq_true hc]; rfl
  have cn : cntTo ns cs (n + 1) = cntTo ns cs n + 1 := by simp [cntTo, c]
  refine ⟨by rw [List.length_append, B.len, cn]; rfl, fun i a b e => ?_, fun _ _ => ⟨ps, n, by simp⟩⟩
  by_cases hi : i < ps.length
  · rw [List.getElem?_append_left hi] at e
    obtain ⟨h1, h2, h3, h4⟩ := B.at_ i a b e
    refine ⟨h1, h2, by omega, fun k hk mk => ?_⟩
    by_cases kn : k = n
    · subst kn
      rw [cn, ← B.len]
      exact ⟨fun z => by omega, fun z => by omega⟩
    · exact h4 k (by omega) mk
  · have hi2 : i = ps.length := by
      have := (List.getElem?_eq_some_iff.mp e).1
      rw [List.length_append, List.length_singleton] at this
      omega
    subst hi2
    rw [List.getElem?_append_right (Nat.le_refl _), Nat.sub_self] at e
    cases e
    refine ⟨by omega, by omega, by omega, fun k hk mk => ?_⟩
    by_cases kn : k = n
    · subst kn
      rw [cn, ← B.len]
      exact ⟨fun _ => rfl, fun _ => ⟨by omega, by omega⟩⟩
    · have := cutN_mono (ns := ns) (cs := cs) (show k + 1 ≤ n by omega)
      rw [B.len]
      exact ⟨fun z => by omega, fun z => by omega⟩
theorem bk_join {ns : List Note} {cs : List Int} {n : Nat} {ps : List (Int × Int)} (B : BK ns cs n ps) (h : (mkAt ns n).isSome = true) (hc : cs.getD n 1 = 0) (h0 : 0 < n) (hp : (mkAt ns (n - 1)).isSome = true) : BK ns cs (n + 1) (setB ps (n : Int)) := by
  have c : cutAt ns cs n = false := by unfold cutAt; rw [decide_eq_false (fun z => z hc), Bool.and_false]
  have cn : cntTo ns cs (n + 1) = cntTo ns cs n := by simp [cntTo, c]
  obtain ⟨g, a0, rfl⟩ := B.last h0 hp
  rw [setB_some]
  simp only
  have L := B.len
  rw [List.length_append, List.length_singleton] at L
  refine ⟨by rw [List.length_append, List.length_singleton, cn, L], fun i a b e => ?_, fun _ _ => ⟨g, a0, by simp⟩⟩
  by_cases hi : i < g.length
  · rw [List.getElem?_append_left hi] at e
    obtain ⟨h1, h2, h3, h4⟩ := B.at_ i a b (by rw [List.getElem?_append_left hi]; exact e)
    refine ⟨h1, h2, by omega, fun k hk mk => ?_⟩
    by_cases kn : k = n
    · subst kn
      rw [cn, ← L]
      exact ⟨fun z => by omega, fun z => by omega⟩
    · exact h4 k (by omega) mk
  · have hi2 : i = g.length := by
      have := (List.getElem?_eq_some_iff.mp e).1
      rw [List.length_append, List.length_singleton] at this
      omega
    subst hi2
    rw [List.getElem?_append_right (Nat.le_refl _), Nat.sub_self] at e
    cases e
    obtain ⟨h1, h2, h3, h4⟩ := B.at_ g.length a0 ((n : Int) - 1) (by rw [List.getElem?_append_right (Nat.le_refl _), Nat.sub_self]; rfl)
    refine ⟨h1, by omega, by omega, fun k hk mk => ?_⟩
    by_cases kn : k = n
    · subst kn
      rw [cn, ← L]
      exact ⟨fun _ => rfl, fun _ => ⟨by omega, by omega⟩⟩
    · rw [← h4 k (by omega) mk]
      exact ⟨fun z => ⟨z.1, by omega⟩, fun z => ⟨z.1, by omega⟩⟩
theorem bk_go {ns : List Note} {cs : List Int} (hl : cs.length = ns.length) (hz : ∀ j, cs[j]? = some 0 → joinsB ns j [] = true) : ∀ (rest : List Note) (k : Nat) (ps : List (Int × Int)), ns.drop k = rest → k ≤ ns.length → BK ns cs k ps → BK ns cs ns.length (bkGo rest (cs.drop k) k ps)
  | [], k, ps, hd, hk, B => by
    have : ns.length ≤ k := List.drop_eq_nil_iff.mp hd
    have e : k = ns.length := by omega
    subst e
    cases h : cs.drop ns.length <;> exact B
  | n :: r, k, ps, hd, hk, B => by
    obtain ⟨hi, hr⟩ := drop_head hd
    have mk := mkAt_get hi
    have lt : k < ns.length := (List.getElem?_eq_some_iff.mp hi).1
    have kc : k < cs.length := by omega
    rw [List.drop_eq_getElem_cons kc]
    have gd : cs.getD k 1 = cs[k] := by rw [List.getD_eq_getElem?_getD, List.getElem?_eq_getElem kc]; rfl
    have ih := fun ps => bk_go hl hz r (k + 1) ps hr (by omega)
    simp only [bkGo]
    cases hm : n.2.2 with
    | none => exact ih _ (bk_none B (by rw [mk, hm]))
    | some m =>
      simp only
      by_cases c0 : cs[k] = 0
      · rw [if_pos c0]
        obtain ⟨j1, j2, j3⟩ := joins_same (hz k (by rw [List.getElem?_eq_getElem kc, c0]))
        exact ih _ (bk_join B (by rw [mk, hm]; rfl) (by rw [gd, c0]) j1 (by rw [j3, mk, hm]; rfl))
      · rw [if_neg c0]
        exact ih _ (bk_cut B (by rw [mk, hm]; rfl) (by rw [gd]; exact c0))
theorem fit_bk {ns : List Note} {xs cs : List Int} {f : List Stay} (hc : cs ∈ cutsL ns) (e : staysL s p t ns xs cs = some f) : BK ns cs ns.length (f.map pr) := by
  obtain ⟨h1, h2⟩ := mem_cuts.mp hc
  unfold staysL at e
  cases hw : stGo s p t ns xs cs 0 fs0 with
  | none => rw [hw] at e; cases e
  | some w =>
    rw [hw] at e
    cases e
    rw [st_pairs ns 0 xs cs fs0 w hw]
    have := bk_go (ns := ns) (cs := cs) h1 (fun j z => by
      rcases h2 j 0 z with q | q
      · exact absurd q (by decide)
      · exact q.2) ns 0 [] rfl (Nat.zero_le _) ⟨rfl, fun i a b z => by simp at z, fun z => by omega⟩
    rwa [List.drop_zero] at this
theorem cutN_le {ns : List Note} {cs : List Int} {k : Nat} {ps : List (Int × Int)} (B : BK ns cs ns.length ps) (hk : k < ns.length) : cntTo ns cs (k + 1) ≤ ps.length := by
  rw [B.len]
  exact cutN_mono (by omega)
theorem range_one {c : Nat} : ∀ {n : Nat}, c < n → (List.range n).filter (fun j => decide (j = c)) = [c]
  | 0, h => by omega
  | n + 1, h => by
    rw [List.range_succ, List.filter_append]
    by_cases e : c = n
    · subst e
      have : (List.range c).filter (fun j => decide (j = c)) = [] := by
        rw [List.filter_eq_nil_iff]
        intro a ha
        have := List.mem_range.mp ha
        simp; omega
      rw [this]
      simp
    · rw [range_one (n := n) (by omega)]
      have : ¬ n = c := fun z => e z.symm
      simp [this]
end
end Pu.Q
set_option Elab.async false
set_option linter.all false
set_option maxRecDepth 100000
set_option maxHeartbeats 8000000
namespace Pu.Q
open PySem PySem.Spec PyProof.Rows L2 Pu
section
variable {s l p : Int} {t : Str} {Q : RV → Ev → Prop}
theorem cut_here {ns : List Note} {cs : List Int} {a : Nat} (hc : cs ∈ cutsL ns) (ha : a < ns.length) (mk : (mkAt ns a).isSome = true) (h : cutAt ns cs a = false) : cs[a]? = some 0 ∧ joinsB ns a [] = true := by
  obtain ⟨h1, h2⟩ := mem_cuts.mp hc
  have lt : a < cs.length := by omega
  unfold cutAt at h
  rw [mk, Bool.true_and, List.getD_eq_getElem?_getD, List.getElem?_eq_getElem lt, Option.getD_some] at h
  have e : cs[a] = 0 := by simpa using h
  have e2 : cs[a]? = some 0 := by rw [List.getElem?_eq_getElem lt, e]
  refine ⟨e2, ?_⟩
  rcases h2 a 0 e2 with q | q
  · exact absurd q (by decide)
  · exact q.2
theorem cutN_one {ns : List Note} {cs : List Int} (hc : cs ∈ cutsL ns) : ∀ {k : Nat}, k < ns.length → (mkAt ns k).isSome = true → 1 ≤ cntTo ns cs (k + 1)
  | k, hk, mk => by
    cases c : cutAt ns cs k with
    | true => simp only [cntTo, c, if_true]; omega
    | false =>
      obtain ⟨_, j⟩ := cut_here hc hk mk c
      obtain ⟨j1, j2, j3⟩ := joins_same j
      have ih := cutN_one hc (k := k - 1) (by omega) (by rw [j3]; exact mk)
      have := cutN_mono (ns := ns) (cs := cs) (show k - 1 + 1 ≤ k + 1 by omega)
      omega
  termination_by k => k
  decreasing_by omega
def jAll (ns : List Note) (k j : Nat) : Bool := (List.range' (k + 1) (j - k)).all fun i => joinsB ns i []
theorem mem_btw {k j a : Nat} (h : k < j) : a ∈ List.range' (k + 1) (j - k) ↔ k < a ∧ a ≤ j := by
  rw [List.mem_range'_1]; omega
theorem same_iff {ns : List Note} {cs : List Int} {k j : Nat} (h : k < j) : cntTo ns cs (k + 1) = cntTo ns cs (j + 1) ↔ ∀ a, k < a → a ≤ j → cutAt ns cs a = false := by
  rw [cutN_eq (show k + 1 ≤ j + 1 by omega)]
  exact ⟨fun z a h1 h2 => z a (by omega) (by omega), fun z a h1 h2 => z a (by omega) (by omega)⟩
theorem same_joins {ns : List Note} {cs : List Int} {k j : Nat} (hc : cs ∈ cutsL ns) (h : k < j) (hj : j < ns.length) (mj : (mkAt ns j).isSome = true) (e : cntTo ns cs (k + 1) = cntTo ns cs (j + 1)) : jAll ns k j = true := by
  have ct := (same_iff h).mp e
  have go : ∀ d, k < j - d → (mkAt ns (j - d)).isSome = true ∧ joinsB ns (j - d) [] = true := by
    intro d
    induction d with
    | zero => intro _; exact ⟨mj, (cut_here hc hj mj (ct j h (Nat.le_refl _))).2⟩
    | succ d ih =>
      intro hd
      obtain ⟨m1, m2⟩ := ih (by omega)
      obtain ⟨j1, j2, j3⟩ := joins_same m2
      have m3 : (mkAt ns (j - (d + 1))).isSome = true := by rw [show j - (d + 1) = j - d - 1 by omega, j3]; exact m1
      exact ⟨m3, (cut_here hc (by omega) m3 (ct _ hd (by omega))).2⟩
  unfold jAll
  rw [List.all_eq_true]
  intro a ha
  obtain ⟨h1, h2⟩ := (mem_btw h).mp ha
  have := (go (j - a) (by omega)).2
  rwa [show j - (j - a) = a by omega] at this
def inSt (f : List Stay) (k : Int) (i : Nat) : Bool := match f[i]? with
  | some a => decide (a.1 ≤ k) && decide (k ≤ a.2.1)
  | none => false
def lawOf (f : List Stay) (k : Int) : Nat := ((List.range f.length).filter (inSt f k)).headD 0
theorem lawOf_l {ns : List Note} {cs : List Int} {f : List Stay} {k : Nat} (B : BK ns cs ns.length (f.map pr)) (hc : cs ∈ cutsL ns) (hk : k < ns.length) (mk : (mkAt ns k).isSome = true) : (List.range f.length).filter (inSt f k) = [cntTo ns cs (k + 1) - 1] := by
  have c1 := cutN_one hc hk mk
  have c2 := cutN_le B hk
  rw [List.length_map] at c2
  rw [← range_one (show cntTo ns cs (k + 1) - 1 < f.length by omega)]
  refine List.filter_congr fun i hi => ?_
  have lt := List.mem_range.mp hi
  unfold inSt
  rw [List.getElem?_eq_getElem lt]
  obtain ⟨h1, h2, h3, h4⟩ := B.at_ i f[i].1 f[i].2.1 (by rw [List.getElem?_map, List.getElem?_eq_getElem lt]; rfl)
  have := h4 k hk mk
  simp only
  by_cases z : f[i].1 ≤ (k : Int) ∧ (k : Int) ≤ f[i].2.1
  · rw [decide_eq_true z.1, decide_eq_true z.2, decide_eq_true (show i = cntTo ns cs (k + 1) - 1 by have := this.mp z; omega)]; rfl
  · rw [decide_eq_false (show ¬ i = cntTo ns cs (k + 1) - 1 from fun q => z (this.mpr (by omega)))]
    cases h5 : decide (f[i].1 ≤ (k : Int)) with
    | false => rfl
    | true => rw [decide_eq_false (fun q => z ⟨of_decide_eq_true h5, q⟩)]; rfl
theorem lawOf_is {ns : List Note} {cs : List Int} {f : List Stay} {k : Nat} (B : BK ns cs ns.length (f.map pr)) (hc : cs ∈ cutsL ns) (hk : k < ns.length) (mk : (mkAt ns k).isSome = true) : lawOf f k = cntTo ns cs (k + 1) - 1 := by
  unfold lawOf
  rw [lawOf_l B hc hk mk]
  rfl
end
end Pu.Q
set_option Elab.async false
set_option linter.all false
set_option maxRecDepth 100000
set_option maxHeartbeats 8000000
set_option Elab.async false
set_option linter.all false
set_option maxRecDepth 100000
set_option maxHeartbeats 8000000
set_option Elab.async false
set_option linter.all false
set_option maxRecDepth 100000
set_option maxHeartbeats 8000000
namespace Pu.Q
open PySem PySem.Spec PyProof.Rows L2 Pu
section
variable {s l p : Int} {t : Str} {Q : RV → Ev → Prop}
theorem mn_le' {i j : Int} : mn i j ≤ i ∧ mn i j ≤ j := by unfold mn; split <;> omega
end
end Pu.Q
set_option Elab.async false
set_option linter.all false
set_option maxRecDepth 100000
set_option maxHeartbeats 8000000
set_option Elab.async false
set_option linter.all false
set_option maxRecDepth 100000
set_option maxHeartbeats 8000000
set_option Elab.async false
set_option linter.all false
set_option maxRecDepth 100000
set_option maxHeartbeats 8000000
set_option Elab.async false
set_option linter.all false
set_option maxRecDepth 100000
set_option maxHeartbeats 8000000
set_option Elab.async false
set_option linter.all false
set_option maxRecDepth 100000
set_option maxHeartbeats 8000000
namespace Pu.Q
open PySem PySem.Spec PyProof.Rows L2 Pu
section
variable {s l p : Int} {t : Str} {Q : RV → Ev → Prop}
theorem Mins.bnd : ∀ {ns : List Note} {q : Option Int} {xs : List Int}, Mins ns q xs → ∀ {j : Nat} {n : Note} {x : Int}, ns[j]? = some n → xs[j]? = some x → n.1 ≤ x ∧ x ≤ n.2.1
  | [], _, _, _, j, n, x, h, _ => by simp at h
  | n0 :: r, q, xs, M, j, n, x, h, hx => by
    obtain ⟨y, ys, rfl, a, b, _, M'⟩ := M
    cases j with
    | zero =>
      simp only [List.getElem?_cons_zero] at h hx
      cases h; cases hx
      exact ⟨a, b⟩
    | succ j => exact M'.bnd (by simpa using h) (by simpa using hx)
theorem Mins.low : ∀ {ns : List Note} {y : Int} {xs : List Int}, Mins ns (some y) xs → ∀ {j : Nat} {b : Int}, xs[j]? = some b → y ≤ b
  | [], _, _, M, j, b, h => by rw [show _ = [] from M] at h; simp at h
  | n :: r, y, _, M, j, b, h => by
    obtain ⟨x, xs', rfl, _, _, c, M'⟩ := M
    have := c y rfl
    cases j with
    | zero => simp only [List.getElem?_cons_zero] at h; cases h; exact this
    | succ j => have := M'.low (j := j) (by simpa using h); omega
theorem Mins.mono : ∀ {ns : List Note} {q : Option Int} {xs : List Int}, Mins ns q xs → ∀ {i j : Nat} {a b : Int}, i ≤ j → xs[i]? = some a → xs[j]? = some b → a ≤ b
  | [], _, _, M, i, j, a, b, _, h, _ => by rw [show _ = [] from M] at h; simp at h
  | n :: r, q, xs, M, i, j, a, b, hij, ha, hb => by
    obtain ⟨x, xs', rfl, _, _, _, M'⟩ := M
    cases i with
    | zero =>
      simp only [List.getElem?_cons_zero] at ha
      cases ha
      cases j with
      | zero => simp only [List.getElem?_cons_zero] at hb; cases hb; exact Int.le_refl _
      | succ j => exact M'.low (by simpa using hb)
    | succ i =>
      cases j with
      | zero => omega
      | succ j => exact M'.mono (i := i) (j := j) (by omega) (by simpa using ha) (by simpa using hb)
theorem getD_of {xs : List Int} {j : Nat} {x : Int} (h : xs[j]? = some x) : xs.getD j 0 = x := by rw [List.getD_eq_getElem?_getD, h]; rfl
theorem get_lt {α : Type} {xs : List α} {j : Nat} (h : j < xs.length) : ∃ x, xs[j]? = some x := ⟨_, List.getElem?_eq_getElem h⟩
def SameM (ns ns' : List Note) : Prop := ns'.map (·.2.2) = ns.map (·.2.2)
theorem SameM.len {ns ns' : List Note} (h : SameM ns ns') : ns'.length = ns.length := by
  have := congrArg List.length h
  simpa using this
theorem SameM.mk {ns ns' : List Note} (h : SameM ns ns') (i : Nat) : mkAt ns' i = mkAt ns i := by
  have := congrArg (fun z => z[i]?) h
  simp only [List.getElem?_map] at this
  unfold mkAt
  cases h1 : ns'[i]? with
  | none =>
    rw [h1] at this
    cases h2 : ns[i]? with
    | none => rfl
    | some b => rw [h2] at this; cases this
  | some a =>
    rw [h1] at this
    cases h2 : ns[i]? with
    | none => rw [h2] at this; cases this
    | some b => rw [h2] at this; exact Option.some.inj this
theorem SameM.joins {ns ns' : List Note} (h : SameM ns ns') (i : Nat) (ap : List Int) : joinsB ns' i ap = joinsB ns i ap := by
  unfold joinsB
  rw [h.mk, h.mk]
theorem SameM.cuts {ns ns' : List Note} (h : SameM ns ns') {cs : List Int} : cs ∈ cutsL ns' ↔ cs ∈ cutsL ns := by
  rw [mem_cuts, mem_cuts, h.len]
  simp only [h.joins]
theorem SameM.cutsOf {ns ns' : List Note} (h : SameM ns ns') (ap : List Int) : cutsOf ns' ap = cutsOf ns ap := by
  unfold Pu.Q.cutsOf
  rw [h.len]
  refine List.map_congr_left fun i _ => ?_
  unfold cutOf
  rw [h.joins]
theorem setB_fst {f : List (Int × Int)} {k : Int} {P : Int × Int → Prop} (h : ∀ q ∈ f, P q) (hP : ∀ q, P q → P (q.1, k)) : ∀ q ∈ setB f k, P q := by
  rcases List.eq_nil_or_concat f with z | ⟨g, b, z⟩
  · subst z
    intro q hq
    cases hq
  · rw [List.concat_eq_append] at z
    subst z
    rw [setB_some]
    intro q hq
    rcases List.mem_append.mp hq with q1 | q1
    · exact h q (List.mem_append_left _ q1)
    · rw [List.mem_singleton] at q1
      rw [q1]
      exact hP b (h b (List.mem_append_right _ (List.mem_singleton.mpr rfl)))
theorem first_ok {ns : List Note} : ∀ (rest : List Note) (i : Nat) (cs : List Int) (L : List (Int × Int)), ns.drop i = rest → (∀ q ∈ L, ∃ m, mkAt ns q.1.toNat = some m) → ∀ q ∈ bkGo rest cs i L, ∃ m, mkAt ns q.1.toNat = some m
  | [], i, cs, L, _, h => by simpa only [bkGo] using h
  | n :: r, i, [], L, _, h => by simpa only [bkGo] using h
  | n :: r, i, c :: cs, L, hd, h => by
    obtain ⟨hi, hr⟩ := drop_head hd
    have mk := mkAt_get hi
    have ih := fun L => first_ok r (i + 1) cs L hr
    simp only [bkGo]
    cases hm : n.2.2 with
    | none => exact ih L h
    | some m =>
      simp only
      by_cases c0 : c = 0
      · rw [if_pos c0]
        exact ih _ (setB_fst h fun q hq => hq)
      · rw [if_neg c0]
        refine ih _ fun a ha => ?_
        rcases List.mem_append.mp ha with q | q
        · exact h a q
        · rw [List.mem_singleton.mp q]; exact ⟨m, by rw [Int.toNat_natCast, mk, hm]⟩
theorem fit_firsts {ns : List Note} {xs cs : List Int} {f : List Stay} (e : staysL s p t ns xs cs = some f) : ∀ a ∈ f, ∃ m, mkAt ns a.1.toNat = some m := by
  intro a ha
  unfold staysL at e
  cases hw : stGo s p t ns xs cs 0 fs0 with
  | none => rw [hw] at e; cases e
  | some w =>
    rw [hw] at e
    cases e
    have := st_pairs ns 0 xs cs fs0 w hw
    have g := first_ok ns 0 cs [] rfl (fun q hq => by cases hq) (pr a) (by
      have : pr a ∈ w.found.map pr := List.mem_map.mpr ⟨a, ha, rfl⟩
      rw [st_pairs ns 0 xs cs fs0 w hw] at this
      exact this)
    exact g
structure StayOf (ns : List Note) (cs : List Int) (f : List Stay) (k : Nat) (a : Stay) : Prop where
  at_ : f[lawOf f k]? = some a
  lo : 0 ≤ a.1
  hi : 0 ≤ a.2.1
  l1 : a.1.toNat ≤ k
  l2 : k ≤ a.2.1.toNat
  l3 : a.2.1.toNat < ns.length
  zer : ∀ j, a.1.toNat < j → j ≤ a.2.1.toNat → cs[j]? = some 0
  out : cs[a.2.1.toNat + 1]? ≠ some 0
  beg : cs[a.1.toNat]? ≠ some 0
  mb : ∃ m, mkAt ns a.2.1.toNat = some m
  ma : ∃ m, mkAt ns a.1.toNat = some m
theorem stay_end {ns : List Note} {xs cs : List Int} {f : List Stay} {k : Nat} (hc : cs ∈ cutsL ns) (e : staysL s p t ns xs cs = some f) (hk : k < ns.length) (mk : (mkAt ns k).isSome = true) : ∃ a, StayOf ns cs f k a := by
  have B := fit_bk hc e
  obtain ⟨l1, l2⟩ := mem_cuts.mp hc
  have c1 := cutN_one hc hk mk
  have c2 := cutN_le B hk
  rw [List.length_map] at c2
  have li := lawOf_is B hc hk mk
  obtain ⟨a, ha⟩ := get_lt (xs := f) (show cntTo ns cs (k + 1) - 1 < f.length by omega)
  obtain ⟨h1, h2, h3, h4⟩ := B.at_ (cntTo ns cs (k + 1) - 1) a.1 a.2.1 (by rw [List.getElem?_map, ha]; rfl)
  have hkk := (h4 k hk mk).mpr (by omega)
  have am : a ∈ f := List.mem_of_getElem? ha
  have mb : ∃ m, mkAt ns a.2.1.toNat = some m := by
    refine (last_ok ns 0 cs [] rfl (fun a ha => by cases ha) a.2.1 ?_).2
    rw [← fit_lasts hc e]
    exact List.mem_map.mpr ⟨a, am, rfl⟩
  have ma := fit_firsts e a am
  have mbs : (mkAt ns a.2.1.toNat).isSome = true := by obtain ⟨m, hm⟩ := mb; rw [hm]; rfl
  have mas : (mkAt ns a.1.toNat).isSome = true := by obtain ⟨m, hm⟩ := ma; rw [hm]; rfl
  have eb : ((a.2.1.toNat : Nat) : Int) = a.2.1 := by omega
  have ea : ((a.1.toNat : Nat) : Int) = a.1 := by omega
  have cb := (h4 a.2.1.toNat (by omega) mbs).mp ⟨by omega, by omega⟩
  have ca := (h4 a.1.toNat (by omega) mas).mp ⟨by omega, by omega⟩
  have zero : ∀ j, cs[j]? = some 0 → joinsB ns j [] = true := fun j z => by
    rcases l2 j 0 z with q | q
    · exact absurd q (by decide)
    · exact q.2
  have nocut : ∀ j, cs[j]? = some 0 → cutAt ns cs j = false := fun j z => by
    unfold cutAt
    rw [List.getD_eq_getElem?_getD, z]
    simp
  refine ⟨a, ⟨by rw [li]; exact ha, h1, by omega, by omega, by omega, by omega, fun j j1 j2 => ?_, fun z => ?_, fun z => ?_, mb, ma⟩⟩
  · have lt : a.1.toNat < a.2.1.toNat := by omega
    have cc : cntTo ns cs (a.1.toNat + 1) = cntTo ns cs (a.2.1.toNat + 1) := by omega
    have J := same_joins hc lt (by omega) mbs cc
    have ct := (same_iff lt).mp cc j j1 j2
    unfold jAll at J
    rw [List.all_eq_true] at J
    exact (cut_here hc (by omega) (joins_same (J j ((mem_btw lt).mpr ⟨j1, j2⟩))).2.1 ct).1
  · have j := zero _ z
    obtain ⟨j1, j2, j3⟩ := joins_same j
    have lt : a.2.1.toNat + 1 < ns.length := by
      refine Classical.byContradiction fun q => ?_
      rw [List.getElem?_eq_none (by omega)] at z
      cases z
    have cn := nocut _ z
    have : cntTo ns cs (a.2.1.toNat + 1 + 1) = cntTo ns cs (a.2.1.toNat + 1) := by simp [cntTo, cn]
    have := (h4 _ lt j2).mpr (by omega)
    omega
  · have j := zero _ z
    obtain ⟨j1, j2, j3⟩ := joins_same j
    have cn := nocut _ z
    have : cntTo ns cs (a.1.toNat + 1) = cntTo ns cs a.1.toNat := by simp [cntTo, cn]
    have := (h4 (a.1.toNat - 1) (by omega) (by rw [j3]; exact j2)).mpr (by rw [show a.1.toNat - 1 + 1 = a.1.toNat by omega]; omega)
    omega
theorem mk_same {ns : List Note} {k : Nat} : ∀ {j : Nat}, k ≤ j → (∀ i, k < i → i ≤ j → joinsB ns i [] = true) → mkAt ns j = mkAt ns k := fun {j} => by
  induction j with
  | zero => intro h _; rw [Nat.le_zero.mp h]
  | succ j ih =>
    intro h z
    by_cases e : k = j + 1
    · rw [e]
    · have := (joins_same (z (j + 1) (by omega) (Nat.le_refl _))).2.2
      rw [Nat.add_sub_cancel] at this
      rw [← this]
      exact ih (by omega) fun i h1 h2 => z i h1 (by omega)
theorem StayOf.joins {ns : List Note} {cs : List Int} {f : List Stay} {k : Nat} {a : Stay} (hc : cs ∈ cutsL ns) (S : StayOf ns cs f k a) : ∀ j, a.1.toNat < j → j ≤ a.2.1.toNat → joinsB ns j [] = true := fun j h1 h2 => by
  rcases (mem_cuts.mp hc).2 j 0 (S.zer j h1 h2) with q | q
  · exact absurd q (by decide)
  · exact q.2
def stayK (f : List Stay) (k : Nat) : Stay := (f[lawOf f k]?).getD (0, 0, 0, 0)
theorem StayOf.is {ns : List Note} {cs : List Int} {f : List Stay} {k : Nat} {a : Stay} (S : StayOf ns cs f k a) : stayK f k = a := by unfold stayK; rw [S.at_]; rfl
end
end Pu.Q
set_option Elab.async false
set_option linter.all false
set_option maxRecDepth 100000
set_option maxHeartbeats 8000000
set_option Elab.async false
set_option linter.all false
set_option maxRecDepth 100000
set_option maxHeartbeats 8000000
set_option Elab.async false
set_option linter.all false
set_option maxRecDepth 100000
set_option maxHeartbeats 8000000
set_option Elab.async false
set_option linter.all false
set_option maxRecDepth 100000
set_option maxHeartbeats 8000000
set_option Elab.async false
set_option linter.all false
set_option maxRecDepth 100000
set_option maxHeartbeats 8000000
namespace Pu.Q
open PySem PySem.Spec PyProof.Rows L2 Pu
section
variable {s l p : Int} {t : Str} {Q : RV → Ev → Prop}
def lxA (ns : List Note) (xs : List Int) : Nat → Option Int
  | 0 => none
  | k + 1 => if (mkAt ns k).isSome = true then some (xs.getD k 0) else lxA ns xs k
def gnA (ns : List Note) (xs : List Int) : Nat → Int
  | 0 => -1
  | k + 1 => if (mkAt ns k).isSome = true then gnA ns xs k else xs.getD k 0
def lstA (s p : Int) (t : Str) (ns : List Note) (xs : List Int) (k : Nat) (m : Int) : Int := mx (mx (mx 0 (m - high t s)) (match lxA ns xs k with
  | none => 0
  | some y => y + p)) (gnA ns xs k + 1)
def OkA (s p : Int) (t : Str) (ns : List Note) (xs cs : List Int) (j : Nat) : Prop := (mkAt ns j = none → ∀ z, lxA ns xs j = some z → z < xs.getD j 0) ∧ ∀ m, mkAt ns j = some m → cs[j]? ≠ some 0 → lstA s p t ns xs j m ≤ mn (m - low t s) (xs.getD j 0)
def Arr (s p : Int) (t : Str) (ns : List Note) (xs : List Int) (a : Stay) : Prop := ∃ m, mkAt ns a.1.toNat = some m ∧ a.2.2.1 = lstA s p t ns xs a.1.toNat m ∧ a.2.2.2 = mn (m - low t s) (xs.getD a.1.toNat 0)
theorem arr_last {ns : List Note} {xs : List Int} {f : List Stay} {k : Int} (h : ∀ a ∈ f, Arr s p t ns xs a) : ∀ a ∈ setLast f k, Arr s p t ns xs a := by
  rcases List.eq_nil_or_concat f with z | ⟨g, b, z⟩
  · subst z
    intro q hq
    cases hq
  · rw [List.concat_eq_append] at z
    subst z
    rw [setLast_some (a := b) (by simp), List.dropLast_concat]
    intro q hq
    rcases List.mem_append.mp hq with q1 | q1
    · exact h q (List.mem_append_left _ q1)
    · rw [List.mem_singleton] at q1
      rw [q1]
      exact h b (List.mem_append_right _ (List.mem_singleton.mpr rfl))
theorem fit_go {ns : List Note} {xs cs : List Int} (hx : xs.length = ns.length) (hc : cs.length = ns.length) : ∀ (rest : List Note) (k : Nat) (w : FS), ns.drop k = rest → w.lx = lxA ns xs k → w.gone = gnA ns xs k → (∀ a ∈ w.found, Arr s p t ns xs a) →
    ((∃ w', stGo s p t rest (xs.drop k) (cs.drop k) k w = some w') ↔ ∀ j, k ≤ j → j < ns.length → OkA s p t ns xs cs j) ∧ ∀ w', stGo s p t rest (xs.drop k) (cs.drop k) k w = some w' → ∀ a ∈ w'.found, Arr s p t ns xs a
  | [], k, w, hd, h1, h2, h3 => by
    have : ns.length ≤ k := List.drop_eq_nil_iff.mp hd
    have e : stGo s p t [] (xs.drop k) (cs.drop k) k w = some w := by simp [stGo]
    rw [e]
    exact ⟨⟨fun _ j a b => by omega, fun _ => ⟨w, rfl⟩⟩, fun w' hw => by cases hw; exact h3⟩
  | n :: r, k, w, hd, h1, h2, h3 => by
    obtain ⟨hi, hr⟩ := drop_head hd
    have mk := mkAt_get hi
    have lt : k < ns.length := (List.getElem?_eq_some_iff.mp hi).1
    have kx : k < xs.length := by omega
    have kc : k < cs.length := by omega
    have gx : xs.getD k 0 = xs[k] := by rw [List.getD_eq_getElem?_getD, List.getElem?_eq_getElem kx]; rfl
    have gc : cs[k]? = some cs[k] := List.getElem?_eq_getElem kc
    rw [List.drop_eq_getElem_cons kx, List.drop_eq_getElem_cons kc]
    have split : (∀ j, k ≤ j → j < ns.length → OkA s p t ns xs cs j) ↔ OkA s p t ns xs cs k ∧ ∀ j, k + 1 ≤ j → j < ns.length → OkA s p t ns xs cs j := ⟨fun z => ⟨z k (Nat.le_refl _) lt, fun j a b => z j (by omega) b⟩, fun z j a b => by
      by_cases e : j = k
      · rw [e]; exact z.1
      · exact z.2 j (by omega) b⟩
    rw [split]
    simp only [stGo]
    have ih := fun w g1 g2 g3 => fit_go hx hc r (k + 1) w hr g1 g2 g3
    have sl : stLeast s p t = fun m (w : FS) => mx (mx (mx 0 (m - high t s)) (match w.lx with
      | none => 0
      | some y => y + p)) (w.gone + 1) := rfl
    have no : ∀ {w1 : FS}, stStep s p t k n xs[k] cs[k] w = some w1 → w1.lx = lxA ns xs (k + 1) → w1.gone = gnA ns xs (k + 1) → (∀ a ∈ w1.found, Arr s p t ns xs a) → OkA s p t ns xs cs k →
        (((∃ w', ((stStep s p t k n xs[k] cs[k] w).bind fun w' => stGo s p t r (xs.drop (k + 1)) (cs.drop (k + 1)) (k + 1) w') = some w') ↔ OkA s p t ns xs cs k ∧ ∀ j, k + 1 ≤ j → j < ns.length → OkA s p t ns xs cs j) ∧ ∀ w', ((stStep s p t k n xs[k] cs[k] w).bind fun w' => stGo s p t r (xs.drop (k + 1)) (cs.drop (k + 1)) (k + 1) w') = some w' → ∀ a ∈ w'.found, Arr s p t ns xs a) := fun {w1} e g1 g2 g3 g4 => by
      obtain ⟨i1, i2⟩ := ih w1 g1 g2 g3
      rw [e]
      exact ⟨⟨fun z => ⟨g4, i1.mp z⟩, fun z => i1.mpr z.2⟩, i2⟩
    have bad : stStep s p t k n xs[k] cs[k] w = none → ¬ OkA s p t ns xs cs k →
        (((∃ w', ((stStep s p t k n xs[k] cs[k] w).bind fun w' => stGo s p t r (xs.drop (k + 1)) (cs.drop (k + 1)) (k + 1) w') = some w') ↔ OkA s p t ns xs cs k ∧ ∀ j, k + 1 ≤ j → j < ns.length → OkA s p t ns xs cs j) ∧ ∀ w', ((stStep s p t k n xs[k] cs[k] w).bind fun w' => stGo s p t r (xs.drop (k + 1)) (cs.drop (k + 1)) (k + 1) w') = some w' → ∀ a ∈ w'.found, Arr s p t ns xs a) := fun e g => by
      rw [e]
      exact ⟨⟨fun z => (by obtain ⟨w', z⟩ := z; cases z), fun z => absurd z.1 g⟩, fun w' z => by cases z⟩
    obtain ⟨lo, hi_, m⟩ := n
    simp only at mk
    cases m with
    | none =>
      have l1 : lxA ns xs (k + 1) = lxA ns xs k := by simp [lxA, mk]
      have l2 : gnA ns xs (k + 1) = xs[k] := by simp only [gnA, mk]; rw [← gx]; rfl
      by_cases q : ∀ z, lxA ns xs k = some z → z < xs[k]
      · refine no (w1 := { w with gone := xs[k] }) ?_ (by rw [l1]; exact h1) (by rw [l2]) h3 ⟨fun _ => by rw [gx]; exact q, fun m hm => by rw [mk] at hm; cases hm⟩
        simp only [stStep, h1]
        cases hl : lxA ns xs k with
        | none => rfl
        | some z =>
          have := q z hl
          simp only
          rw [if_neg (by omega)]
      · refine bad ?_ (fun z => q (by have := z.1 mk; rwa [gx] at this))
        simp only [stStep, h1]
        cases hl : lxA ns xs k with
        | none => exact absurd (fun z hz => by rw [hl] at hz; cases hz) q
        | some z =>
          simp only
          rw [if_pos]
          refine Classical.byContradiction fun y => q fun z' hz' => ?_
          rw [hl] at hz'
          cases hz'
          omega
    | some m =>
      have l1 : lxA ns xs (k + 1) = some xs[k] := by simp only [lxA, mk]; rw [← gx]; rfl
      have l2 : gnA ns xs (k + 1) = gnA ns xs k := by simp [gnA, mk]
      by_cases c0 : cs[k] = 0
      · refine no (w1 := ⟨setLast w.found k, w.gone, some xs[k]⟩) (by simp only [stStep]; rw [if_pos c0]) (by rw [l1]) (by rw [l2]; exact h2) (arr_last h3) ⟨fun z => (by rw [mk] at z; cases z), fun m' hm z => absurd (by rw [gc, c0]) z⟩
      · have e1 : stLeast s p t m w = lstA s p t ns xs k m := by unfold stLeast lstA; rw [h1, h2] <;> rfl
        by_cases q : lstA s p t ns xs k m ≤ mn (m - low t s) xs[k]
        · refine no (w1 := ⟨w.found ++ [((k : Int), (k : Int), stLeast s p t m w, mn (m - low t s) xs[k])], w.gone, some xs[k]⟩) ?_ (by rw [l1]) (by rw [l2]; exact h2) (fun a ha => ?_) ⟨fun z => (by rw [mk] at z; cases z), fun m' hm _ => ?_⟩
          · simp only [stStep]
            rw [if_neg c0, if_neg (by omega)]
          · rcases List.mem_append.mp ha with q1 | q1
            · exact h3 a q1
            · rw [List.mem_singleton] at q1
              rw [q1]
              refine ⟨m, ?_, ?_, ?_⟩
              · simp only [Int.toNat_natCast]; exact mk
              · simp only [Int.toNat_natCast]; exact e1
              · simp only [Int.toNat_natCast]; rw [gx]
          · rw [mk] at hm
            cases hm
            rw [gx]
            exact q
        · refine bad ?_ (fun z => q (by have := z.2 m mk (fun y => c0 (by rw [gc] at y; exact Option.some.inj y)); rwa [gx] at this))
          simp only [stStep]
          rw [if_neg c0, if_pos (by omega)]
theorem fit_iff {ns : List Note} {xs cs : List Int} (hx : xs.length = ns.length) (hc : cs.length = ns.length) : (∃ f, staysL s p t ns xs cs = some f) ↔ ∀ j, j < ns.length → OkA s p t ns xs cs j := by
  have h := (fit_go (s := s) (p := p) (t := t) hx hc ns 0 fs0 rfl rfl rfl (fun a ha => by cases ha)).1
  rw [List.drop_zero, List.drop_zero] at h
  unfold staysL
  constructor
  · rintro ⟨f, e⟩ j hj
    cases hw : stGo s p t ns xs cs 0 fs0 with
    | none => rw [hw] at e; cases e
    | some w => exact h.mp ⟨w, hw⟩ j (Nat.zero_le _) hj
  · intro z
    obtain ⟨w, hw⟩ := h.mpr fun j _ hj => z j hj
    exact ⟨w.found, by rw [hw]; rfl⟩
theorem fit_arr {ns : List Note} {xs cs : List Int} {f : List Stay} (hx : xs.length = ns.length) (hc : cs.length = ns.length) (e : staysL s p t ns xs cs = some f) : ∀ a ∈ f, Arr s p t ns xs a := by
  have h := (fit_go (s := s) (p := p) (t := t) hx hc ns 0 fs0 rfl rfl rfl (fun a ha => by cases ha)).2
  rw [List.drop_zero, List.drop_zero] at h
  unfold staysL at e
  cases hw : stGo s p t ns xs cs 0 fs0 with
  | none => rw [hw] at e; cases e
  | some w =>
    rw [hw] at e
    cases e
    exact h w hw
end
end Pu.Q
set_option Elab.async false
set_option linter.all false
set_option maxRecDepth 100000
set_option maxHeartbeats 8000000
namespace Pu.Q
open PySem PySem.Spec PyProof.Rows L2 Pu
section
variable {s l p : Int} {t : Str} {Q : RV → Ev → Prop}
theorem Mins.mono' {ns : List Note} {q : Option Int} {xs : List Int} (M : Mins ns q xs) {i j : Nat} (h : i ≤ j) (hj : j < ns.length) : xs.getD i 0 ≤ xs.getD j 0 := by
  obtain ⟨a, ha⟩ := get_lt (xs := xs) (j := i) (by rw [M.len]; omega)
  obtain ⟨b, hb⟩ := get_lt (xs := xs) (j := j) (by rw [M.len]; omega)
  rw [getD_of ha, getD_of hb]
  exact M.mono h ha hb
theorem Mins.ge0 {ns : List Note} {q : Option Int} {xs : List Int} (h0 : ∀ n ∈ ns, 0 ≤ n.1) (M : Mins ns q xs) (j : Nat) : 0 ≤ xs.getD j 0 := by
  by_cases h : j < ns.length
  · obtain ⟨a, ha⟩ := get_lt (xs := xs) (j := j) (by rw [M.len]; omega)
    have := (M.bnd (List.getElem?_eq_getElem h) ha).1
    have := h0 ns[j] (List.getElem_mem h)
    rw [getD_of ha]
    omega
  · rw [List.getD_eq_getElem?_getD, List.getElem?_eq_none (by rw [M.len]; omega)]
    exact Int.le_refl _
theorem mk_lt {ns : List Note} {j : Nat} (h : (mkAt ns j).isSome = true) : j < ns.length := by
  refine Classical.byContradiction fun z => ?_
  unfold mkAt at h
  rw [List.getElem?_eq_none (by omega)] at h
  cases h
end
end Pu.Q
set_option Elab.async false
set_option linter.all false
set_option maxRecDepth 100000
set_option maxHeartbeats 8000000
namespace Pu.Q
open PySem PySem.Spec PyProof.Rows L2 Pu
section
variable {s l p : Int} {t : Str} {Q : RV → Ev → Prop}
theorem cutsOf_get {ns : List Note} {ap : List Int} {j : Nat} (hj : j < ns.length) : (cutsOf ns ap)[j]? = some (cutOf ns ap j) := by
  unfold cutsOf
  rw [List.getElem?_map, List.getElem?_range hj]; rfl
end
end Pu.Q
set_option Elab.async false
set_option linter.all false
set_option maxRecDepth 100000
set_option maxHeartbeats 8000000
set_option Elab.async false
set_option linter.all false
set_option maxRecDepth 100000
set_option maxHeartbeats 8000000
set_option Elab.async false
set_option linter.all false
set_option maxRecDepth 100000
set_option maxHeartbeats 8000000
set_option Elab.async false
set_option linter.all false
set_option maxRecDepth 100000
set_option maxHeartbeats 8000000
namespace Pu.Q
open PySem PySem.Spec PyProof.Rows L2 Pu
section
variable {s l p : Int} {t : Str} {Q : RV → Ev → Prop}
def firstE (ns : List Note) : Nat → Nat
  | 0 => 0
  | k + 1 => if joinsB ns (k + 1) [] = true then firstE ns k else k + 1
theorem firstE_ok {ns : List Note} : ∀ k, firstE ns k ≤ k ∧ (∀ j, firstE ns k < j → j ≤ k → joinsB ns j [] = true) ∧ joinsB ns (firstE ns k) [] = false
  | 0 => ⟨Nat.le_refl _, fun j h1 h2 => by simp only [firstE] at h1; omega, by simp [firstE, joinsB]⟩
  | k + 1 => by
    simp only [firstE]
    cases q : joinsB ns (k + 1) [] with
    | false =>
      rw [if_neg Bool.false_ne_true]
      exact ⟨Nat.le_refl _, fun j h1 h2 => by omega, q⟩
    | true =>
      rw [if_pos rfl]
      obtain ⟨a, b, c⟩ := firstE_ok (ns := ns) k
      refine ⟨by omega, fun j h1 h2 => ?_, c⟩
      by_cases e : j = k + 1
      · rw [e]; exact q
      · exact b j h1 (by omega)
theorem mk_first {ns : List Note} (k : Nat) : mkAt ns k = mkAt ns (firstE ns k) := by
  obtain ⟨h1, h2, h3⟩ := firstE_ok (ns := ns) k
  exact mk_same h1 h2
end
end Pu.Q
set_option Elab.async false
set_option linter.all false
set_option maxRecDepth 100000
set_option maxHeartbeats 8000000
set_option Elab.async false
set_option linter.all false
set_option maxRecDepth 100000
set_option maxHeartbeats 8000000
set_option Elab.async false
set_option linter.all false
set_option maxRecDepth 100000
set_option maxHeartbeats 8000000
set_option Elab.async false
set_option linter.all false
set_option maxRecDepth 100000
set_option maxHeartbeats 8000000
set_option Elab.async false
set_option linter.all false
set_option maxRecDepth 100000
set_option maxHeartbeats 8000000
set_option Elab.async false
set_option linter.all false
set_option maxRecDepth 100000
set_option maxHeartbeats 8000000
set_option Elab.async false
set_option linter.all false
set_option maxRecDepth 100000
set_option maxHeartbeats 8000000
namespace Pu.Q
open PySem PySem.Spec PyProof.Rows L2 Pu
section
variable {s l p : Int} {t : Str} {Q : RV → Ev → Prop}
abbrev Pln := Int × Str × Int × Int
structure PlOk (q : Pln) : Prop where
  g : 1 ≤ q.1 ∧ q.1 ≤ 60
  t : inMenu q.2.1
  f : q.1 ≤ q.2.2.1 ∧ q.2.2.1 ≤ 1000
  p : 1 ≤ q.2.2.2 ∧ q.2.2.2 ≤ 100
end
end Pu.Q
set_option Elab.async false
set_option linter.all false
set_option maxRecDepth 100000
set_option maxHeartbeats 8000000
set_option Elab.async false
set_option linter.all false
set_option maxRecDepth 100000
set_option maxHeartbeats 8000000
namespace Pu.Q
open PySem PySem.Spec PyProof.Rows L2 Pu
section
variable {s l p : Int} {t : Str} {Q : RV → Ev → Prop}
structure PlS (q : Pln) : Prop where
  g : 1 ≤ q.1 ∧ q.1 ≤ 12
  t : inMenu q.2.1
  f : q.1 ≤ q.2.2.1 ∧ q.2.2.1 ≤ 60
  p : 1 ≤ q.2.2.2 ∧ q.2.2.2 ≤ 8
theorem PlS.ok {q : Pln} (h : PlS q) : PlOk q := ⟨by have := h.g; omega, h.t, by have := h.f; omega, by have := h.p; omega⟩
end
end Pu.Q
set_option Elab.async false
set_option linter.all false
set_option maxRecDepth 100000
set_option maxHeartbeats 8000000
namespace Pu.Q
open PySem PySem.Spec PyProof.Rows L2 Pu
section
variable {s l p : Int} {t : Str} {Q : RV → Ev → Prop}
def shw (xs : List Int) (a : Stay) : Int × Int := (a.2.2.1, xs.getD a.2.1.toNat 0)
theorem filter_one {α : Type} {P : α → Bool} {a : α} : ∀ {xs : List α} {c : Nat}, xs[c]? = some a → P a = true → (∀ i b, xs[i]? = some b → P b = true → i = c) → xs.filter P = [a]
  | [], c, h, _, _ => by simp at h
  | x :: r, 0, h, ha, hu => by
    simp only [List.getElem?_cons_zero] at h
    cases h
    rw [List.filter_cons_of_pos ha]
    congr 1
    rw [List.filter_eq_nil_iff]
    intro b hb hP
    obtain ⟨i, hi⟩ := List.mem_iff_getElem?.mp hb
    have := hu (i + 1) b (by simpa using hi) hP
    omega
  | x :: r, c + 1, h, ha, hu => by
    have hx : ¬ P x = true := fun z => by have := hu 0 x rfl z; omega
    rw [List.filter_cons_of_neg hx]
    exact filter_one (c := c) (by simpa using h) ha fun i b hi hP => by have := hu (i + 1) b (by simpa using hi) hP; omega
theorem lxA_ge {ns : List Note} {q : Option Int} {xs : List Int} (M : Mins ns q xs) {b : Nat} (mb : (mkAt ns b).isSome = true) : ∀ {k : Nat}, b < k → k ≤ ns.length → ∃ z, lxA ns xs k = some z ∧ xs.getD b 0 ≤ z
  | 0, h, _ => by omega
  | k + 1, h, hk => by
    simp only [lxA]
    by_cases c : (mkAt ns k).isSome = true
    · rw [if_pos c]
      exact ⟨_, rfl, M.mono' (by omega) (by omega)⟩
    · rw [if_neg c]
      have : b ≠ k := fun z => c (by rw [← z]; exact mb)
      exact lxA_ge M mb (by omega) (by omega)
theorem gnA_ge {ns : List Note} {q : Option Int} {xs : List Int} (M : Mins ns q xs) {b : Nat} (mb : mkAt ns b = none) : ∀ {k : Nat}, b < k → k ≤ ns.length → xs.getD b 0 ≤ gnA ns xs k
  | 0, h, _ => by omega
  | k + 1, h, hk => by
    simp only [gnA]
    by_cases c : (mkAt ns k).isSome = true
    · rw [if_pos c]
      have : b ≠ k := fun z => by rw [← z, mb] at c; cases c
      exact gnA_ge M mb (by omega) (by omega)
    · rw [if_neg c]
      exact M.mono' (by omega) (by omega)
structure ShF (s p : Int) (t : Str) (ns : List Note) (xs cs : List Int) (f : List Stay) : Prop where
  M : Mins ns none xs
  hc : cs ∈ cutsL ns
  e : staysL s p t ns xs cs = some f
  h0 : ∀ n ∈ ns, 0 ≤ n.1
  hp : 1 ≤ p
variable {ns : List Note} {xs cs : List Int} {f : List Stay}
theorem ShF.at_ (F : ShF s p t ns xs cs f) {i : Nat} {a : Stay} (h : f[i]? = some a) : StayOf ns cs f a.1.toNat a ∧ lawOf f a.1.toNat = i := by
  have B := fit_bk F.hc F.e
  obtain ⟨m, hm⟩ := fit_firsts F.e a (List.mem_of_getElem? h)
  have ms : (mkAt ns a.1.toNat).isSome = true := by rw [hm]; rfl
  have lt := mk_lt ms
  obtain ⟨h1, h2, h3, h4⟩ := B.at_ i a.1 a.2.1 (by rw [List.getElem?_map, h]; rfl)
  have c := (h4 _ lt ms).mp ⟨by omega, by omega⟩
  have li := lawOf_is B F.hc lt ms
  obtain ⟨a', S⟩ := stay_end F.hc F.e lt ms
  have ei : lawOf f a.1.toNat = i := by omega
  have at' := S.at_
  rw [ei, h] at at'
  cases at'
  exact ⟨S, ei⟩
theorem ShF.in_ (F : ShF s p t ns xs cs f) {a : Stay} {i : Nat} (h : f[i]? = some a) : 0 ≤ (shw xs a).1 ∧ (shw xs a).1 ≤ xs.getD a.1.toNat 0 ∧ xs.getD a.1.toNat 0 ≤ (shw xs a).2 := by
  obtain ⟨S, _⟩ := F.at_ h
  obtain ⟨m, r1, r2, r3⟩ := fit_arr F.M.len (mem_cuts.mp F.hc).1 F.e a (List.mem_of_getElem? h)
  have ok := (fit_iff F.M.len (mem_cuts.mp F.hc).1).mp ⟨_, F.e⟩ a.1.toNat (by have := S.l1; have := S.l2; have := S.l3; omega)
  have le := ok.2 m r1 S.beg
  have b := (mn_le' (i := m - low t s) (j := xs.getD a.1.toNat 0)).2
  have z0 : 0 ≤ lstA s p t ns xs a.1.toNat m := by
    unfold lstA
    rw [mx_eq _ (gnA ns xs a.1.toNat + 1), mx_eq (mx 0 (m - high t s)), mx_eq 0]
    omega
  unfold shw
  simp only
  rw [r2]
  exact ⟨z0, by omega, F.M.mono' (by have := S.l1; have := S.l2; omega) S.l3⟩
theorem ShF.apart (F : ShF s p t ns xs cs f) {a b : Stay} {i j : Nat} (h : f[i]? = some a) (h' : f[j]? = some b) (lt : i < j) : (shw xs a).2 + p ≤ (shw xs b).1 := by
  obtain ⟨S, e1⟩ := F.at_ h
  obtain ⟨S', e2⟩ := F.at_ h'
  have B := fit_bk F.hc F.e
  obtain ⟨m, hm⟩ := S.mb
  have mb : (mkAt ns a.2.1.toNat).isSome = true := by rw [hm]; rfl
  obtain ⟨m', r1, r2, r3⟩ := fit_arr F.M.len (mem_cuts.mp F.hc).1 F.e b (List.mem_of_getElem? h')
  have mb' : (mkAt ns b.1.toNat).isSome = true := by rw [r1]; rfl
  obtain ⟨h1, h2, h3, h4⟩ := B.at_ i a.1 a.2.1 (by rw [List.getElem?_map, h]; rfl)
  obtain ⟨g1, g2, g3, g4⟩ := B.at_ j b.1 b.2.1 (by rw [List.getElem?_map, h']; rfl)
  have c1 := (h4 _ S.l3 mb).mp ⟨by omega, by omega⟩
  have c2 := (g4 _ (mk_lt mb') mb').mp ⟨by omega, by omega⟩
  have ab : a.2.1.toNat < b.1.toNat := by
    refine Classical.byContradiction fun z => ?_
    have := cutN_mono (ns := ns) (cs := cs) (show b.1.toNat + 1 ≤ a.2.1.toNat + 1 by omega)
    omega
  obtain ⟨z, z1, z2⟩ := lxA_ge F.M mb ab (by have := mk_lt mb'; omega)
  have : z + p ≤ lstA s p t ns xs b.1.toNat m' := by
    unfold lstA
    rw [z1, mx_eq _ (gnA ns xs b.1.toNat + 1), mx_eq (mx 0 (m' - high t s))]
    simp only
    omega
  unfold shw
  simp only
  rw [r2]
  omega
theorem ShF.seen (F : ShF s p t ns xs cs f) (hs : 0 < s) (ht : inMenu t) (hm : ∀ n ∈ ns, ∀ m, n.2.2 = some m → m % s = 0) {j : Nat} (hj : j < ns.length) :
    (((f.map (shw xs)).filter fun q => decide (q.1 ≤ xs.getD j 0 ∧ xs.getD j 0 ≤ q.2)).map fun q => markV t s q.1) = (match mkAt ns j with
      | none => []
      | some m => [m]) := by
  have cl := (mem_cuts.mp F.hc).1
  cases hk : mkAt ns j with
  | none =>
    simp only [List.map_eq_nil_iff, List.filter_eq_nil_iff]
    intro q hq
    obtain ⟨a, ha, rfl⟩ := List.mem_map.mp hq
    obtain ⟨i, hi⟩ := List.mem_iff_getElem?.mp ha
    obtain ⟨S, _⟩ := F.at_ hi
    obtain ⟨m, r1, r2, r3⟩ := fit_arr F.M.len cl F.e a ha
    have s1 := S.l1
    have s2 := S.l2
    have s3 := S.l3
    have out : j < a.1.toNat ∨ a.2.1.toNat < j := by
      refine Classical.byContradiction fun z => ?_
      have : mkAt ns j = mkAt ns a.1.toNat := mk_same (by omega) fun i i1 i2 => S.joins F.hc i i1 (by omega)
      rw [hk, r1] at this
      cases this
    intro z
    have z := of_decide_eq_true z
    unfold shw at z
    simp only at z
    rcases out with o | o
    · have := gnA_ge F.M hk o (by omega)
      have : gnA ns xs a.1.toNat + 1 ≤ lstA s p t ns xs a.1.toNat m := by
        unfold lstA
        rw [mx_eq _ (gnA ns xs a.1.toNat + 1)]
        omega
      rw [r2] at z
      omega
    · obtain ⟨m', hm'⟩ := S.mb
      obtain ⟨y, y1, y2⟩ := lxA_ge F.M (show (mkAt ns a.2.1.toNat).isSome = true by rw [hm']; rfl) o (by omega)
      have ok := (fit_iff F.M.len cl).mp ⟨_, F.e⟩ j hj
      have := ok.1 hk y y1
      omega
  | some m =>
    obtain ⟨a, S⟩ := stay_end F.hc F.e hj (by rw [hk]; rfl)
    have s1 := S.l1
    have s2 := S.l2
    have s3 := S.l3
    obtain ⟨i1, i2, i3⟩ := F.in_ S.at_
    have in1 : xs.getD a.1.toNat 0 ≤ xs.getD j 0 := F.M.mono' s1 hj
    have in2 : xs.getD j 0 ≤ xs.getD a.2.1.toNat 0 := F.M.mono' s2 s3
    have e2 : (shw xs a).2 = xs.getD a.2.1.toNat 0 := rfl
    have one := filter_one (P := fun q : Int × Int => decide (q.1 ≤ xs.getD j 0 ∧ xs.getD j 0 ≤ q.2)) (xs := f.map (shw xs)) (c := lawOf f j) (a := shw xs a) (by rw [List.getElem?_map, S.at_]; rfl) (decide_eq_true ⟨by omega, by omega⟩) fun i b hb hP => by
      have hP := of_decide_eq_true hP
      rw [List.getElem?_map] at hb
      cases hq : f[i]? with
      | none => rw [hq] at hb; cases hb
      | some a' =>
        rw [hq] at hb
        cases hb
        refine Classical.byContradiction fun ne => ?_
        by_cases lt : i < lawOf f j
        · have := F.apart hq S.at_ lt
          have := F.hp
          omega
        · have := F.apart S.at_ hq (by omega)
          have := F.hp
          omega
    rw [one]
    simp only [List.map_cons, List.map_nil]
    congr 1
    obtain ⟨m', r1, r2, r3⟩ := fit_arr F.M.len cl F.e a (List.mem_of_getElem? S.at_)
    have : mkAt ns j = mkAt ns a.1.toNat := mk_same s1 fun i i1 i2 => S.joins F.hc i i1 (by omega)
    rw [hk, r1] at this
    cases this
    have ok := (fit_iff F.M.len cl).mp ⟨_, F.e⟩ a.1.toNat (by omega)
    have le := ok.2 m r1 S.beg
    have mm : m % s = 0 := by
      have := mkAt_of hj
      rw [hk] at this
      exact hm _ (List.getElem_mem hj) m this.symm
    have lo : m - high t s ≤ lstA s p t ns xs a.1.toNat m := by
      unfold lstA
      rw [mx_eq _ (gnA ns xs a.1.toNat + 1), mx_eq (mx 0 (m - high t s)), mx_eq 0]
      omega
    have hi := (mn_le' (i := m - low t s) (j := xs.getD a.1.toNat 0)).1
    show markV t s a.2.2.1 = m
    rw [mark_iff hs ht mm, r2]
    exact ⟨lo, by omega⟩
end
end Pu.Q
set_option Elab.async false
set_option linter.all false
set_option maxRecDepth 100000
set_option maxHeartbeats 8000000
namespace Pu.Q
open PySem PySem.Spec PyProof.Rows L2 Pu
section
variable {s l p : Int} {t : Str} {Q : RV → Ev → Prop}
theorem Ok.compM {α : Type} {ws : List Nat} {mt : Val → M Unit} {mc : M Bool} {me : M RV} {e : Ev} (g : α → Val) (q : α → Bool) (f : α → Val) : ∀ {xs : List α} {acc : List Val}, acc.length + xs.length ≤ sizeLine →
    (∀ x ∈ xs, Ok (mt (g x)) e fun _ e1 => Ok mc e1 fun b e2 => b = q x ∧ (q x = true → Ok me e2 fun y e3 => Ok (M.dt y) e3 fun w e4 => w = f x ∧ wipeE e4 ws = e) ∧ (q x = false → wipeE e2 ws = e)) →
    Ok (compS ws mt mc me (xs.map g) acc) e fun r e' => r = acc ++ (xs.filter q).map f ∧ e' = e
  | [], acc, _, _ => by
    rw [List.map_nil, ok_compS0]
    simp
  | v :: vs, acc, hl, st => by
    rw [List.length_cons] at hl
    rw [List.map_cons, ok_compSC]
    refine Ok.mono (st v List.mem_cons_self) fun _ e1 h1 => Ok.mono h1 ?_
    rintro b e2 ⟨rfl, h2, h3⟩
    refine ⟨fun hb => Ok.mono (h2 hb) fun x e3 h4 => Ok.mono h4 ?_, fun hb => ?_⟩
    · rintro w e4 ⟨rfl, h5⟩
      refine ⟨by omega, ?_⟩
      rw [h5]
      refine Ok.mono (Ok.compM g q f (by simp; omega) fun u hu => st u (List.mem_cons_of_mem _ hu)) ?_
      rintro r e' ⟨rfl, rfl⟩
      refine ⟨?_, rfl⟩
      rw [List.filter_cons, if_pos hb, List.map_cons, List.append_assoc]
      rfl
    · have hb' : q v = false := by simpa using hb
      rw [h3 hb']
      refine Ok.mono (Ok.compM g q f (by omega) fun u hu => st u (List.mem_cons_of_mem _ hu)) ?_
      rintro r e' ⟨rfl, rfl⟩
      refine ⟨?_, rfl⟩
      rw [List.filter_cons, if_neg hb]
theorem Ok.compN {α : Type} {ws : List Nat} {mt : Val → M Unit} {me : M RV} {e : Ev} (g : α → Val) (f : α → Val) {xs : List α} (hl : xs.length ≤ sizeLine)
    (st : ∀ x ∈ xs, Ok (mt (g x)) e fun _ e1 => Ok me e1 fun y e3 => Ok (M.dt y) e3 fun w e4 => w = f x ∧ wipeE e4 ws = e) :
    Ok (compS ws mt mYes me (xs.map g) []) e fun r e' => r = xs.map f ∧ e' = e := by
  refine Ok.mono (Ok.compM g (fun _ => true) f (acc := []) (by simpa using hl) fun x hx => Ok.mono (st x hx) fun _ e1 h => ?_) ?_
  · exact ⟨rfl, fun _ => h, fun z => by cases z⟩
  · rintro r e' ⟨rfl, rfl⟩
    rw [List.filter_eq_self.mpr fun _ _ => rfl]
    exact ⟨rfl, rfl⟩
theorem Ok.compB {α : Type} {ws : List Nat} {mt : Val → M Unit} {me : M RV} {e : Ev} (g : α → Val) (q : α → Bool) {xs : List α} {P : List Val → Ev → Prop} (hl : xs.length ≤ sizeLine)
    (st : ∀ x ∈ xs, Ok (mt (g x)) e fun _ e1 => Ok me e1 fun y e3 => Ok (M.dt y) e3 fun w e4 => w = .bl (q x) ∧ wipeE e4 ws = e) (hP : P ((xs.map q).map .bl) e) :
    Ok (compS ws mt mYes me (xs.map g) []) e P := by
  refine Ok.mono (Ok.compN g (fun x => .bl (q x)) hl st) ?_
  rintro r e' ⟨rfl, rfl⟩
  rw [List.map_map] at hP
  exact hP
theorem allB {α : Type} {q : α → Bool} {xs : List α} {e : Ev} : Ok (fAll [.lst ((xs.map q).map .bl)]) e Q ↔ Q (.dat (.bl (xs.all q))) e := by
  rw [ok_all, List.all_map]
  rfl
end
end Pu.Q
set_option Elab.async false
set_option linter.all false
set_option maxRecDepth 100000
set_option maxHeartbeats 8000000
set_option Elab.async false
set_option linter.all false
set_option maxRecDepth 100000
set_option maxHeartbeats 8000000
set_option Elab.async false
set_option linter.all false
set_option maxRecDepth 100000
set_option maxHeartbeats 8000000
set_option Elab.async false
set_option linter.all false
set_option maxRecDepth 100000
set_option maxHeartbeats 1000000
set_option Elab.async false
set_option linter.all false
set_option maxRecDepth 100000
set_option maxHeartbeats 8000000
set_option Elab.async false
set_option linter.all false
set_option maxRecDepth 100000
set_option maxHeartbeats 8000000
set_option Elab.async false
set_option linter.all false
set_option maxRecDepth 100000
set_option maxHeartbeats 8000000
set_option Elab.async false
set_option linter.all false
set_option maxRecDepth 100000
set_option maxHeartbeats 8000000
set_option Elab.async false
set_option linter.all false
set_option maxRecDepth 100000
set_option maxHeartbeats 4000000
namespace Pu.Q
open PySem PySem.Spec PyProof.Rows L2 Pu
section
variable {s l p : Int} {t : Str} {Q : RV → Ev → Prop} {v : Val}
theorem ok_dct0 {e : Ev} {Q : RV → Ev → Prop} : Ok mDct0 e Q ↔ Q (.tmp (.dct [] [])) e := Iff.rfl
def oddL : List Val := [.non, .bl true, .bl false, .int 0, .int 1, .int (-1), .int 2, .int 1000000000000000000000000000000, .int 1000000000000000000000000000001, .str "", .str "next", .str "step 1 next limit 1 pause 1", .tup [], .tup [.int 0], .tup [.int 0, .int 0, .int 0], .tup [.int 0, .int 0, .non], .tup [.int 1, .int 0, .int 0], .lst [.int 0, .int 0, .int 0], .dct [] [], .tup [.int 0, .int 0], .tup [.bl true, .int 1, .int 0], .tup [.int 0, .str "1", .int 0], .tup [.int 0, .int 0, .int 0, .int 0], .tup [.tup [.int 0, .int 0, .int 0]]]
theorem oddL_eq : [.non, .bl true, .bl false, .int 0, .int 1, .int (-1), .int 2, .int 1000000000000000000000000000000, .int 1000000000000000000000000000001, .str "", .str "next", .str "step 1 next limit 1 pause 1", .tup [], .tup [.int 0], .tup [.int 0, .int 0, .int 0], .tup [.int 0, .int 0, .non], .tup [.int 1, .int 0, .int 0], .lst [.int 0, .int 0, .int 0], .dct [] [], .tup [.int 0, .int 0], .tup [.bl true, .int 1, .int 0], .tup [.int 0, .str "1", .int 0], .tup [.int 0, .int 0, .int 0, .int 0], .tup [.tup [.int 0, .int 0, .int 0]]] = oddL := rfl
end
end Pu.Q
set_option Elab.async false
set_option linter.all false
set_option maxRecDepth 100000
set_option maxHeartbeats 4000000
set_option Elab.async false
set_option linter.all false
set_option maxRecDepth 100000
set_option maxHeartbeats 4000000
set_option Elab.async false
set_option linter.all false
set_option maxRecDepth 100000
set_option maxHeartbeats 4000000
set_option Elab.async false
set_option linter.all false
set_option maxRecDepth 100000
set_option maxHeartbeats 4000000
set_option Elab.async false
set_option linter.all false
set_option maxRecDepth 100000
set_option maxHeartbeats 4000000
set_option Elab.async false
set_option linter.all false
set_option maxRecDepth 100000
set_option maxHeartbeats 1000000
namespace Pu.Q
open PySem PySem.Spec PyProof.Rows L2 Pu
section
variable {s l p : Int} {t : Str} {Q : RV → Ev → Prop} {v u w : Val}
theorem r_check_numberF {v lo hi : Int} (h1 : lo ≤ v) (h2 : v ≤ hi) : Ok den_check_number_k02 [.dat (.int v), .dat (.int lo), .dat (.int hi)] Q ↔ Q (.dat .non) [.un, .un, .un] := by
  have rb := fun Q => r_is_betweenB (v := v) (lo := lo) (hi := hi) (Q := Q)
  have d : decide (lo ≤ v ∧ v ≤ hi) = true := decide_eq_true ⟨h1, h2⟩
  simp only [d] at rb
  refine ok_det ?_
  simp_arith [↓den_check_number_k02, ↓b_check_number_k02, ↓rb]
  done
theorem r_initF (h1 : 1 ≤ s) (h2 : s ≤ 1000000000000) (h3 : s ≤ l) (h4 : l ≤ 1000000000000000000) (h5 : 1 ≤ p) (h6 : p ≤ 1000000000000000000) (ht : inMenu t) :
    Ok den_Rule____init___k02 [.own (.obj "Rule" [] []), .dat (.int s), .dat (.str t), .dat (.int l), .dat (.int p)] Q ↔ Q (.dat .non) [.own (rV s l p t), .un, .un, .un, .un] := by
  simp_arith [↓den_Rule____init___k02, ↓b_Rule____init___k02, ↓r_check_numberF h1 h2, ↓r_check_numberF h3 h4, ↓r_check_numberF h5 h6, ↓i_str, ↓notin ht]
theorem r_madeF (h1 : 1 ≤ s) (h2 : s ≤ 1000000000000) (h3 : s ≤ l) (h4 : l ≤ 1000000000000000000) (h5 : 1 ≤ p) (h6 : p ≤ 1000000000000000000) (ht : inMenu t) :
    Ok den__law_made_k03 [.dat (.lst [.int s, .str t, .int l, .int p])] Q ↔ Q (.tmp (rV s l p t)) [.un] := by
  simp_arith [↓den__law_made_k03, ↓b__law_made_k03, ↓r_initF h1 h2 h3 h4 h5 h6 ht]
end
end Pu.Q
set_option Elab.async false
set_option linter.all false
set_option maxRecDepth 100000
set_option maxHeartbeats 1000000
set_option Elab.async false
set_option linter.all false
set_option maxRecDepth 100000
set_option maxHeartbeats 1000000
set_option Elab.async false
set_option linter.all false
set_option maxRecDepth 100000
set_option maxHeartbeats 1000000
set_option Elab.async false
set_option linter.all false
set_option maxRecDepth 100000
set_option maxHeartbeats 1000000
set_option Elab.async false
set_option linter.all false
set_option maxRecDepth 100000
set_option maxHeartbeats 1000000
namespace Pu.Q
open PySem PySem.Spec PyProof.Rows L2 Pu
section
variable {Q : RV → Ev → Prop} {v w x d : Val} {R : List Str} {f : M RV} {m : M RV} {vs D D1 D2 : List Val} {n nn : Nat} {rest a b : S} {c : M Bool} {e : Ev}
def Dues (R : List Str) (f : M RV) (vs D : List Val) : Prop := (D = [] ∧ ∃ v, Comes f vs (.inl v)) ∨ (∃ x d r, D = d :: r ∧ Comes f vs (.inr x) ∧ errV R x = some d ∧ rkOk d = true)
end
end Pu.Q
set_option Elab.async false
set_option linter.all false
set_option maxRecDepth 100000
set_option maxHeartbeats 1000000
set_option Elab.async false
set_option linter.all false
set_option maxRecDepth 100000
set_option maxHeartbeats 1000000
set_option Elab.async false
set_option linter.all false
set_option maxRecDepth 100000
set_option maxHeartbeats 1000000
set_option Elab.async false
set_option linter.all false
set_option maxRecDepth 100000
set_option maxHeartbeats 1000000
set_option Elab.async false
set_option linter.all false
set_option maxRecDepth 100000
set_option maxHeartbeats 1000000
set_option Elab.async false
set_option linter.all false
set_option maxRecDepth 100000
set_option maxHeartbeats 1000000
set_option Elab.async false
set_option linter.all false
set_option maxRecDepth 100000
set_option maxHeartbeats 2000000
namespace Pu.Q
open PySem PySem.Spec PyProof.Rows L2 Pu
section
variable {s l p s2 l2 p2 : Int} {t t2 : Str} {Q : RV → Ev → Prop} {v w x a d : Val} {R : List Str} {f : M RV} {vs D D1 D2 D3 : List Val}
theorem Dues.tail (h : Dues R f vs (D1 ++ D2)) (hn : D1 ≠ []) : Dues R f vs (D1 ++ D3) := by
  cases D1 with
  | nil => exact absurd rfl hn
  | cons d r =>
    rcases h with ⟨h0, _⟩ | ⟨x, d', r', h0, h1, h2, h3⟩
    · cases h0
    · cases h0
      exact .inr ⟨x, d, r ++ D3, rfl, h1, h2, h3⟩
end
end Pu.Q
set_option Elab.async false
set_option linter.all false
set_option maxRecDepth 100000
set_option maxHeartbeats 1000000
set_option Elab.async false
set_option linter.all false
set_option maxRecDepth 100000
set_option maxHeartbeats 2000000
set_option Elab.async false
set_option linter.all false
set_option maxRecDepth 100000
set_option maxHeartbeats 2000000
set_option Elab.async false
set_option linter.all false
set_option maxRecDepth 100000
set_option maxHeartbeats 2000000
set_option Elab.async false
set_option linter.all false
set_option maxRecDepth 100000
set_option maxHeartbeats 2000000
set_option Elab.async false
set_option linter.all false
set_option maxRecDepth 100000
set_option maxHeartbeats 2000000
set_option Elab.async false
set_option linter.all false
set_option maxRecDepth 100000
set_option maxHeartbeats 2000000
set_option Elab.async false
set_option linter.all false
set_option maxRecDepth 100000
set_option maxHeartbeats 2000000
set_option Elab.async false
set_option linter.all false
set_option maxRecDepth 100000
set_option maxHeartbeats 2000000
set_option Elab.async false
set_option linter.all false
set_option maxRecDepth 100000
set_option maxHeartbeats 2000000
namespace Pu.Q
open PySem PySem.Spec PyProof.Rows L2 Pu
section
variable {s l p f : Int} {t : Str} {Q : RV → Ev → Prop} {v w : Val}
abbrev B40 : Int := 10000000000000000000000000000000000000000
end
end Pu.Q
set_option Elab.async false
set_option linter.all false
set_option maxRecDepth 100000
set_option maxHeartbeats 2000000
set_option Elab.async false
set_option linter.all false
set_option maxRecDepth 100000
set_option maxHeartbeats 2000000
set_option Elab.async false
set_option linter.all false
set_option maxRecDepth 100000
set_option maxHeartbeats 2000000
namespace Pu.Q
open PySem PySem.Spec PyProof.Rows L2 Pu
section
variable {s l p f : Int} {t : Str} {Q : RV → Ev → Prop} {v w : Val}
theorem r_pickW {a b c : Int} {xs : List Val} (h1 : xs ≠ []) (h2 : xs.length ≤ 10000000) :
    Ok den__law_pick [.own (.lst [.int a, .int b, .int c]), .dat (.lst xs)] fun r e' => ∃ v a' b' c', v ∈ xs ∧ r = .dat v ∧ e' = [.own (.lst [.int a', .int b', .int c']), .un] := by
  have h3 : 0 < xs.length := List.length_pos_iff.mpr h1
  simp_arith [↓den__law_pick, ↓b__law_pick]
  refine Ok.mono (r_sip (top := (xs.length : Int)) (by omega) (by omega)) ?_
  rintro _ _ ⟨d, a1, b1, c1, rfl, rfl, d0, d1⟩
  obtain ⟨v, hv⟩ := get_lt (xs := xs) (j := d.toNat) (by omega)
  have ix := fun (e : Ev) (Q : RV → Ev → Prop) => ixL_of (e := e) (Q := Q) (atI_of0 d0 hv)
  generalize hX : Val.lst xs = X at ix ⊢
  simp_arith [↓ix]
  exact ⟨v, a1, b1, c1, List.mem_of_getElem? hv, rfl, rfl⟩
def okE (v : Val) : Bool := isR v && (match v with
  | .tup [.int _, .int b] => decide (b ≤ 10000000000000000000000000000000000000000)
  | _ => true)
def GT (v : Val) : Prop := isR v = true ∧ ∀ vs, v = .tup vs → vs.length ≤ 200 ∧ ∀ x ∈ vs, okE x = true
theorem GT.b (h : GT w) : ∀ ys, w = .tup ys → ∀ a b, Val.tup [.int a, .int b] ∈ ys → b ≤ B40 := fun ys e a b hm => by
  have := (h.2 ys e).2 _ hm
  unfold okE at this
  rw [Bool.and_eq_true] at this
  exact of_decide_eq_true this.2
end
end Pu.Q
set_option Elab.async false
set_option linter.all false
set_option maxRecDepth 100000
set_option maxHeartbeats 2000000
set_option Elab.async false
set_option linter.all false
set_option maxRecDepth 100000
set_option maxHeartbeats 2000000
set_option Elab.async false
set_option linter.all false
set_option maxRecDepth 100000
set_option maxHeartbeats 400000
namespace Pu.Q
open PySem PySem.Spec PyProof.Rows L2 Pu
theorem pre_inj : ∀ {a b c d : List Nat}, 32 ∉ a → 32 ∉ b → a ++ 32 :: c = b ++ 32 :: d → a = b ∧ c = d
  | [], [], c, d, _, _, h => ⟨rfl, (List.cons.inj h).2⟩
  | [], y :: b, c, d, _, hb, h => absurd (List.mem_cons.mpr (.inl (List.cons.inj h).1)) hb
  | x :: a, [], c, d, ha, _, h => absurd (List.mem_cons.mpr (.inl (List.cons.inj h).1.symm)) ha
  | x :: a, y :: b, c, d, ha, hb, h => by
    obtain ⟨h1, h2⟩ := List.cons.inj h
    obtain ⟨e1, e2⟩ := pre_inj (fun q => ha (List.mem_cons_of_mem _ q)) (fun q => hb (List.mem_cons_of_mem _ q)) h2
    exact ⟨by rw [h1, e1], e2⟩
theorem pre_no {a b d : List Nat} (ha : 32 ∉ a) (h : a = b ++ 32 :: d) : False := ha (by rw [h]; simp)
def bl1 : Str := ⟨#[32]⟩
theorem jn_cc (x y : Str) (r : List Str) : (Str.join bl1 (x :: y :: r)).cps.toList = x.cps.toList ++ 32 :: (Str.join bl1 (y :: r)).cps.toList := by
  show (x ++ bl1 ++ Str.join bl1 (y :: r)).cps.toList = _
  rw [Str.cps_append, Str.cps_append, Array.toList_append, Array.toList_append, List.append_assoc]
  rfl
theorem str_of {x y : Str} (h : x.cps.toList = y.cps.toList) : x = y := Str.ext' (Array.toList_inj.mp h)
theorem jn_inj : ∀ {ps ws : List Str}, ps ≠ [] → ws ≠ [] → (∀ p ∈ ps, 32 ∉ p.cps.toList) → (∀ w ∈ ws, 32 ∉ w.cps.toList) → (Str.join bl1 ps).cps.toList = (Str.join bl1 ws).cps.toList → ps = ws
  | [], _, h, _, _, _, _ => absurd rfl h
  | _, [], _, h, _, _, _ => absurd rfl h
  | [p], [w], _, _, _, _, h => by rw [str_of (show p.cps.toList = w.cps.toList from h)]
  | [p], w :: v :: ws, _, _, hp, _, h => by
    rw [jn_cc] at h
    exact (pre_no (hp p (.head _)) h).elim
  | p :: q :: ps, [w], _, _, _, hw, h => by
    rw [jn_cc] at h
    exact (pre_no (hw w (.head _)) h.symm).elim
  | p :: q :: ps, w :: v :: ws, _, _, hp, hw, h => by
    rw [jn_cc, jn_cc] at h
    obtain ⟨e1, e2⟩ := pre_inj (hp p (.head _)) (hw w (.head _)) h
    have e3 := jn_inj (ps := q :: ps) (ws := v :: ws) (by simp) (by simp) (fun x hx => hp x (.tail _ hx)) (fun x hx => hw x (.tail _ hx)) e2
    rw [str_of e1, e3]
theorem split_jn {ws : List Str} (h : ws ≠ []) (hw : ∀ w ∈ ws, 32 ∉ w.cps.toList) : Txt.split (Str.join bl1 ws) bl1 = ws := by
  refine jn_inj ?_ h (StrLaws.split_free _ 32) hw ?_
  · intro e
    have := split_pos (Str.join bl1 ws) bl1
    rw [e] at this
    exact absurd this (by decide)
  · rw [StrLaws.join_split]
def nT (i : Int) : Str := Str.ofString (toString i)
theorem nT_list (m : Nat) : (nT (m : Int)).cps.toList = (Nat.toDigits 10 m).map Char.toNat := PySem.W.KIN.signs_num m
theorem nT_dig (m : Nat) : ∀ c ∈ (nT (m : Int)).cps.toList, 48 ≤ c ∧ c ≤ 57 := by
  intro c hc
  rw [nT_list] at hc
  obtain ⟨ch, hch, e⟩ := List.mem_map.mp hc
  have r := digit_range (Nat.isDigit_of_mem_toDigits (by decide) (by decide) hch)
  rw [← e]
  exact r
theorem nT_len (m : Nat) : (nT (m : Int)).length = (Nat.toDigits 10 m).length := by
  show (nT (m : Int)).cps.size = _
  rw [← Array.length_toList, nT_list, List.length_map]
theorem nT_short {m : Nat} (h : m < 10 ^ 60) : (nT (m : Int)).length ≤ 60 := by
  rw [nT_len]
  exact toDigits_len_pow (by decide) (by decide) h
theorem nT_pos (m : Nat) : 1 ≤ (nT (m : Int)).length := by
  rw [nT_len]
  exact toDigits_len_ge 10 m
theorem nT_val {m : Nat} (h : m < 10 ^ 60) : intText? (nT (m : Int)) = some (m : Int) := by
  have hne : (nT (m : Int)).cps.toList ≠ [] := by
    intro e
    have := nT_pos m
    rw [show (nT (m : Int)).length = (nT (m : Int)).cps.toList.length from (Array.length_toList).symm, e] at this
    exact absurd this (by decide)
  have e := intText_digits (nT_dig m) hne (Nat.le_trans (nT_short h) (by decide))
  rw [nT_list, PySem.W.KIN.val_back] at e
  exact e
theorem dig_head : ∀ m : Nat, 0 < m → ∃ d r, (Nat.toDigits 10 m).map Char.toNat = d :: r ∧ d ≠ 48 := by
  intro m
  induction m using Nat.strongRecOn with
  | _ m ih =>
    intro h0
    by_cases h : m < 10
    · rw [Nat.toDigits_of_lt_base h]
      refine ⟨_, [], rfl, ?_⟩
      have : ∀ k : Nat, k < 10 → 0 < k → (Nat.digitChar k).toNat ≠ 48 := by decide
      exact this m h h0
    · have hm : m % 10 < 10 := Nat.mod_lt m (by decide)
      have t : Nat.toDigits 10 (m / 10) ++ Nat.toDigits 10 (m % 10) = Nat.toDigits 10 (10 * (m / 10) + m % 10) := Nat.toDigits_append_toDigits (by decide) (by omega) hm
      rw [Nat.div_add_mod] at t
      obtain ⟨d, r, e, hd⟩ := ih (m / 10) (by omega) (by omega)
      refine ⟨d, r ++ (Nat.toDigits 10 (m % 10)).map Char.toNat, ?_, hd⟩
      rw [← t, List.map_append, e]
      rfl
theorem nT_free (m : Nat) : 32 ∉ (nT (m : Int)).cps.toList := fun h => absurd (nT_dig m 32 h).1 (by decide)
end Pu.Q
set_option Elab.async false
set_option linter.all false
set_option maxRecDepth 100000
set_option maxHeartbeats 1000000
namespace Pu.Q
open PySem PySem.Spec PyProof.Rows L2 Pu
section
variable {Q : RV → Ev → Prop} {e : Ev}
theorem ok_iffc {α : Type} {m : M α} {Q Q' : α → Ev → Prop} (h : ∀ a e', Q a e' ↔ Q' a e') : Ok m e Q ↔ Ok m e Q' := ⟨fun q => Ok.mono q fun a e' => (h a e').mp, fun q => Ok.mono q fun a e' => (h a e').mpr⟩
theorem tx_intS {a : Str} {n : Int} (h : intText? a = some n) (hl : a.length ≤ 640) : fIntS [.str a] = mV (.int n) := by
  unfold fIntS
  dsimp only
  rw [h]
  dsimp only
  rw [if_pos hl]
theorem tx_in {a b : Str} : oInS (.str a) (.str b) = mV (.bl (inS a b)) := rfl
theorem tx_len {a : Str} (h : a.length ≤ 16777216) : fLen [.str a] = mV (.int a.length) := by
  unfold fLen
  dsimp only
  rw [if_pos (by rw [show sizeLine = 16777216 from rfl]; exact h)]
theorem tx_ix {z : Str} {i : Int} {c : Nat} (hl : z.length ≤ 16777216) (h : atI z.cps.toList i = some c) : oIx (.str z) (.int i) = mV (.str ⟨#[c]⟩) := by
  unfold oIx
  dsimp only
  rw [if_pos (by rw [show sizeLine = 16777216 from rfl]; exact hl), h]
theorem tx_5 {a b c d f g : Val} {l : List Val} : Ok (oIx (.lst (a :: b :: c :: d :: f :: g :: l)) (.int 5)) e Q ↔ Q (.dat g) e := by rw [ok_ixL, show atI (a :: b :: c :: d :: f :: g :: l) 5 = some g from atI_lit 5 rfl]; simp
theorem tx_6 {a b c d f g h : Val} {l : List Val} : Ok (oIx (.lst (a :: b :: c :: d :: f :: g :: h :: l)) (.int 6)) e Q ↔ Q (.dat h) e := by rw [ok_ixL, show atI (a :: b :: c :: d :: f :: g :: h :: l) 6 = some h from atI_lit 6 rfl]; simp
theorem tx_items {m : M RV} {Q : List Val → Ev → Prop} : Ok (mItemsS m) e Q ↔ Ok m e fun r e1 => Ok (M.rd r) e1 fun v e2 => match v with
    | .str x => Q (signs x) e2
    | _ => False := by
  unfold mItemsS
  rw [ok_bind]
  refine ok_iffc fun r e1 => ?_
  rw [ok_bind]
  refine ok_iffc fun v e2 => ?_
  cases v <;> simp [ok_ret, ok_bad]
theorem tx_cm {C : Str} {ms : List Bool} {f mo : M RV} {mr : M (List RV)} : Ok (mCM C ms f mo mr) e Q ↔ Ok mo e fun r e1 => Ok (M.rd r) e1 fun v e2 => v = .glo C ∧ Ok mr e2 fun rs e3 => Ok (runF ms f (.dat (.glo C) :: rs)) e3 Q := by
  unfold mCM
  rw [ok_bind]
  refine ok_iffc fun r e1 => ?_
  rw [ok_bind]
  refine ok_iffc fun v e2 => ?_
  cases v with
  | glo x =>
    by_cases h : x = C
    · subst h
      simp [ok_bind]
    · simp [h, ok_bad]
  | _ => simp [ok_bad]
theorem tx_makeV {C : Str} {ms : List Bool} {f mo : M RV} {mr : M (List RV)} : Ok (mMakeV C ms f mo mr) e Q ↔ Ok mo e fun r e1 => Ok (M.rd r) e1 fun v e2 => v = .glo C ∧ Ok (mMake C ms f mr []) e2 Q := by
  have em : mMake C ms f mr [] = mr.bind fun rs => runMk C ms f rs := by
    unfold mMake
    simp
  unfold mMakeV
  rw [em]
  rw [ok_bind]
  refine ok_iffc fun r e1 => ?_
  rw [ok_bind]
  refine ok_iffc fun v e2 => ?_
  cases v with
  | glo x =>
    by_cases h : x = C
    · subst h
      simp [ok_bind]
    · simp [h, ok_bad]
  | _ => simp [ok_bad]
end
section
variable {Q : RV → Ev → Prop} {e : Ev}
theorem fig_in : ∀ c, 48 ≤ c ∧ c ≤ 57 → inS ⟨#[c]⟩ "0123456789" = true := by
  intro c ⟨h1, h2⟩
  have : ∀ k : Nat, k < 10 → inS ⟨#[48 + k]⟩ "0123456789" = true := by decide +kernel
  have h := this (c - 48) (by omega)
  rwa [show 48 + (c - 48) = c by omega] at h
theorem fst_of (m : Nat) : ∃ d, atI (nT (m : Int)).cps.toList 0 = some d ∧ (d = 48 → m = 0) := by
  by_cases h : m = 0
  · subst h
    exact ⟨48, by decide +kernel, fun _ => rfl⟩
  · obtain ⟨d, r, e, hd⟩ := dig_head m (by omega)
    refine ⟨d, ?_, fun q => absurd q hd⟩
    rw [nT_list, e]
    exact atI_lit 0 rfl
theorem one_str {c d : Nat} : (⟨#[c]⟩ : Str) = ⟨#[d]⟩ ↔ c = d := by
  constructor
  · intro h
    injection h with h
    injection h with h
    injection h
  · rintro rfl; rfl
theorem r_number_in {m : Nat} {most : Int} (h : m < 10 ^ 60) (hm : (m : Int) ≤ most) : Ok den_number_in [.dat (.str (nT m)), .dat (.int most)] Q ↔ Q (.dat (.int m)) [.un, .un] := by
  have l1 := nT_short h
  have l2 := nT_pos m
  obtain ⟨d, hd, hz⟩ := fst_of m
  have k1 : (1 : Int) ≤ ((nT m).length : Int) := by omega
  have k2 : ((nT m).length : Int) ≤ 60 := by omega
  have ha : (nT (m : Int)).cps.toList.all (fun c => inS ⟨#[c]⟩ "0123456789") = true := List.all_eq_true.mpr fun c hc => fig_in c (nT_dig m c hc)
  refine ok_det ?_
  simp_arith [↓den_number_in, ↓b_number_in, ↓tx_len, ↓tx_items, ↓tx_in, ↓k1, ↓k2]
  unfold signs
  refine Ok.compB (fun c => .str ⟨#[c]⟩) (fun c => inS ⟨#[c]⟩ "0123456789") (by rw [show (nT (m : Int)).cps.toList.length = (nT (m : Int)).length from Array.length_toList, show sizeLine = 16777216 from rfl]; omega) (fun c _ => ?_) ?_
  · simp_arith [↓tx_in]
  · simp_arith [↓allB, ↓ha]
    have hix : oIx (.str (nT (m : Int))) (.int 0) = mV (.str ⟨#[d]⟩) := tx_ix (by omega) hd
    have e2 := tx_intS (nT_val h) (by omega)
    by_cases h0 : d = 48
    · have e0 := hz h0
      subst e0
      have e3 : nT ((0 : Nat) : Int) = Str.ofString "0" := by decide +kernel
      rw [e3] at hix e2 ⊢
      subst h0
      have e4 : (⟨#[48]⟩ : Str) = Str.ofString "0" := by decide +kernel
      rw [e4] at hix
      simp_arith [↓hix, ↓e2, ↓hm]
      exact fun q => absurd hm q
    · have e4 : ¬ (⟨#[d]⟩ : Str) = Str.ofString "0" := fun q => h0 (one_str.mp (q.trans (by decide +kernel)))
      simp_arith [↓hix, ↓e2, ↓hm, ↓e4]
theorem nat_of {i : Int} (h0 : 0 ≤ i) (h : i < 1000000000000000000000000000000) : ∃ m : Nat, i = m ∧ m < 10 ^ 60 := by
  obtain ⟨m, rfl⟩ := Int.eq_ofNat_of_zero_le h0
  exact ⟨m, rfl, by omega⟩
theorem r_number {i most : Int} (h0 : 0 ≤ i) (h : i < 1000000000000000000000000000000) (hm : i ≤ most) : Ok den_number_in [.dat (.str (nT i)), .dat (.int most)] Q ↔ Q (.dat (.int i)) [.un, .un] := by
  obtain ⟨m, rfl, h1⟩ := nat_of h0 h
  exact r_number_in h1 hm
theorem nTi_free {i : Int} (h0 : 0 ≤ i) : 32 ∉ (nT i).cps.toList := by
  obtain ⟨m, rfl⟩ := Int.eq_ofNat_of_zero_le h0
  exact nT_free m
theorem nTi_short {i : Int} (h0 : 0 ≤ i) (h : i < 1000000000000000000000000000000) : (nT i).length ≤ 60 := by
  obtain ⟨m, rfl, h1⟩ := nat_of h0 h
  exact nT_short h1
theorem log_ok {i : Int} (h0 : 0 ≤ i) (h : i < 1000000000000000000000000000000) : i.natAbs.log2 < 1920 := by
  obtain ⟨m, rfl, h1⟩ := nat_of h0 h
  rw [Int.natAbs_natCast]
  by_cases hz : m = 0
  · subst hz; decide +kernel
  · rw [Nat.log2_lt hz]
    exact Nat.lt_trans h1 (by decide +kernel)
def wT (s l p : Int) (t : Str) : List Str := [Str.ofString "step", nT s, t, Str.ofString "limit", nT l, Str.ofString "pause", nT p]
def fT (s l p : Int) (t : Str) : Str := Str.join bl1 (wT s l p t)
variable {s l p : Int} {t : Str}
theorem menu_free (ht : inMenu t) : 32 ∉ t.cps.toList ∧ t.length = 4 := by
  rcases ht with rfl | rfl | rfl <;> exact ⟨by decide +kernel, by decide +kernel⟩
theorem split_fT (h : FormOk s l p t) : spl (fT s l p t) (Str.ofString " ") = [.str (Str.ofString "step"), .str (nT s), .str t, .str (Str.ofString "limit"), .str (nT l), .str (Str.ofString "pause"), .str (nT p)] := by
  obtain ⟨h1, h2, h3, h4, h5, h6, ht⟩ := h
  have e : Txt.split (fT s l p t) (Str.ofString " ") = wT s l p t := by
    refine split_jn (by unfold wT; simp) ?_
    intro w hw
    unfold wT at hw
    simp only [List.mem_cons, List.not_mem_nil, or_false] at hw
    rcases hw with rfl | rfl | rfl | rfl | rfl | rfl | rfl
    · decide +kernel
    · exact nTi_free (by omega)
    · exact (menu_free ht).1
    · decide +kernel
    · exact nTi_free (by omega)
    · decide +kernel
    · exact nTi_free (by omega)
  unfold spl
  rw [e]
  rfl
theorem fT_short (h : FormOk s l p t) : (fT s l p t).length ≤ 16777000 := by
  have := StrLaws.join_length_le bl1 (wT s l p t)
  obtain ⟨h1, h2, h3, h4, h5, h6, ht⟩ := h
  have a1 := nTi_short (i := s) (by omega) (by omega)
  have a2 := nTi_short (i := l) (by omega) (by omega)
  have a3 := nTi_short (i := p) (by omega) (by omega)
  have a4 := (menu_free ht).2
  unfold fT
  unfold wT at this ⊢
  simp only [List.map_cons, List.map_nil, List.sum_cons, List.sum_nil, List.length_cons, List.length_nil, a4, show (Str.ofString "step").length = 4 by decide +kernel, show (Str.ofString "limit").length = 5 by decide +kernel, show (Str.ofString "pause").length = 5 by decide +kernel, show bl1.length = 1 by decide +kernel] at this
  omega
end
end Pu.Q
set_option Elab.async false
set_option linter.all false
set_option maxRecDepth 100000
set_option maxHeartbeats 1000000
set_option Elab.async false
set_option linter.all false
set_option maxRecDepth 100000
set_option maxHeartbeats 1000000
set_option Elab.async false
set_option linter.all false
set_option maxRecDepth 100000
set_option maxHeartbeats 1000000
set_option Elab.async false
set_option linter.all false
set_option maxRecDepth 100000
set_option maxHeartbeats 1000000
set_option Elab.async false
set_option linter.all false
set_option maxRecDepth 100000
set_option maxHeartbeats 1000000
set_option Elab.async false
set_option linter.all false
set_option maxRecDepth 100000
set_option maxHeartbeats 1000000
namespace Pu.Q
open PySem PySem.Spec PyProof.Rows L2 Pu
section
variable {s l p s2 l2 p2 : Int} {t t2 : Str} {Q : RV → Ev → Prop}
theorem tx_fmtI {i : Int} {e : Ev} {Q : Str → Ev → Prop} (h : i.natAbs.log2 < 1920) : Ok (fmtV (.int i)) e Q ↔ Q (nT i) e := by
  show O.Ok (fmtV (.int i)) e Q ↔ _
  unfold O.Ok fmtV
  simp only [if_pos h]
  exact Iff.rfl
theorem tx_fmtS {z : Str} {e : Ev} {Q : Str → Ev → Prop} (h : z.length ≤ 16777216) : Ok (fmtV (.str z)) e Q ↔ Q z e := by
  show O.Ok (fmtV (.str z)) e Q ↔ _
  unfold O.Ok fmtV
  simp only [if_pos (show z.length ≤ sizeLine by rw [show sizeLine = 16777216 from rfl]; exact h)]
theorem str_len (x y : Str) : (x ++ y).length = x.length + y.length := by
  simp [Str.length, Str.cps_append]
theorem tx_js {m : M RV} {ms : List (M RV)} {acc y : Str} {e : Ev} {Q : Str → Ev → Prop} (h : ∀ Q : RV → Ev → Prop, Ok m e Q ↔ Q (.dat (.str y)) e) (hl : acc.length + y.length ≤ 16777216) : Ok (mJs (m :: ms) acc) e Q ↔ Ok (mJs ms (acc ++ y)) e Q := by
  show Ok (m.bind fun r => (M.rd r).bind fun v => match v with
    | .str y => if (acc ++ y).length ≤ sizeLine then mJs ms (acc ++ y) else M.bad
    | _ => M.bad) e Q ↔ _
  rw [ok_bind, h, ok_bind, ok_rdD]
  dsimp only
  rw [if_pos (by rw [str_len, show sizeLine = 16777216 from rfl]; exact hl)]
theorem tx_js0 {acc : Str} {e : Ev} {Q : Str → Ev → Prop} : Ok (mJs [] acc) e Q ↔ Q acc e := ok_ret
theorem fs_text : Str.empty ++ Str.ofString "step " ++ nT s ++ Str.ofString " " ++ t ++ Str.ofString " limit " ++ nT l ++ Str.ofString " pause " ++ nT p = fT s l p t := by
  refine str_of ?_
  unfold fT wT
  rw [jn_cc, jn_cc, jn_cc, jn_cc, jn_cc, jn_cc]
  have e1 : (Str.ofString "step ").cps.toList = (Str.ofString "step").cps.toList ++ [32] := by decide +kernel
  have e2 : (Str.ofString " ").cps.toList = [32] := by decide +kernel
  have e3 : (Str.ofString " limit ").cps.toList = 32 :: ((Str.ofString "limit").cps.toList ++ [32]) := by decide +kernel
  have e4 : (Str.ofString " pause ").cps.toList = 32 :: ((Str.ofString "pause").cps.toList ++ [32]) := by decide +kernel
  have e5 : Str.empty.cps.toList = [] := rfl
  have e6 : (Str.join bl1 [nT p]).cps.toList = (nT p).cps.toList := rfl
  simp only [Str.cps_append, Array.toList_append, e1, e2, e3, e4, e5, e6, List.append_assoc, List.nil_append, List.cons_append]
end
end Pu.Q
set_option Elab.async false
set_option linter.all false
set_option maxRecDepth 100000
set_option maxHeartbeats 1000000
set_option Elab.async false
set_option linter.all false
set_option maxRecDepth 100000
set_option maxHeartbeats 1000000
set_option Elab.async false
set_option linter.all false
set_option maxRecDepth 100000
set_option maxHeartbeats 1000000
set_option Elab.async false
set_option linter.all false
set_option maxRecDepth 100000
set_option maxHeartbeats 1000000
set_option Elab.async false
set_option linter.all false
set_option maxRecDepth 100000
set_option maxHeartbeats 1000000
set_option Elab.async false
set_option linter.all false
set_option maxRecDepth 100000
set_option maxHeartbeats 600000
set_option Elab.async false
set_option linter.all false
set_option maxRecDepth 100000
set_option maxHeartbeats 600000
set_option Elab.async false
set_option linter.all false
set_option maxRecDepth 100000
set_option maxHeartbeats 1000000
set_option Elab.async false
set_option linter.all false
set_option maxRecDepth 100000
set_option maxHeartbeats 4000000
namespace Pu.Q
open PySem PySem.Spec PyProof.Rows L2 Pu
section
variable {s l p : Int} {t : Str} {Q : RV → Ev → Prop}
def NoteW (s : Int) (n : Note) : Prop := 0 ≤ n.1 ∧ ∀ m, n.2.2 = some m → 0 ≤ m ∧ m ≤ 1000000000000000000000000000000 ∧ m % s = 0
theorem noteW_of {n : Note} (h : noteB s n = true) : NoteW s n := by
  obtain ⟨lo, hi, m⟩ := n
  unfold noteB at h
  simp only [Bool.and_eq_true, decide_eq_true_eq] at h
  obtain ⟨⟨⟨⟨h1, h2⟩, h3, h4⟩, h5⟩, h6⟩ := h
  refine ⟨h1, fun k hk => ?_⟩
  have hk' : m = some k := hk
  subst hk'
  have h6' : markB s k = true := h6
  unfold markB at h6'
  rw [decide_eq_true_eq] at h6'
  exact ⟨h6'.1.1, h6'.1.2, h6'.2⟩
end
end Pu.Q
set_option Elab.async false
set_option linter.all false
set_option maxRecDepth 100000
set_option maxHeartbeats 4000000
namespace Pu.Q
open PySem PySem.Spec PyProof.Rows L2 Pu
section
variable {s l p : Int} {t : Str} {Q : RV → Ev → Prop}
structure LotW (s : Int) (ns : List Note) : Prop where
  ne : ns ≠ []
  few : ns.length ≤ 40
  all : ∀ n ∈ ns, noteB s n = true
theorem LotW.mark {ns : List Note} (H : LotW s ns) : ∀ n ∈ ns, ∀ m, n.2.2 = some m → 0 ≤ m := fun n hn m hm => ((noteW_of (H.all n hn)).2 m hm).1
end
end Pu.Q
set_option Elab.async false
set_option linter.all false
set_option maxRecDepth 100000
set_option maxHeartbeats 1000000
set_option Elab.async false
set_option linter.all false
set_option maxRecDepth 100000
set_option maxHeartbeats 2000000
set_option Elab.async false
set_option linter.all false
set_option maxRecDepth 100000
set_option maxHeartbeats 2000000
set_option Elab.async false
set_option linter.all false
set_option maxRecDepth 100000
set_option maxHeartbeats 1000000
namespace Pu.Q
open PySem PySem.Spec PyProof.Rows L2 Pu
structure RZ (d z : Nat) (v : Val) : Prop where
  dd : isD v = true
  dp : dep v ≤ d
  io : iOk v = true
  sz : rsz v ≤ z
structure RZs (d z : Nat) (vs : List Val) : Prop where
  dd : isDs vs = true
  dp : deps vs ≤ d
  io : iOks vs = true
  sz : rszs vs ≤ z
theorem RZ.ok {d z : Nat} {v : Val} (h : RZ d z v) (hd : d ≤ 60) (hz : z ≤ 16000000) : rOk v = true := by
  unfold rOk
  rw [h.dd, h.io, decide_eq_true (Nat.le_trans h.dp hd), decide_eq_true (Nat.le_trans h.sz hz)]
  rfl
theorem RZ.dOk {d z : Nat} {v : Val} (h : RZ d z v) (hd : d ≤ 60) : dOk v = true := by
  unfold Pu.dOk
  rw [h.dd, Bool.true_and]
  exact decide_eq_true (Nat.le_trans h.dp (by omega))
theorem RZ.tup {d z : Nat} {vs : List Val} (h : RZs d z vs) : RZ (d + 1) (z + 3) (.tup vs) := ⟨by rw [isD]; exact h.dd, by rw [dep]; have := h.dp; omega, by rw [iOk]; exact h.io, by rw [rsz]; have := h.sz; omega⟩
theorem RZ.lst {d z : Nat} {vs : List Val} (h : RZs d z vs) : RZ (d + 1) (z + 3) (.lst vs) := ⟨by rw [isD]; exact h.dd, by rw [dep]; have := h.dp; omega, by rw [iOk]; exact h.io, by rw [rsz]; have := h.sz; omega⟩
theorem RZs.nil : RZs 0 0 [] := ⟨rfl, Nat.le_refl _, rfl, Nat.le_refl _⟩
theorem RZs.cons {d d2 z z2 : Nat} {v : Val} {vs : List Val} (h : RZ d z v) (h2 : RZs d2 z2 vs) : RZs (max d d2) (z + 2 + z2) (v :: vs) := by
  refine ⟨?_, ?_, ?_, ?_⟩
  · rw [isDs, h.dd, h2.dd]; rfl
  · rw [deps]; have := h.dp; have := h2.dp; omega
  · rw [iOks, h.io, h2.io]; rfl
  · rw [rszs]; have := h.sz; have := h2.sz; omega
theorem RZs.map {α : Type} {f : α → Val} {d z : Nat} : ∀ {xs : List α}, (∀ x ∈ xs, RZ d z (f x)) → RZs d (xs.length * (z + 2)) (xs.map f)
  | [], _ => ⟨rfl, Nat.zero_le _, rfl, Nat.zero_le _⟩
  | x :: r, h => by
    have a := h x List.mem_cons_self
    have b := RZs.map (xs := r) fun y hy => h y (List.mem_cons_of_mem _ hy)
    have c := RZs.cons a b
    refine ⟨c.dd, Nat.le_trans c.dp (by omega), c.io, Nat.le_trans c.sz ?_⟩
    rw [List.length_cons, Nat.add_mul, Nat.one_mul]
    omega
theorem RZ.int {i : Int} (h1 : -1606938044258990275541962092341162602522202993782792835301376 < i) (h2 : i < 1606938044258990275541962092341162602522202993782792835301376) : RZ 0 202 (.int i) := ⟨rfl, Nat.le_refl _, by rw [iOk]; exact decide_eq_true ⟨h1, h2⟩, by rw [rsz]; exact Nat.le_refl _⟩
theorem RZ.non : RZ 0 202 .non := ⟨rfl, Nat.le_refl _, rfl, by rw [rsz]; decide⟩
theorem RZ.bl {b : Bool} : RZ 0 202 (.bl b) := ⟨rfl, Nat.le_refl _, rfl, by rw [rsz]; decide⟩
theorem RZ.str {x : Str} {n : Nat} (h : PyData.strOk x = true) (hl : x.length ≤ n) : RZ 0 (10 * n + 2) (.str x) := ⟨by rw [isD]; exact h, by rw [dep]; exact Nat.le_refl _, by rw [iOk], by rw [rsz]; omega⟩
theorem RZ.mono {d d2 z z2 : Nat} {v : Val} (h : RZ d z v) (hd : d ≤ d2) (hz : z ≤ z2) : RZ d2 z2 v := ⟨h.dd, Nat.le_trans h.dp hd, h.io, Nat.le_trans h.sz hz⟩
end Pu.Q
set_option Elab.async false
set_option linter.all false
set_option maxRecDepth 100000
set_option maxHeartbeats 2000000
set_option Elab.async false
set_option linter.all false
set_option maxRecDepth 100000
set_option maxHeartbeats 1000000
namespace Pu.Q
open PySem PySem.Spec PyProof.Rows L2 Pu
def okS (x : Str) : Prop := ∀ c ∈ x.cps.toList, c < 1114112
theorem okS.strOk {x : Str} (h : okS x) : PyData.strOk x = true := by
  unfold PyData.strOk
  rw [← Array.all_toList, List.all_eq_true]
  intro c hc
  exact decide_eq_true (h c hc)
end Pu.Q
set_option Elab.async false
set_option linter.all false
set_option maxRecDepth 100000
set_option maxHeartbeats 2000000
set_option Elab.async false
set_option linter.all false
set_option maxRecDepth 100000
set_option maxHeartbeats 2000000
set_option Elab.async false
set_option linter.all false
set_option maxRecDepth 100000
set_option maxHeartbeats 1000000
set_option Elab.async false
set_option linter.all false
set_option maxRecDepth 100000
set_option maxHeartbeats 2000000
set_option Elab.async false
set_option linter.all false
set_option maxRecDepth 100000
set_option maxHeartbeats 2000000
set_option Elab.async false
set_option linter.all false
set_option maxRecDepth 100000
set_option maxHeartbeats 2000000
set_option Elab.async false
set_option linter.all false
set_option maxRecDepth 100000
set_option maxHeartbeats 2000000
set_option Elab.async false
set_option linter.all false
set_option maxRecDepth 100000
set_option maxHeartbeats 2000000
set_option Elab.async false
set_option linter.all false
set_option maxRecDepth 100000
set_option maxHeartbeats 2000000
set_option Elab.async false
set_option linter.all false
set_option maxRecDepth 100000
set_option maxHeartbeats 2000000
set_option Elab.async false
set_option linter.all false
set_option maxRecDepth 100000
set_option maxHeartbeats 2000000
set_option Elab.async false
set_option linter.all false
set_option maxRecDepth 100000
set_option maxHeartbeats 4000000
set_option Elab.async false
set_option linter.all false
set_option maxRecDepth 100000
set_option maxHeartbeats 4000000
set_option Elab.async false
set_option linter.all false
set_option maxRecDepth 100000
set_option maxHeartbeats 8000000
set_option Elab.async false
set_option linter.all false
set_option maxRecDepth 100000
set_option maxHeartbeats 4000000
namespace Pu.Q
open PySem PySem.Spec PyProof.Rows L2 Pu
section
variable {s l p : Int} {t : Str} {Q : RV → Ev → Prop} {v w : Val} {R : List Str}
def BV (G : Val → Prop) (v : Val) : Prop := (∃ ys, v = .tup ys ∧ ys.length ≤ 260 ∧ ∀ y ∈ ys, G y) ∨ (∃ ys, v = .lst ys ∧ ∀ y ∈ ys, G y) ∨ v = .non ∨ v = .int 5
theorem isRs_al29 {ys : List Val} (h : ∀ y ∈ ys, isR y = true) : isRs ys = true := by
  induction ys with
  | nil => rfl
  | cons y r ih => simp [isRs, h y List.mem_cons_self, ih fun z hz => h z (List.mem_cons_of_mem _ hz)]
theorem BV.isR (h : BV (fun y => isR y = true) v) : isR v = true := by
  rcases h with ⟨ys, rfl, _, h⟩ | ⟨ys, rfl, h⟩ | rfl | rfl
  · show isRs ys = true; exact isRs_al29 h
  · show isRs ys = true; exact isRs_al29 h
  · rfl
  · rfl
theorem BV.len {G : Val → Prop} (h : BV G v) : ∀ vs, v = .tup vs → vs.length ≤ 260 := fun vs e => by
  subst e
  rcases h with ⟨ys, e, h, _⟩ | ⟨ys, e, _⟩ | e | e
  · cases e; exact h
  · cases e
  · cases e
  · cases e
end
end Pu.Q
set_option Elab.async false
set_option linter.all false
set_option maxRecDepth 100000
set_option maxHeartbeats 4000000
set_option Elab.async false
set_option linter.all false
set_option maxRecDepth 100000
set_option maxHeartbeats 4000000
set_option Elab.async false
set_option linter.all false
set_option maxRecDepth 100000
set_option maxHeartbeats 4000000
set_option Elab.async false
set_option linter.all false
set_option maxRecDepth 100000
set_option maxHeartbeats 4000000
set_option Elab.async false
set_option linter.all false
set_option maxRecDepth 100000
set_option maxHeartbeats 2000000
set_option Elab.async false
set_option linter.all false
set_option maxRecDepth 100000
set_option maxHeartbeats 4000000
set_option Elab.async false
set_option linter.all false
set_option maxRecDepth 100000
set_option maxHeartbeats 4000000
set_option Elab.async false
set_option linter.all false
set_option maxRecDepth 100000
set_option maxHeartbeats 4000000
set_option Elab.async false
set_option linter.all false
set_option maxRecDepth 100000
set_option maxHeartbeats 8000000
set_option Elab.async false
set_option linter.all false
set_option maxRecDepth 100000
set_option maxHeartbeats 8000000
set_option Elab.async false
set_option linter.all false
set_option maxRecDepth 100000
set_option maxHeartbeats 8000000
set_option Elab.async false
set_option linter.all false
set_option maxRecDepth 100000
set_option maxHeartbeats 4000000
set_option Elab.async false
set_option linter.all false
set_option maxRecDepth 100000
set_option maxHeartbeats 4000000
set_option Elab.async false
set_option linter.all false
set_option maxRecDepth 100000
set_option maxHeartbeats 4000000
namespace Pu.Q
open PySem PySem.Spec PyProof.Rows L2 Pu
section
variable {s l p : Int} {t : Str} {Q : RV → Ev → Prop}
theorem mx_max {i j : Int} : mx i j = max i j := by
  unfold mx
  split <;> omega
theorem mn_min {i j : Int} : mn i j = min i j := by
  unfold mn
  split <;> omega
def laN (D : Int) (n : Note) : Note := (n.1 + D, n.2.1 + D, n.2.2.map (· + D))
def laA (D : Int) (ns : List Note) : List Note := ns.map (laN D)
structure FarN (s : Int) (t : Str) (ns : List Note) : Prop where
  lo : ∀ n ∈ ns, 0 ≤ n.1
  hi : ∀ n ∈ ns, ∀ m, n.2.2 = some m → 0 ≤ m - high t s
theorem FarN.take {k : Nat} {ns : List Note} (F : FarN s t ns) : FarN s t (ns.take k) := ⟨fun n h => F.lo n (List.mem_of_mem_take h), fun n h => F.hi n (List.mem_of_mem_take h)⟩
end
end Pu.Q
set_option Elab.async false
set_option linter.all false
set_option maxRecDepth 100000
set_option maxHeartbeats 4000000
namespace Pu.Q
open PySem PySem.Spec PyProof.Rows L2 Pu
section
variable {s l p : Int} {t : Str} {Q : RV → Ev → Prop}
abbrev Row := Int × List Int
def getR : List Row → Int → Option (List Int)
  | [], _ => none
  | q :: r, c => if q.1 = c then some q.2 else getR r c
def spotsT (ns : List Note) (out : List (Int × Option Int)) : List Int := (((out.map (·.1)).zip ns).filter fun q => q.2.2.2.isSome).map (·.1)
def lastO (ns : List Note) (out : List (Int × Option Int)) : Int := match (spotsT ns out).getLast? with
  | some x => x
  | none => (out.map (·.1)).getLast?.getD 0
end
end Pu.Q
set_option Elab.async false
set_option linter.all false
set_option maxRecDepth 100000
set_option maxHeartbeats 4000000
namespace Pu.Q
open PySem PySem.Spec PyProof.Rows L2 Pu
section
variable {s l p : Int} {t : Str} {Q : RV → Ev → Prop}
structure TabR (s p : Int) (t : Str) (ns : List Note) (k : Nat) (R : List Row) : Prop where
  fit : ∀ q ∈ R, (ways s p t (ns.take k) q.2).isSome = true
  nd : (R.map (·.1)).Nodup
  rng : ∀ q ∈ R, 0 ≤ q.1 ∧ q.1 ≤ k
  len : ∀ q ∈ R, q.2.length ≤ k
theorem nd_len : ∀ (k : Nat) (L : List Int), L.Nodup → (∀ x ∈ L, 0 ≤ x ∧ x < k) → L.length ≤ k
  | 0, L, _, h => by
    cases L with
    | nil => exact Nat.le_refl _
    | cons x r => have := h x List.mem_cons_self; omega
  | k + 1, L, nd, h => by
    by_cases c : (k : Int) ∈ L
    · have e := nd_len k (L.erase (k : Int)) (nd.erase _) fun x hx => by
        have h1 := h x (List.mem_of_mem_erase hx)
        have h2 : x ≠ k := fun z => by rw [z] at hx; exact (nd.not_mem_erase) hx
        omega
      rw [List.length_erase_of_mem c] at e
      omega
    · have e := nd_len k L nd fun x hx => by
        have h1 := h x hx
        have h2 : x ≠ k := fun z => by rw [z] at hx; exact c hx
        omega
      omega
theorem TabR.few {ns : List Note} {k : Nat} {R : List Row} (T : TabR s p t ns k R) : R.length ≤ k + 1 := by
  have := nd_len (k + 1) (R.map (·.1)) T.nd fun x hx => by
    obtain ⟨q, hq, rfl⟩ := List.mem_map.mp hx
    have := T.rng q hq
    omega
  rwa [List.length_map] at this
theorem TabR.nil {ns : List Note} {k : Nat} : TabR s p t ns k [] := ⟨fun _ h => (by cases h), List.nodup_nil, fun _ h => (by cases h), fun _ h => (by cases h)⟩
end
end Pu.Q
set_option Elab.async false
set_option linter.all false
set_option maxRecDepth 100000
set_option maxHeartbeats 4000000
namespace Pu.Q
open PySem PySem.Spec PyProof.Rows L2 Pu
section
variable {s l p : Int} {t : Str} {Q : RV → Ev → Prop}
structure Dd (k : Nat) (v : Val) : Prop where
  d : isD v = true
  h : dep v ≤ k
theorem Dd.int {i : Int} : Dd 0 (.int i) := ⟨rfl, Nat.le_refl _⟩
theorem Dd.bl {i : Bool} : Dd 0 (.bl i) := ⟨rfl, Nat.le_refl _⟩
theorem Dd.lst {k : Nat} {vs : List Val} (h : ∀ v ∈ vs, Dd k v) : Dd (k + 1) (.lst vs) := by
  have := deps_of fun v hv => (h v hv).h
  exact ⟨by rw [isD]; exact isDs_of fun v hv => (h v hv).d, by rw [dep]; omega⟩
theorem Dd.tup {k : Nat} {vs : List Val} (h : ∀ v ∈ vs, Dd k v) : Dd (k + 1) (.tup vs) := by
  have := deps_of fun v hv => (h v hv).h
  exact ⟨by rw [isD]; exact isDs_of fun v hv => (h v hv).d, by rw [dep]; omega⟩
theorem Dd.ok {k : Nat} {v : Val} (h : Dd k v) (hk : k ≤ 60) : dOk v = true := by
  unfold dOk
  rw [h.d, Bool.true_and]
  exact decide_eq_true (Nat.le_trans h.h hk)
end
end Pu.Q
set_option Elab.async false
set_option linter.all false
set_option maxRecDepth 100000
set_option maxHeartbeats 4000000
set_option Elab.async false
set_option linter.all false
set_option maxRecDepth 100000
set_option maxHeartbeats 4000000
namespace Pu.Q
open PySem PySem.Spec PyProof.Rows L2 Pu
section
variable {s l p : Int} {t : Str} {Q : RV → Ev → Prop}
def NO5 (s N W : Int) (n : Note) : Prop := N ≤ n.1 ∧ n.1 ≤ n.2.1 ∧ n.2.1 ≤ W ∧ ∀ m, n.2.2 = some m → 0 ≤ m ∧ m ≤ W ∧ m % s = 0 ∧ N ≤ m + 3 * s
theorem NO5.ok {N W : Int} {n : Note} (h : NO5 s N W n) : NOk s N W n := ⟨h.1, h.2.1, h.2.2.1, fun m hm => ⟨(h.2.2.2 m hm).1, (h.2.2.2 m hm).2.1, (h.2.2.2 m hm).2.2.1⟩⟩
end
end Pu.Q
set_option Elab.async false
set_option linter.all false
set_option maxRecDepth 100000
set_option maxHeartbeats 4000000
namespace Pu.Q
open PySem PySem.Spec PyProof.Rows L2 Pu
section
variable {s l p : Int} {t : Str} {Q : RV → Ev → Prop}
structure LotB (s l p : Int) (t : Str) (ns : List Note) : Prop where
  p1 : 1 ≤ p
  p2 : p ≤ 1000000000000000000
  l0 : 0 ≤ l
  lw : low t s ≤ 0
  hi : ∀ n ∈ ns, 0 ≤ n.1 ∧ n.2.1 ≤ Mx
  mar : ∀ k m, mkAt ns k = some m → 0 ≤ m ∧ m ≤ Mx
theorem mxd : Mx = 1000000000000000000000000000000 := rfl
theorem LotB.low {ns : List Note} (B : LotB s l p t ns) : ∀ n ∈ ns, 0 ≤ n.1 := fun n h => (B.hi n h).1
theorem LotB.x {ns : List Note} {xs : List Int} (B : LotB s l p t ns) (M : Mins ns none xs) (j : Nat) : 0 ≤ xs.getD j 0 ∧ xs.getD j 0 ≤ Mx := by
  refine ⟨M.ge0 B.low j, ?_⟩
  rw [List.getD_eq_getElem?_getD]
  cases e : xs[j]? with
  | none => rw [mxd]; show (0 : Int) ≤ _; omega
  | some x =>
    have lt : j < ns.length := by rw [← M.len]; exact (List.getElem?_eq_some_iff.mp e).1
    have := M.bnd (List.getElem?_eq_getElem lt) e
    exact Int.le_trans this.2 (B.hi _ (List.getElem_mem lt)).2
theorem LotB.lst {ns : List Note} {out : List (Int × Option Int)} {k : Nat} {m : Int} (B : LotB s l p t ns) (e : ways s p t ns [] = some out) (hm : mkAt ns k = some m) : 0 ≤ lstA s p t ns (out.map (·.1)) (firstE ns k) m ∧ lstA s p t ns (out.map (·.1)) (firstE ns k) m ≤ Mx := by
  obtain ⟨f, ef, M⟩ := ways_fit B.p1 e
  have hk := mk_lt (show (mkAt ns k).isSome = true by rw [hm]; rfl)
  obtain ⟨a1, a2, a3⟩ := firstE_ok (ns := ns) k
  have mf : mkAt ns (firstE ns k) = some m := by rw [← mk_first]; exact hm
  constructor
  · unfold lstA
    simp only [mx_max]
    omega
  · have O := ((fit_iff (s := s) (p := p) (t := t) M.len (mem_cuts.mp cutsOf_mem).1).mp ⟨f, ef⟩ (firstE ns k) (by omega)).2 m mf (fun z => by
      rw [cutsOf_get (by omega)] at z
      unfold cutOf at z
      rw [a3] at z
      cases z)
    have := B.x M (firstE ns k)
    rw [mn_min] at O
    omega
end
end Pu.Q
set_option Elab.async false
set_option linter.all false
set_option maxRecDepth 100000
set_option maxHeartbeats 4000000
set_option Elab.async false
set_option linter.all false
set_option maxRecDepth 100000
set_option maxHeartbeats 1000000
set_option Elab.async false
set_option linter.all false
set_option maxRecDepth 100000
set_option maxHeartbeats 1000000
namespace Pu.Q
open PySem PySem.Spec PyProof.Rows L2 Pu
section
variable {Q : RV → Ev → Prop} {v : Val}
def vlB : Val → Bool
  | .ty _ => false
  | .glo _ => false
  | .obj _ _ _ => false
  | _ => true
def isSt : Val → Bool
  | .str _ => true
  | _ => false
theorem vl_str (h : vlB v = true) : fIsi isT [v, .ty "str"] = mV (.bl (isSt v)) := by
  cases v <;> first | rfl | cases h
theorem dig_snoc {m d : Nat} (hm : 0 < m) (hd : d < 10) : (Nat.toDigits 10 (10 * m + d)).map Char.toNat = (Nat.toDigits 10 m).map Char.toNat ++ [48 + d] := by
  rw [Nat.toDigits_of_base_le (by decide) (by omega)]
  rw [show (10 * m + d) / 10 = m by omega, show (10 * m + d) % 10 = d by omega, List.map_append]
  congr 1
  have : ∀ k : Nat, k < 10 → [Nat.digitChar k].map Char.toNat = [48 + k] := by decide +kernel
  exact this d hd
theorem dig_one {d : Nat} (hd : d < 10) : (Nat.toDigits 10 d).map Char.toNat = [48 + d] := by
  have : ∀ k : Nat, k < 10 → (Nat.toDigits 10 k).map Char.toNat = [48 + k] := by decide +kernel
  exact this d hd
theorem dig_of : ∀ (n : Nat) (l : List Nat), l.length = n → l ≠ [] → (∀ c ∈ l, 48 ≤ c ∧ c ≤ 57) → (∀ r, l = 48 :: r → r = []) → ∃ m : Nat, (Nat.toDigits 10 m).map Char.toNat = l ∧ m < 10 ^ n := by
  intro n
  induction n with
  | zero => intro l h1 h2; exact absurd (List.length_eq_zero_iff.mp h1) h2
  | succ n ih =>
    intro l h1 h2 h3 h4
    obtain ⟨k, c, rfl⟩ : ∃ k c, l = k ++ [c] := ⟨l.dropLast, l.getLast h2, (List.dropLast_concat_getLast h2).symm⟩
    have hc := h3 c (by simp)
    have hk : k.length = n := by simpa using h1
    by_cases e : k = []
    · subst e
      refine ⟨c - 48, ?_, ?_⟩
      · rw [dig_one (by omega)]
        show [48 + (c - 48)] = [c]
        rw [show 48 + (c - 48) = c by omega]
      · have : 10 ^ 1 ≤ 10 ^ (n + 1) := Nat.pow_le_pow_right (by omega) (by omega)
        omega
    · obtain ⟨m, e1, e2⟩ := ih k hk e (fun c hc => h3 c (by simp [hc])) (fun r hr => by
        subst hr
        have := h4 (r ++ [c]) rfl
        simp at this)
      have hm : 0 < m := by
        rcases Nat.eq_zero_or_pos m with rfl | hm
        · exfalso
          rw [show (Nat.toDigits 10 0).map Char.toNat = [48] by decide +kernel] at e1
          subst e1
          have := h4 [c] rfl
          simp at this
        · exact hm
      refine ⟨10 * m + (c - 48), ?_, ?_⟩
      · rw [dig_snoc hm (by omega), e1, show 48 + (c - 48) = c by omega]
      · rw [Nat.pow_succ]; omega
theorem fig_no {c : Nat} (h : inS ⟨#[c]⟩ "0123456789" = true) : 48 ≤ c ∧ c ≤ 57 := by
  unfold inS at h
  rw [StrLaws.found_one] at h
  have e : (("0123456789" : Str)).cps.toList = [48, 49, 50, 51, 52, 53, 54, 55, 56, 57] := by decide +kernel
  rw [e] at h
  simp at h
  omega
theorem r_num_over {m : Nat} {most : Int} (h : m < 10 ^ 60) (hm : ¬ (m : Int) ≤ most) : Ok den_number_in [.dat (.str (nT m)), .dat (.int most)] Q ↔ Q (.dat .non) [.un, .un] := by
  have l1 := nT_short h
  have l2 := nT_pos m
  obtain ⟨d, hd, hz⟩ := fst_of m
  have k1 : (1 : Int) ≤ ((nT m).length : Int) := by omega
  have k2 : ((nT m).length : Int) ≤ 60 := by omega
  have ha : (nT (m : Int)).cps.toList.all (fun c => inS ⟨#[c]⟩ "0123456789") = true := List.all_eq_true.mpr fun c hc => fig_in c (nT_dig m c hc)
  refine ok_det ?_
  simp_arith [↓den_number_in, ↓b_number_in, ↓tx_len, ↓tx_items, ↓tx_in, ↓k1, ↓k2]
  unfold signs
  refine Ok.compB (fun c => .str ⟨#[c]⟩) (fun c => inS ⟨#[c]⟩ "0123456789") (by rw [show (nT (m : Int)).cps.toList.length = (nT (m : Int)).length from Array.length_toList, show sizeLine = 16777216 from rfl]; omega) (fun c _ => ?_) ?_
  · simp_arith [↓tx_in]
  · simp_arith [↓allB, ↓ha]
    have hix : oIx (.str (nT (m : Int))) (.int 0) = mV (.str ⟨#[d]⟩) := tx_ix (by omega) hd
    have e2 := tx_intS (nT_val h) (by omega)
    by_cases h0 : d = 48
    · have e0 := hz h0
      subst e0
      have e3 : nT ((0 : Nat) : Int) = Str.ofString "0" := by decide +kernel
      rw [e3] at hix e2 ⊢
      subst h0
      have e4 : (⟨#[48]⟩ : Str) = Str.ofString "0" := by decide +kernel
      rw [e4] at hix
      simp_arith [↓hix, ↓e2, ↓hm]
      exact fun q => absurd q hm
    · have e4 : ¬ (⟨#[d]⟩ : Str) = Str.ofString "0" := fun q => h0 (one_str.mp (q.trans (by decide +kernel)))
      simp_arith [↓hix, ↓e2, ↓hm, ↓e4]
theorem r_numberG {z : Str} {most : Int} (hz : z.length ≤ 16777000) : ∃ w, (∀ Q : RV → Ev → Prop, Ok den_number_in [.dat (.str z), .dat (.int most)] Q ↔ Q (.dat w) [.un, .un]) ∧ (w = .non ∨ ∃ m : Nat, m < 10 ^ 60 ∧ z = nT m ∧ (m : Int) ≤ most ∧ w = .int m) := by
  have hlen : z.cps.toList.length = z.length := Array.length_toList
  by_cases k : 1 ≤ z.length ∧ z.length ≤ 60
  · obtain ⟨k1, k2⟩ := k
    have k1' : (1 : Int) ≤ (z.length : Int) := by omega
    have k2' : (z.length : Int) ≤ 60 := by omega
    cases ha : z.cps.toList.all (fun c => inS ⟨#[c]⟩ "0123456789") with
    | false =>
      refine ⟨.non, fun Q => ok_det ?_, .inl rfl⟩
      simp_arith [↓den_number_in, ↓b_number_in, ↓tx_len, ↓tx_items, ↓tx_in, ↓k1', ↓k2']
      unfold signs
      refine Ok.compB (fun c => .str ⟨#[c]⟩) (fun c => inS ⟨#[c]⟩ "0123456789") (by rw [hlen, show sizeLine = 16777216 from rfl]; omega) (fun c _ => ?_) ?_
      · simp_arith [↓tx_in]
      · simp_arith [↓allB, ↓ha]
    | true =>
      have hd : ∀ c ∈ z.cps.toList, 48 ≤ c ∧ c ≤ 57 := fun c hc => fig_no (List.all_eq_true.mp ha c hc)
      by_cases hb : ∃ c r, z.cps.toList = 48 :: c :: r
      · obtain ⟨c, r, hb⟩ := hb
        refine ⟨.non, fun Q => ok_det ?_, .inl rfl⟩
        simp_arith [↓den_number_in, ↓b_number_in, ↓tx_len, ↓tx_items, ↓tx_in, ↓k1', ↓k2']
        unfold signs
        refine Ok.compB (fun c => .str ⟨#[c]⟩) (fun c => inS ⟨#[c]⟩ "0123456789") (by rw [hlen, show sizeLine = 16777216 from rfl]; omega) (fun c _ => ?_) ?_
        · simp_arith [↓tx_in]
        · simp_arith [↓allB, ↓ha]
          have hix : oIx (.str z) (.int 0) = mV (.str ⟨#[48]⟩) := tx_ix (by omega) (by rw [hb]; exact atI_lit 0 rfl)
          have e4 : (⟨#[48]⟩ : Str) = Str.ofString "0" := by decide +kernel
          rw [e4] at hix
          have e5 : ¬ z = Str.ofString "0" := fun q => by
            rw [q, show (Str.ofString "0").cps.toList = [48] by decide +kernel] at hb
            cases hb
          simp_arith [↓hix, ↓e5]
      · obtain ⟨m, e1, e2⟩ := dig_of z.length z.cps.toList hlen (fun q => by rw [q] at hlen; simp at hlen; omega) hd (fun r hr => by
          cases r with
          | nil => rfl
          | cons c r => exact absurd ⟨c, r, hr⟩ hb)
        have e3 : z = nT m := str_of (by rw [nT_list, e1])
        have e4 : m < 10 ^ 60 := Nat.lt_of_lt_of_le e2 (Nat.pow_le_pow_right (by omega) k2)
        rw [e3]
        by_cases hm : (m : Int) ≤ most
        · exact ⟨.int m, fun Q => r_number_in e4 hm, .inr ⟨m, e4, rfl, hm, rfl⟩⟩
        · exact ⟨.non, fun Q => r_num_over e4 hm, .inl rfl⟩
  · refine ⟨.non, fun Q => ok_det ?_, .inl rfl⟩
    by_cases k1 : (1 : Int) ≤ (z.length : Int)
    · have k2 : ¬ (z.length : Int) ≤ 60 := by omega
      simp_arith [↓den_number_in, ↓b_number_in, ↓tx_len, ↓k1, ↓k2]
    · simp_arith [↓den_number_in, ↓b_number_in, ↓tx_len, ↓k1]
end
end Pu.Q
set_option Elab.async false
set_option linter.all false
set_option maxRecDepth 100000
set_option maxHeartbeats 1000000
namespace Pu.Q
open PySem PySem.Spec PyProof.Rows L2 Pu
section
variable {Q : RV → Ev → Prop} {v : Val} {e : Ev} {P : Val → Ev → Prop}
theorem rs_cm {C : Str} {ms : List Bool} {f mo : M RV} {mr : M (List RV)} (h : Ok mo e fun r e1 => Ok (M.rd r) e1 fun v e2 => v = .glo C ∧ Ok mr e2 fun rs e3 => Rs (runF ms f (.dat (.glo C) :: rs)) e3 P) : Rs (mCM C ms f mo mr) e P := by
  unfold mCM
  refine rs_bindO (Ok.mono h fun r e1 h => ?_)
  refine rs_bindO (Ok.mono h fun v e2 h => ?_)
  obtain ⟨rfl, h⟩ := h
  dsimp only
  rw [if_pos rfl]
  exact rs_bindO h
theorem jn_len : ∀ (ws : List Str), ∀ w ∈ ws, w.length ≤ (Str.join bl1 ws).length
  | [], w, h => by cases h
  | [x], w, h => by
    have := List.mem_singleton.mp h
    subst this
    exact Nat.le_refl _
  | x :: y :: r, w, h => by
    have e := congrArg List.length (jn_cc x y r)
    rw [List.length_append, List.length_cons, show (Str.join bl1 (x :: y :: r)).cps.toList.length = (Str.join bl1 (x :: y :: r)).length from Array.length_toList, show x.cps.toList.length = x.length from Array.length_toList, show (Str.join bl1 (y :: r)).cps.toList.length = (Str.join bl1 (y :: r)).length from Array.length_toList] at e
    rcases List.mem_cons.mp h with rfl | h
    · omega
    · have := jn_len (y :: r) w h
      omega
theorem veq_s3 {a b c x y z : Str} : veq (.lst [.str a, .str b, .str c]) (.lst [.str x, .str y, .str z]) = (decide (a = x) && (decide (b = y) && decide (c = z))) := by
  simp [veq, toP, toPs, PyData.eqv, PyData.eqvAll]
  rw [Bool.eq_iff_iff]
  simp
theorem dOk_s3 {a b c : Str} (h1 : PyData.strOk a = true) (h2 : PyData.strOk b = true) (h3 : PyData.strOk c = true) : dOk (.lst [.str a, .str b, .str c]) = true := by
  simp [dOk, isD, isDs, dep, deps, h1, h2, h3]
theorem jn_mem : ∀ (ws : List Str), ∀ w ∈ ws, ∀ c ∈ w.cps.toList, c ∈ (Str.join bl1 ws).cps.toList
  | [], w, h, c, hc => by cases h
  | [x], w, h, c, hc => by
    have := List.mem_singleton.mp h
    subst this
    exact hc
  | x :: y :: r, w, h, c, hc => by
    rw [jn_cc]
    rcases List.mem_cons.mp h with rfl | h
    · exact List.mem_append.mpr (.inl hc)
    · exact List.mem_append.mpr (.inr (List.mem_cons_of_mem _ (jn_mem (y :: r) w h c hc)))
theorem jn_ok {ws : List Str} (h : PyData.strOk (Str.join bl1 ws) = true) : ∀ w ∈ ws, PyData.strOk w = true := by
  intro w hw
  unfold PyData.strOk at h ⊢
  rw [← Array.all_toList, List.all_eq_true] at h ⊢
  exact fun c hc => h c (jn_mem ws w hw c hc)
theorem seven {α : Type} {xs : List α} (h : xs.length = 7) : ∃ a b c d f g k, xs = [a, b, c, d, f, g, k] := by
  match xs, h with
  | [a, b, c, d, f, g, k], _ => exact ⟨a, b, c, d, f, g, k, rfl⟩
theorem notin_no {t : Str} (h : ¬ inMenu t) : oInG true (.str t) (.tup [.str "next", .str "last", .str "near"]) = mV (.bl true) := by
  have h1 : ¬ t = "next" := fun q => h (.inl q)
  have h2 : ¬ t = "last" := fun q => h (.inr (.inl q))
  have h3 : ¬ t = "near" := fun q => h (.inr (.inr q))
  have e : inF (.str t) [.str "next", .str "last", .str "near"] = false := by
    simp [inF, veq, toP, PyData.eqv, Ne.symm h1, Ne.symm h2, Ne.symm h3]
  show (if flat (.str t) && [Val.str "next", .str "last", .str "near"].all flat then mV (.bl (if true then !inF (.str t) [.str "next", .str "last", .str "near"] else inF (.str t) [.str "next", .str "last", .str "near"])) else M.bad) = _
  rw [if_pos (by rfl), e]
  rfl
theorem none_in {n1 n2 n3 : Val} (h1 : n1 = .non ∨ ∃ m : Nat, n1 = .int m) (h2 : n2 = .non ∨ ∃ m : Nat, n2 = .int m) (h3 : n3 = .non ∨ ∃ m : Nat, n3 = .int m) (h : n1 = .non ∨ n2 = .non ∨ n3 = .non) : oInG false .non (.lst [n1, n2, n3]) = mV (.bl true) := by
  rcases h1 with rfl | ⟨m1, rfl⟩ <;> rcases h2 with rfl | ⟨m2, rfl⟩ <;> rcases h3 with rfl | ⟨m3, rfl⟩ <;> first | rfl | (exfalso; simp at h; done)
theorem read_no (hw : vlB v = true) (hz : ∀ z, v = .str z → z.length ≤ 16777000 ∧ PyData.strOk z = true) : (∃ s l p t, FormOk s l p t ∧ v = .str (fT s l p t)) ∨ Rs den_Rule__read [.dat (.glo "Rule"), .dat v] fun x e' => x = .obj "InvalidText" ["given"] [v] ∧ e' = [.un, .un] := by
  cases hs : isSt v with
  | false =>
    right
    have hi := vl_str hw
    rw [hs] at hi
    refine rs_fn rfl ?_
    unfold b_Rule__read
    refine rs_seqO ?_
    simp_arith [↓hi]
    refine rs_seqR ?_
    refine rs_ifT ?_
    simp_arith
    refine rs_raise1 ?_
    simp_arith
    exact ⟨v, rfl, rfl⟩
  | true =>
    obtain ⟨z, rfl⟩ : ∃ z, v = .str z := by cases v <;> first | exact ⟨_, rfl⟩ | cases hs
    obtain ⟨hz, ho⟩ := hz z rfl
    have hp : (((Str.ofString " ").length == 0) = false ∧ z.length + 2 ≤ sizeLine) := ⟨by decide +kernel, by rw [show sizeLine = 16777216 from rfl]; omega⟩
    have hj : Str.join bl1 (Txt.split z bl1) = z := StrLaws.join_split z bl1
    have hb : spl z (Str.ofString " ") = (Txt.split z bl1).map .str := rfl
    generalize Txt.split z bl1 = ws at hj hb
    have rs_ : ∀ {e : Ev}, Rs (mRaise "InvalidText" ["given"] (mCons (mVar 1) mNil)) (.dat (.glo "Rule") :: .dat (.str z) :: e) fun x e' => x = .obj "InvalidText" ["given"] [.str z] ∧ outE (e'.take 2) = [.un, .un] := by
      intro e
      refine rs_raise1 ?_
      simp_arith
      exact ⟨_, rfl, rfl⟩
    by_cases h7 : ws.length = 7
    · obtain ⟨w0, w1, w2, w3, w4, w5, w6, rfl⟩ := seven h7
      have hl := jn_len [w0, w1, w2, w3, w4, w5, w6]
      rw [hj] at hl
      have ho := jn_ok (hj.symm ▸ ho)
      have hd := dOk_s3 (ho w0 (by simp)) (ho w3 (by simp)) (ho w5 (by simp))
      have hd2 : dOk (.lst [.str (Str.ofString "step"), .str (Str.ofString "limit"), .str (Str.ofString "pause")]) = true := by decide +kernel
      simp only [List.map_cons, List.map_nil] at hb
      by_cases hk : w0 = Str.ofString "step" ∧ w3 = Str.ofString "limit" ∧ w5 = Str.ofString "pause"
      · obtain ⟨rfl, rfl, rfl⟩ := hk
        obtain ⟨n1, q1, c1⟩ := r_numberG (z := w1) (most := 1000000000000) (Nat.le_trans (hl w1 (by simp)) hz)
        obtain ⟨n2, q2, c2⟩ := r_numberG (z := w4) (most := 1000000000000000000) (Nat.le_trans (hl w4 (by simp)) hz)
        obtain ⟨n3, q3, c3⟩ := r_numberG (z := w6) (most := 1000000000000000000) (Nat.le_trans (hl w6 (by simp)) hz)
        have hv : veq (.lst [.str (Str.ofString "step"), .str (Str.ofString "limit"), .str (Str.ofString "pause")]) (.lst [.str (Str.ofString "step"), .str (Str.ofString "limit"), .str (Str.ofString "pause")]) = true := by decide +kernel
        have d1 : n1 = .non ∨ ∃ m : Nat, n1 = .int m := c1.imp id fun ⟨m, _, _, _, h⟩ => ⟨m, h⟩
        have d2 : n2 = .non ∨ ∃ m : Nat, n2 = .int m := c2.imp id fun ⟨m, _, _, _, h⟩ => ⟨m, h⟩
        have d3 : n3 = .non ∨ ∃ m : Nat, n3 = .int m := c3.imp id fun ⟨m, _, _, _, h⟩ => ⟨m, h⟩
        by_cases hn : n1 = .non ∨ n2 = .non ∨ n3 = .non
        · right
          have hi := none_in d1 d2 d3 hn
          refine rs_fn rfl ?_
          unfold b_Rule__read
          refine rs_seqO ?_
          simp_arith [↓i_str, ↓mSplit, ↓if_pos hp, ↓hb]
          refine rs_seqO ?_
          simp_arith [↓hv, ↓hd, ↓hd2, ↓tx_5]
          refine rs_seqO ?_
          simp_arith [↓q1, ↓q2, ↓q3, ↓tx_6]
          refine rs_seqR ?_
          refine rs_ifT ?_
          simp_arith [↓hi]
          exact rs_
        · rcases c1 with h | ⟨m1, a1, rfl, b1, rfl⟩
          · exact absurd (.inl h) hn
          rcases c2 with h | ⟨m2, a2, rfl, b2, rfl⟩
          · exact absurd (.inr (.inl h)) hn
          rcases c3 with h | ⟨m3, a3, rfl, b3, rfl⟩
          · exact absurd (.inr (.inr h)) hn
          have hi : oInG false .non (.lst [.int m1, .int m2, .int m3]) = mV (.bl false) := rfl
          by_cases hok : inMenu w2 ∧ (1 ≤ (m1 : Int) ∧ (m1 : Int) ≤ m2) ∧ 1 ≤ (m3 : Int)
          · obtain ⟨g1, ⟨g2, g3⟩, g4⟩ := hok
            exact .inl ⟨m1, m2, m3, w2, ⟨g2, b1, g3, b2, g4, b3, g1⟩, by rw [← hj]; rfl⟩
          · right
            refine rs_fn rfl ?_
            unfold b_Rule__read
            refine rs_seqO ?_
            simp_arith [↓i_str, ↓mSplit, ↓if_pos hp, ↓hb]
            refine rs_seqO ?_
            simp_arith [↓hv, ↓hd, ↓hd2, ↓tx_5]
            refine rs_seqO ?_
            simp_arith [↓q1, ↓q2, ↓q3, ↓tx_6]
            refine rs_seqR ?_
            refine rs_ifT ?_
            by_cases g1 : inMenu w2
            · by_cases g2 : 1 ≤ (m1 : Int)
              · by_cases g3 : (m1 : Int) ≤ m2
                · have g4 : (m3 : Int) < 1 := by
                    rcases Int.lt_or_le (m3 : Int) 1 with h | h
                    · exact h
                    · exact absurd ⟨g1, ⟨g2, g3⟩, h⟩ hok
                  simp_arith [↓hi, ↓notin g1, ↓g2, ↓g3, ↓g4]
                  exact rs_
                · simp_arith [↓hi, ↓notin g1, ↓g2, ↓g3]
                  exact rs_
              · simp_arith [↓hi, ↓notin g1, ↓g2]
                exact rs_
            · simp_arith [↓hi, ↓notin_no g1]
              exact rs_
      · right
        have hv : veq (.lst [.str w0, .str w3, .str w5]) (.lst [.str (Str.ofString "step"), .str (Str.ofString "limit"), .str (Str.ofString "pause")]) = false := by
          rw [veq_s3]
          cases h0 : decide (w0 = Str.ofString "step") <;> cases h3 : decide (w3 = Str.ofString "limit") <;> cases h5 : decide (w5 = Str.ofString "pause") <;> first | rfl | exact absurd ⟨of_decide_eq_true h0, of_decide_eq_true h3, of_decide_eq_true h5⟩ hk
        refine rs_fn rfl ?_
        unfold b_Rule__read
        refine rs_seqO ?_
        simp_arith [↓i_str, ↓mSplit, ↓if_pos hp, ↓hb]
        refine rs_seqR ?_
        refine rs_ifT ?_
        simp_arith [↓hv, ↓hd, ↓hd2, ↓tx_5]
        exact rs_
    · right
      have h7' : ¬ (((ws.map Val.str).length : Nat) : Int) = 7 := by rw [List.length_map]; omega
      refine rs_fn rfl ?_
      unfold b_Rule__read
      refine rs_seqO ?_
      simp_arith [↓i_str, ↓mSplit, ↓if_pos hp, ↓hb]
      refine rs_seqR ?_
      refine rs_ifT ?_
      simp_arith [↓h7']
      exact rs_
theorem r_readF {s l p : Int} {t : Str} (h : FormOk s l p t) : Ok den_Rule__read [.dat (.glo "Rule"), .dat (.str (fT s l p t))] Q ↔ Q (.tmp (rV s l p t)) [.un, .un] := by
  have hs : (((Str.ofString " ").length == 0) = false ∧ (fT s l p t).length + 2 ≤ sizeLine) := ⟨by decide +kernel, by have := fT_short h; rw [show sizeLine = 16777216 from rfl]; omega⟩
  have hp := split_fT h
  obtain ⟨h1, h2, h3, h4, h5, h6, ht⟩ := h
  have hn : oInG false .non (.lst [.int s, .int l, .int p]) = mV (.bl false) := rfl
  have hv : veq (.lst [.str (Str.ofString "step"), .str (Str.ofString "limit"), .str (Str.ofString "pause")]) (.lst [.str (Str.ofString "step"), .str (Str.ofString "limit"), .str (Str.ofString "pause")]) = true := by decide +kernel
  have hd : dOk (.lst [.str (Str.ofString "step"), .str (Str.ofString "limit"), .str (Str.ofString "pause")]) = true := by decide +kernel
  have h7 : ¬ p < 1 := by omega
  simp_arith [↓den_Rule__read, ↓b_Rule__read, ↓i_str, ↓tx_5, ↓tx_6, ↓mSplit, ↓if_pos hs, ↓hp, ↓r_number (i := s) (by omega) (by omega) h2, ↓r_number (i := l) (by omega) (by omega) h4, ↓r_number (i := p) (by omega) (by omega) h6, ↓hn, ↓notin ht, ↓tx_makeV, ↓r_initF h1 h2 h3 h4 h5 h6 ht, ↓h1, ↓h3, ↓hv, ↓hd, ↓h7]
end
end Pu.Q
set_option Elab.async false
set_option linter.all false
set_option maxRecDepth 100000
set_option maxHeartbeats 1000000
set_option Elab.async false
set_option linter.all false
set_option maxRecDepth 100000
set_option maxHeartbeats 1000000
set_option Elab.async false
set_option linter.all false
set_option maxRecDepth 100000
set_option maxHeartbeats 1000000
set_option Elab.async false
set_option linter.all false
set_option maxRecDepth 100000
set_option maxHeartbeats 1000000
set_option Elab.async false
set_option linter.all false
set_option maxRecDepth 100000
set_option maxHeartbeats 1000000
set_option Elab.async false
set_option linter.all false
set_option maxRecDepth 100000
set_option maxHeartbeats 1000000
namespace Pu.Q
open PySem PySem.Spec PyProof.Rows L2 Pu
section
variable {Q : RV → Ev → Prop} {s l p s2 l2 p2 : Int} {t t2 : Str} {v : Val} {ns : List Note}
def lenK (z : Str) : Int := (lookI [(Str.ofString "fits", 3), (Str.ofString "over", 3), (Str.ofString "none", 3), (Str.ofString "less", 4), (Str.ofString "free", 4)] z).getD 0
end
end Pu.Q
set_option Elab.async false
set_option linter.all false
set_option maxRecDepth 100000
set_option maxHeartbeats 1000000
set_option Elab.async false
set_option linter.all false
set_option maxRecDepth 100000
set_option maxHeartbeats 1000000
set_option Elab.async false
set_option linter.all false
set_option maxRecDepth 100000
set_option maxHeartbeats 1000000
set_option Elab.async false
set_option linter.all false
set_option maxRecDepth 100000
set_option maxHeartbeats 1000000
set_option Elab.async false
set_option linter.all false
set_option maxRecDepth 100000
set_option maxHeartbeats 2000000
namespace Pu.Q
open PySem PySem.Spec PyProof.Rows L2 Pu
section
variable {Q : RV → Ev → Prop} {P : Val}
abbrev tB : Str := Str.ofString "step 30 next limit 120 pause 15"
theorem k3 : lenK (Str.ofString "fits") = 3 ∧ lenK (Str.ofString "over") = 3 ∧ lenK (Str.ofString "none") = 3 := by decide +kernel
theorem k4 : lenK (Str.ofString "less") = 4 ∧ lenK (Str.ofString "free") = 4 := by decide +kernel
end
end Pu.Q
set_option Elab.async false
set_option linter.all false
set_option maxRecDepth 100000
set_option maxHeartbeats 1000000
set_option Elab.async false
set_option linter.all false
set_option maxRecDepth 100000
set_option maxHeartbeats 1000000
set_option Elab.async false
set_option linter.all false
set_option maxRecDepth 100000
set_option maxHeartbeats 1000000
set_option Elab.async false
set_option linter.all false
set_option maxRecDepth 100000
set_option maxHeartbeats 1000000
set_option Elab.async false
set_option linter.all false
set_option maxRecDepth 100000
set_option maxHeartbeats 1000000
set_option Elab.async false
set_option linter.all false
set_option maxRecDepth 100000
set_option maxHeartbeats 1000000
set_option Elab.async false
set_option linter.all false
set_option maxRecDepth 100000
set_option maxHeartbeats 1000000
set_option Elab.async false
set_option linter.all false
set_option maxRecDepth 100000
set_option maxHeartbeats 1000000
set_option Elab.async false
set_option linter.all false
set_option maxRecDepth 100000
set_option maxHeartbeats 1000000
set_option Elab.async false
set_option linter.all false
set_option maxRecDepth 100000
set_option maxHeartbeats 1000000
set_option Elab.async false
set_option linter.all false
set_option maxRecDepth 100000
set_option maxHeartbeats 1000000
set_option Elab.async false
set_option linter.all false
set_option maxRecDepth 100000
set_option maxHeartbeats 1000000
set_option Elab.async false
set_option linter.all false
set_option maxRecDepth 100000
set_option maxHeartbeats 1000000
set_option Elab.async false
set_option linter.all false
set_option maxRecDepth 100000
set_option maxHeartbeats 1000000
namespace Pu.Q
open PySem PySem.Spec PyProof.Rows L2 Pu
variable {s l p day t0 : Int} {t : Str} {ts : List Int}
end Pu.Q
set_option Elab.async false
set_option linter.all false
set_option maxRecDepth 100000
set_option maxHeartbeats 1000000
set_option Elab.async false
set_option linter.all false
set_option maxRecDepth 100000
set_option maxHeartbeats 1000000
set_option Elab.async false
set_option linter.all false
set_option maxRecDepth 100000
set_option maxHeartbeats 1000000
set_option Elab.async false
set_option linter.all false
set_option maxRecDepth 100000
set_option maxHeartbeats 1000000
set_option Elab.async false
set_option linter.all false
set_option maxRecDepth 100000
set_option maxHeartbeats 1000000
set_option Elab.async false
set_option linter.all false
set_option maxRecDepth 100000
set_option maxHeartbeats 1000000
set_option Elab.async false
set_option linter.all false
set_option maxRecDepth 100000
set_option maxHeartbeats 1000000
set_option Elab.async false
set_option linter.all false
set_option maxRecDepth 100000
set_option maxHeartbeats 1000000
set_option Elab.async false
set_option linter.all false
set_option maxRecDepth 100000
set_option maxHeartbeats 1000000
set_option Elab.async false
set_option linter.all false
set_option maxRecDepth 100000
set_option maxHeartbeats 2000000
set_option Elab.async false
set_option linter.all false
set_option maxRecDepth 100000
set_option maxHeartbeats 2000000
set_option Elab.async false
set_option linter.all false
set_option maxRecDepth 100000
set_option maxHeartbeats 2000000
set_option Elab.async false
set_option linter.all false
set_option maxRecDepth 100000
set_option maxHeartbeats 2000000
set_option Elab.async false
set_option linter.all false
set_option maxRecDepth 100000
set_option maxHeartbeats 1000000
namespace Pu.Q
open PySem PySem.Spec PyProof.Rows L2 Pu
abbrev CR := Str × List Note × Bool
end Pu.Q
set_option Elab.async false
set_option linter.all false
set_option maxRecDepth 100000
set_option maxHeartbeats 1000000
set_option Elab.async false
set_option linter.all false
set_option maxRecDepth 100000
set_option maxHeartbeats 1000000
set_option Elab.async false
set_option linter.all false
set_option maxRecDepth 100000
set_option maxHeartbeats 1000000
namespace Pu.Q
open PySem PySem.Spec PyProof.Rows L2 Pu
structure StirB (b c K : Int) : Prop where
  b0 : 0 ≤ b
  b1 : b < 18446744073709551557
  c0 : 0 ≤ c
  c1 : c ≤ K
end Pu.Q
set_option Elab.async false
set_option linter.all false
set_option maxRecDepth 100000
set_option maxHeartbeats 1000000
set_option Elab.async false
set_option linter.all false
set_option maxRecDepth 100000
set_option maxHeartbeats 1000000
set_option Elab.async false
set_option linter.all false
set_option maxRecDepth 100000
set_option maxHeartbeats 1000000
namespace Pu.Q
open PySem PySem.Spec PyProof.Rows L2 Pu
section
variable {Q : RV → Ev → Prop} {s l p : Int} {t : Str} {pre : List (List CR)} {cur nxt : List CR} {c : Str}
def L47 : List Note := [(617, 620, some 630), (760, 762, some 630), (761, 761, some 630), (770, 790, some 780)]
end
end Pu.Q
set_option Elab.async false
set_option linter.all false
set_option maxRecDepth 100000
set_option maxHeartbeats 1000000
set_option Elab.async false
set_option linter.all false
set_option maxRecDepth 100000
set_option maxHeartbeats 2000000
set_option Elab.async false
set_option linter.all false
set_option maxRecDepth 100000
set_option maxHeartbeats 2000000
namespace Pu.Q
open PySem PySem.Spec PyProof.Rows L2 Pu
abbrev L47m (M : Int) (k : Nat) : List Note := laA M (L47.take k)
abbrev r1 (M : Int) : List CR := [(("late" : Str), L47m M 1, false)]
abbrev r2 (M : Int) : List CR := [(("late" : Str), L47m M 2, true)]
abbrev r3 (M : Int) : List CR := [(("late" : Str), L47m M 3, true)]
end Pu.Q
set_option Elab.async false
set_option linter.all false
set_option maxRecDepth 100000
set_option maxHeartbeats 2000000
set_option Elab.async false
set_option linter.all false
set_option maxRecDepth 100000
set_option maxHeartbeats 2000000
namespace Pu.Q
open PySem PySem.Spec PyProof.Rows L2 Pu
section
variable {Q : RV → Ev → Prop} {s l p : Int} {t : Str}
theorem StirB.mono {b c K K' : Int} (S : StirB b c K) (h : K ≤ K') : StirB b c K' := ⟨S.b0, S.b1, S.c0, by have := S.c1; omega⟩
end
end Pu.Q
set_option Elab.async false
set_option linter.all false
set_option maxRecDepth 100000
set_option maxHeartbeats 2000000
set_option Elab.async false
set_option linter.all false
set_option maxRecDepth 100000
set_option maxHeartbeats 2000000
set_option Elab.async false
set_option linter.all false
set_option maxRecDepth 100000
set_option maxHeartbeats 2000000
set_option Elab.async false
set_option linter.all false
set_option maxRecDepth 100000
set_option maxHeartbeats 2000000
set_option Elab.async false
set_option linter.all false
set_option maxRecDepth 100000
set_option maxHeartbeats 2000000
namespace Pu.Q
open PySem PySem.Spec PyProof.Rows L2 Pu
def vkL : List Val := [.non, .bl true, .str "1", .tup [.int 1], .str "near", .str "", .str "Next", .tup [.str "next"], .lst [.str "last"], .str "last ", .str "next", .str "last"]
def Vk (v : Val) : Prop := (∃ i, v = .int i ∧ -5 ≤ i ∧ i ≤ 10000000000000000000) ∨ v ∈ vkL
section
variable {Q : RV → Ev → Prop} {s l p : Int} {t : Str} {v u w a b c d : Val}
theorem vkL_d : vkL.all (fun v => isD v && decide (dep v ≤ 2)) = true := by decide +kernel
theorem Vk.dd (h : Vk v) : isD v = true ∧ dep v ≤ 2 := by
  rcases h with ⟨i, rfl, h1, h2⟩ | h
  · exact ⟨rfl, by show (0 : Nat) ≤ 2; omega⟩
  · have := List.all_eq_true.mp vkL_d v h
    simpa using this
end
end Pu.Q
set_option Elab.async false
set_option linter.all false
set_option maxRecDepth 100000
set_option maxHeartbeats 2000000
set_option Elab.async false
set_option linter.all false
set_option maxRecDepth 100000
set_option maxHeartbeats 2000000
namespace Pu.Q
open PySem PySem.Spec PyProof.Rows L2 Pu
theorem ok_noRs {m : M RV} {e : Ev} {Q : RV → Ev → Prop} : Ok (noRs m) e Q ↔ Ok m e Q := by
  rw [ok_ex, ok_ex]
  unfold noRs
  constructor
  · rintro ⟨a, e', h, q⟩
    cases z : m e with
    | ok r e1 => simp only [z] at h; exact ⟨a, e', by rw [← h], q⟩
    | _ => simp only [z] at h; cases h
  · rintro ⟨a, e', h, q⟩
    exact ⟨a, e', by simp only [h], q⟩
theorem ok_cmpT {ne : Bool} {C : Str} {f ma mb : M RV} {e : Ev} {Q : Bool → Ev → Prop} : Ok (mCmpT ne C f ma mb) e Q ↔ Ok ma e fun r e1 => Ok mb e1 fun s e2 => Ok (M.rd r) e2 fun v e3 => Ok (M.rd s) e3 fun w e4 => match v with
    | .obj C' _ _ => (C' = C ∧ othV C w = true) ∧ Ok (runF [true, false] f [r, s]) e4 fun y e5 => Ok (M.rd y) e5 fun b e6 => match b with
      | .bl b => Q (if ne then !b else b) e6
      | _ => False
    | _ => False := by
  unfold mCmpT
  rw [ok_bind]
  refine Ok.iffQ fun r e1 => ?_
  rw [ok_bind]
  refine Ok.iffQ fun s e2 => ?_
  rw [ok_bind]
  refine Ok.iffQ fun v e3 => ?_
  rw [ok_bind]
  refine Ok.iffQ fun w e4 => ?_
  cases v with
  | obj C' fs vs =>
    by_cases h : C' = C ∧ othV C w = true
    · show Ok (if C' = C ∧ othV C w = true then _ else _) e4 Q ↔ _
      rw [if_pos h]
      unfold blTo
      rw [ok_bind, ok_noRs]
      refine ⟨fun z => ⟨h, Ok.mono z fun y e5 z => ?_⟩, fun z => Ok.mono z.2 fun y e5 z => ?_⟩
      · rw [ok_bind] at z
        refine Ok.mono z fun b e6 z => ?_
        cases b with
        | bl b => exact ok_ret.mp z
        | _ => exact ok_bad.mp z
      · rw [ok_bind]
        refine Ok.mono z fun b e6 z => ?_
        cases b with
        | bl b => exact ok_ret.mpr z
        | _ => exact z.elim
    · show Ok (if C' = C ∧ othV C w = true then _ else _) e4 Q ↔ _
      rw [if_neg h]
      exact ⟨fun z => (ok_bad.mp z).elim, fun z => absurd z.1 h⟩
  | _ => exact ok_bad
section
variable {Q : RV → Ev → Prop} {s l p s2 l2 p2 : Int} {t t2 : Str} {v u w a b c d : Val}
theorem r_rule_eq (hd : dOk (.tup [.int s, .str t, .int l, .int p]) = true) (hd2 : dOk (.tup [.int s2, .str t2, .int l2, .int p2]) = true) : Ok den_Rule____eq__ [.dat (rV s l p t), .dat (rV s2 l2 p2 t2)] Q ↔ Q (.dat (.bl (veq (.tup [.int s, .str t, .int l, .int p]) (.tup [.int s2, .str t2, .int l2, .int p2])))) [.un, .un] := by
  have i1 : fIsi isT [rV s2 l2 p2 t2, .glo "Rule"] = mV (.bl true) := rfl
  unfold rV at *
  simp_arith [↓den_Rule____eq__, ↓b_Rule____eq__, ↓i1, ↓hd, ↓hd2]
end
end Pu.Q
set_option Elab.async false
set_option linter.all false
set_option maxRecDepth 100000
set_option maxHeartbeats 2000000
set_option Elab.async false
set_option linter.all false
set_option maxRecDepth 100000
set_option maxHeartbeats 2000000
set_option Elab.async false
set_option linter.all false
set_option maxRecDepth 100000
set_option maxHeartbeats 2000000
namespace Pu.Q
open PySem PySem.Spec PyProof.Rows L2 Pu
section
variable {Q : RV → Ev → Prop} {s l p s2 l2 p2 : Int} {t t2 : Str} {v u w a b c d : Val}
theorem addS {x y : Str} (h : x.length + y.length ≤ 16777216) : oAdd (.str x) (.str y) = mV (.str (x ++ y)) := if_pos (by rw [sizeLine_eq]; exact h)
end
end Pu.Q
set_option Elab.async false
set_option linter.all false
set_option maxRecDepth 100000
set_option maxHeartbeats 2000000
set_option Elab.async false
set_option linter.all false
set_option maxRecDepth 100000
set_option maxHeartbeats 2000000
namespace Pu.Q
open PySem PySem.Spec PyProof.Rows L2 Pu
def wrV (D : Int) : Int → Nat → List Val → Option Nat
  | _, _, [] => none
  | least, i, v :: r => if i = 12 then some i else match v with
    | .int x => if least ≤ x ∧ x ≤ D - 1 then wrV D (x + 1) (i + 1) r else some i
    | _ => some i
end Pu.Q
set_option Elab.async false
set_option linter.all false
set_option maxRecDepth 100000
set_option maxHeartbeats 2000000
namespace Pu.Q
open PySem PySem.Spec PyProof.Rows L2 Pu
section
variable {D : Int} {ts : List Int} {w : Val}
def wrD (D : Int) (w : Val) : List Val := match w with
  | .tup (x :: r) => (match wrV D 0 0 (x :: r) with
    | some k => [.int k]
    | none => [])
  | _ => [.non]
end
end Pu.Q
set_option Elab.async false
set_option linter.all false
set_option maxRecDepth 100000
set_option maxHeartbeats 2000000
set_option Elab.async false
set_option linter.all false
set_option maxRecDepth 100000
set_option maxHeartbeats 2000000
set_option Elab.async false
set_option linter.all false
set_option maxRecDepth 100000
set_option maxHeartbeats 2000000
namespace Pu.Q
open PySem PySem.Spec PyProof.Rows L2 Pu
def timD (D : Int) (w : Val) : List Val := (wrD D w).map fun v => .lst [.str "times", v]
open Classical in
noncomputable def dues09 (D : Int) (g w : Val) : List Val := if g = .int D then timD D w else [.lst [.str "number", g]]
end Pu.Q
set_option Elab.async false
set_option linter.all false
set_option maxRecDepth 100000
set_option maxHeartbeats 2000000
set_option Elab.async false
set_option linter.all false
set_option maxRecDepth 100000
set_option maxHeartbeats 2000000
set_option Elab.async false
set_option linter.all false
set_option maxRecDepth 100000
set_option maxHeartbeats 1000000
set_option Elab.async false
set_option linter.all false
set_option maxRecDepth 100000
set_option maxHeartbeats 1000000
set_option Elab.async false
set_option linter.all false
set_option maxRecDepth 100000
set_option maxHeartbeats 400000
set_option Elab.async false
set_option linter.all false
set_option maxRecDepth 100000
set_option maxHeartbeats 1000000
set_option Elab.async false
set_option linter.all false
set_option maxRecDepth 100000
set_option maxHeartbeats 8000000
set_option Elab.async false
set_option linter.all false
set_option maxRecDepth 100000
set_option maxHeartbeats 1000000
set_option Elab.async false
set_option linter.all false
set_option maxRecDepth 100000
set_option maxHeartbeats 1000000
set_option Elab.async false
set_option linter.all false
set_option maxRecDepth 100000
set_option maxHeartbeats 1000000
set_option Elab.async false
set_option linter.all false
set_option maxRecDepth 100000
set_option maxHeartbeats 4000000
set_option Elab.async false
set_option linter.all false
set_option maxRecDepth 100000
set_option maxHeartbeats 1000000
set_option Elab.async false
set_option linter.all false
set_option maxRecDepth 100000
set_option maxHeartbeats 1000000
set_option Elab.async false
set_option linter.all false
set_option maxRecDepth 100000
set_option maxHeartbeats 1000000
set_option Elab.async false
set_option linter.all false
set_option maxRecDepth 100000
set_option maxHeartbeats 1000000
set_option Elab.async false
set_option linter.all false
set_option maxRecDepth 100000
set_option maxHeartbeats 1000000
set_option Elab.async false
set_option linter.all false
set_option maxRecDepth 100000
set_option maxHeartbeats 1000000
set_option Elab.async false
set_option linter.all false
set_option maxRecDepth 100000
set_option maxHeartbeats 1000000
set_option Elab.async false
set_option linter.all false
set_option maxRecDepth 100000
set_option maxHeartbeats 1000000
set_option Elab.async false
set_option linter.all false
set_option maxRecDepth 100000
set_option maxHeartbeats 1000000
set_option Elab.async false
set_option linter.all false
set_option maxRecDepth 100000
set_option maxHeartbeats 1000000
set_option Elab.async false
set_option linter.all false
set_option maxRecDepth 100000
set_option maxHeartbeats 1000000
set_option Elab.async false
set_option linter.all false
set_option maxRecDepth 100000
set_option maxHeartbeats 2000000
set_option Elab.async false
set_option linter.all false
set_option maxRecDepth 100000
set_option maxHeartbeats 2000000
set_option Elab.async false
set_option linter.all false
set_option maxRecDepth 100000
set_option maxHeartbeats 2000000
set_option Elab.async false
set_option linter.all false
set_option maxRecDepth 100000
set_option maxHeartbeats 2000000
set_option Elab.async false
set_option linter.all false
set_option maxRecDepth 100000
set_option maxHeartbeats 1000000
set_option Elab.async false
set_option linter.all false
set_option maxRecDepth 100000
set_option maxHeartbeats 1000000
set_option Elab.async false
set_option linter.all false
set_option maxRecDepth 100000
set_option maxHeartbeats 2000000
set_option Elab.async false
set_option linter.all false
set_option maxRecDepth 100000
set_option maxHeartbeats 2000000
set_option Elab.async false
set_option linter.all false
set_option maxRecDepth 100000
set_option maxHeartbeats 2000000
set_option Elab.async false
set_option linter.all false
set_option maxRecDepth 100000
set_option maxHeartbeats 2000000
set_option Elab.async false
set_option linter.all false
set_option maxRecDepth 100000
set_option maxHeartbeats 2000000
set_option Elab.async false
set_option linter.all false
set_option maxRecDepth 100000
set_option maxHeartbeats 1000000
set_option Elab.async false
set_option linter.all false
set_option maxRecDepth 100000
set_option maxHeartbeats 1000000
set_option Elab.async false
set_option linter.all false
set_option maxRecDepth 100000
set_option maxHeartbeats 1000000
set_option Elab.async false
set_option linter.all false
set_option maxRecDepth 100000
set_option maxHeartbeats 1000000
set_option Elab.async false
set_option linter.all false
set_option maxRecDepth 100000
set_option maxHeartbeats 1000000
set_option Elab.async false
set_option linter.all false
set_option maxRecDepth 100000
set_option maxHeartbeats 1000000
set_option Elab.async false
set_option linter.all false
set_option maxRecDepth 100000
set_option maxHeartbeats 1000000
set_option Elab.async false
set_option linter.all false
set_option maxRecDepth 100000
set_option maxHeartbeats 0
set_option Elab.async false
set_option linter.all false
set_option maxRecDepth 100000
set_option maxHeartbeats 1000000
namespace Pu.Q
open PySem PySem.Spec PyProof.Rows L2 Pu
def Tz (n : Nat) (z : Str) : Prop := PyData.strOk z = true ∧ z.length ≤ n
theorem sok_iff {z : Str} : PyData.strOk z = true ↔ ∀ c ∈ z.cps.toList, c < 0x110000 := by
  unfold PyData.strOk
  rw [← Array.all_toList, List.all_eq_true]
  exact ⟨fun h c hc => of_decide_eq_true (h c hc), fun h c hc => decide_eq_true (h c hc)⟩
theorem Tz.mono {n m : Nat} {z : Str} (h : Tz n z) (l : n ≤ m) : Tz m z := ⟨h.1, Nat.le_trans h.2 l⟩
theorem tz_cut {n : Nat} {z : Str} (h : Tz n z) (lo hi : Option Int) : Tz n (cutS z lo hi) := by
  have hl : z.cps.toList.length = z.length := Array.length_toList
  refine ⟨sok_iff.mpr fun c hc => ?_, ?_⟩
  · unfold cutS at hc
    have hc' : c ∈ (z.cps.toList.drop (HT.sIx z.length 0 lo)).take (HT.sIx z.length z.length hi - HT.sIx z.length 0 lo) := by simpa using hc
    exact sok_iff.mp h.1 c (List.mem_of_mem_drop (List.mem_of_mem_take hc'))
  · have e : (cutS z lo hi).length = ((z.cps.toList.drop (HT.sIx z.length 0 lo)).take (HT.sIx z.length z.length hi - HT.sIx z.length 0 lo)).length := by
      unfold cutS
      show (List.toArray _).size = _
      rw [List.size_toArray]
    rw [e]
    have h2 := h.2
    rw [List.length_take, List.length_drop]
    omega
theorem tz_app {x y : Str} {a b : Nat} (h1 : Tz a x) (h2 : Tz b y) : Tz (a + b) (x ++ y) := by
  have e : (x ++ y).cps.toList = x.cps.toList ++ y.cps.toList := by
    show (x.cps ++ y.cps).toList = _
    rw [Array.toList_append]
  refine ⟨sok_iff.mpr fun c hc => ?_, ?_⟩
  · rw [e] at hc
    rcases List.mem_append.mp hc with hc | hc
    · exact sok_iff.mp h1.1 c hc
    · exact sok_iff.mp h2.1 c hc
  · rw [str_len]
    have := h1.2
    have := h2.2
    omega
theorem tz_join {n : Nat} : ∀ {ws : List Str}, (∀ w ∈ ws, Tz n w) → Tz (ws.length * (n + 1)) (Str.join bl1 ws)
  | [], _ => ⟨by decide +kernel, Nat.zero_le _⟩
  | [x], h => by
    have := h x (List.mem_singleton.mpr rfl)
    exact this.mono (by simp)
  | x :: y :: r, h => by
    have h1 := h x List.mem_cons_self
    have h2 := tz_join (ws := y :: r) fun w hw => h w (List.mem_cons_of_mem _ hw)
    have hb : Tz 1 bl1 := ⟨by decide +kernel, by decide +kernel⟩
    have := tz_app (tz_app h1 hb) h2
    refine Tz.mono (show Tz _ (x ++ bl1 ++ Str.join bl1 (y :: r)) from this) ?_
    simp only [List.length_cons]
    rw [show (r.length + 1 + 1) * (n + 1) = (n + 1) + (r.length + 1) * (n + 1) by rw [Nat.add_mul (r.length + 1) 1]; omega]
    exact Nat.le_refl _
theorem strs_map : ∀ (ws : List Str), strs? (ws.map .str) = some ws
  | [] => rfl
  | x :: r => by
    show strs? (.str x :: r.map .str) = _
    unfold strs?
    rw [strs_map r]
theorem cutA_mapS {ws : List Str} {lo hi : Option Int} : cutA (ws.map Val.str) lo hi = (cutA ws lo hi).map .str := by
  unfold cutA
  rw [List.length_map, List.map_take, List.map_drop]
theorem cutA_mem {ws : List Str} {lo hi : Option Int} : (∀ w ∈ cutA ws lo hi, w ∈ ws) ∧ (cutA ws lo hi).length ≤ ws.length := by
  unfold cutA
  refine ⟨fun w hw => List.mem_of_mem_drop (List.mem_of_mem_take hw), ?_⟩
  rw [List.length_take, List.length_drop]
  omega
theorem sum_le {n : Nat} : ∀ {ws : List Str}, (∀ w ∈ ws, w.length ≤ n) → (ws.map (·.length)).sum ≤ ws.length * n
  | [], _ => Nat.zero_le _
  | x :: r, h => by
    have h1 := h x List.mem_cons_self
    have h2 := sum_le (ws := r) fun w hw => h w (List.mem_cons_of_mem _ hw)
    rw [List.map_cons, List.sum_cons, List.length_cons, Nat.add_mul]
    omega
theorem ok_slS {z : Str} {lo hi : Option Int} {e : Ev} {Q : RV → Ev → Prop} (h : z.length ≤ 16777216) : Ok (slV (.str z) lo hi) e Q ↔ Q (.dat (.str (cutS z lo hi))) e := by
  show Ok (if z.length ≤ sizeLine then M.ret (.dat (.str (cutS z lo hi))) else M.bad) e Q ↔ _
  rw [if_pos (by rw [sizeLine_eq]; exact h)]
  exact ok_ret
end Pu.Q
set_option Elab.async false
set_option linter.all false
set_option maxRecDepth 100000
set_option maxHeartbeats 2000000
namespace Pu.Q
open PySem PySem.Spec PyProof.Rows L2 Pu
section
variable {Q : RV → Ev → Prop} {s l p : Int} {t : Str}
theorem tz_nT {m : Int} (h0 : 0 ≤ m) (h : m ≤ 1000000000000000000) : Tz 60 (nT m) := by
  obtain ⟨k, rfl⟩ : ∃ k : Nat, m = (k : Int) := ⟨m.toNat, by omega⟩
  refine ⟨sok_iff.mpr fun c hc => by have := (nT_dig k c hc).2; omega, nT_short ?_⟩
  have : k ≤ 1000000000000000000 := by omega
  exact Nat.lt_of_le_of_lt this (by decide)
theorem tz_menu (h : inMenu t) : Tz 60 t := by
  rcases h with rfl | rfl | rfl <;> exact ⟨by decide +kernel, by decide +kernel⟩
theorem tz_wT (h : FormOk s l p t) : ∀ w ∈ wT s l p t, Tz 60 w := by
  intro w hw
  have h1 := h.s1; have h2 := h.s2; have h3 := h.l1; have h4 := h.l2; have h5 := h.p1; have h6 := h.p2
  unfold wT at hw
  simp only [List.mem_cons, List.not_mem_nil, or_false] at hw
  rcases hw with rfl | rfl | rfl | rfl | rfl | rfl | rfl
  · exact ⟨by decide +kernel, by decide +kernel⟩
  · exact tz_nT (by omega) (by omega)
  · exact tz_menu h.t1
  · exact ⟨by decide +kernel, by decide +kernel⟩
  · exact tz_nT (by omega) (by omega)
  · exact ⟨by decide +kernel, by decide +kernel⟩
  · exact tz_nT (by omega) (by omega)
theorem tz_fT (h : FormOk s l p t) : Tz 427 (fT s l p t) := by
  have := tz_join (tz_wT h)
  exact this
end
end Pu.Q
set_option Elab.async false
set_option linter.all false
set_option maxRecDepth 100000
set_option maxHeartbeats 1000000
namespace Pu.Q
open PySem PySem.Spec PyProof.Rows L2 Pu
section
variable {Q : RV → Ev → Prop} {s l p : Int} {t : Str}
theorem r_stepO : Ok den_Rule__step [.own (rV s l p t)] Q ↔ Q (.dat (.int s)) [.own (rV s l p t)] := by
  refine ok_det ?_
  unfold rV
  simp_arith [↓den_Rule__step, ↓b_Rule__step]
theorem r_settingO : Ok den_Rule__setting [.own (rV s l p t)] Q ↔ Q (.dat (.str t)) [.own (rV s l p t)] := by
  refine ok_det ?_
  unfold rV
  simp_arith [↓den_Rule__setting, ↓b_Rule__setting]
theorem r_pauseO : Ok den_Rule__pause [.own (rV s l p t)] Q ↔ Q (.dat (.int p)) [.own (rV s l p t)] := by
  refine ok_det ?_
  unfold rV
  simp_arith [↓den_Rule__pause, ↓b_Rule__pause]
end
end Pu.Q
set_option Elab.async false
set_option linter.all false
set_option maxRecDepth 100000
set_option maxHeartbeats 1000000
set_option Elab.async false
set_option linter.all false
set_option maxRecDepth 100000
set_option maxHeartbeats 1000000
set_option Elab.async false
set_option linter.all false
set_option maxRecDepth 100000
set_option maxHeartbeats 1000000
namespace Pu.Q
open PySem PySem.Spec PyProof.Rows L2 Pu
section
variable {Q : RV → Ev → Prop} {s l p : Int} {t : Str}
set_option maxHeartbeats 0 in
end
end Pu.Q
set_option Elab.async false
set_option linter.all false
set_option maxRecDepth 100000
set_option maxHeartbeats 1000000
set_option Elab.async false
set_option linter.all false
set_option maxRecDepth 100000
set_option maxHeartbeats 1000000
set_option Elab.async false
set_option linter.all false
set_option maxRecDepth 100000
set_option maxHeartbeats 1000000
set_option Elab.async false
set_option linter.all false
set_option maxRecDepth 100000
set_option maxHeartbeats 1000000
set_option Elab.async false
set_option linter.all false
set_option maxRecDepth 100000
set_option maxHeartbeats 1000000
set_option Elab.async false
set_option linter.all false
set_option maxRecDepth 100000
set_option maxHeartbeats 1000000
set_option Elab.async false
set_option linter.all false
set_option maxRecDepth 100000
set_option maxHeartbeats 1000000
set_option Elab.async false
set_option linter.all false
set_option maxRecDepth 100000
set_option maxHeartbeats 1000000
set_option Elab.async false
set_option linter.all false
set_option maxRecDepth 100000
set_option maxHeartbeats 1000000
set_option Elab.async false
set_option linter.all false
set_option maxRecDepth 100000
set_option maxHeartbeats 1000000
set_option Elab.async false
set_option linter.all false
set_option maxRecDepth 100000
set_option maxHeartbeats 1000000
set_option Elab.async false
set_option linter.all false
set_option maxRecDepth 100000
set_option maxHeartbeats 1000000
set_option Elab.async false
set_option linter.all false
set_option maxRecDepth 100000
set_option maxHeartbeats 1000000
set_option Elab.async false
set_option linter.all false
set_option maxRecDepth 100000
set_option maxHeartbeats 1000000
set_option Elab.async false
set_option linter.all false
set_option maxRecDepth 100000
set_option maxHeartbeats 1000000
namespace Pu.Q
open PySem PySem.Spec PyProof.Rows L2 Pu
section
variable {s l p : Int} {t : Str}
section
variable {a b c K : Int} {u y : Val} {s2 l2 p2 : Int} {t2 : Str} {s1 s3 s4 s5 s6 s7 s8 s9 s10 s11 s12 s13 s14 s15 : Slot} {P : Out → Ev → Prop}
abbrev Or (x : Slot) (v : Val) : Prop := x = .own v ∨ x = .dat v
end
end
end Pu.Q
set_option Elab.async false
set_option linter.all false
set_option maxRecDepth 100000
set_option maxHeartbeats 1000000
set_option Elab.async false
set_option linter.all false
set_option maxRecDepth 100000
set_option maxHeartbeats 1000000
set_option Elab.async false
set_option linter.all false
set_option maxRecDepth 100000
set_option maxHeartbeats 1000000
set_option Elab.async false
set_option linter.all false
set_option maxRecDepth 100000
set_option maxHeartbeats 1000000
set_option Elab.async false
set_option linter.all false
set_option maxRecDepth 100000
set_option maxHeartbeats 1000000
set_option Elab.async false
set_option linter.all false
set_option maxRecDepth 100000
set_option maxHeartbeats 1000000
set_option Elab.async false
set_option linter.all false
set_option maxRecDepth 100000
set_option maxHeartbeats 1000000
set_option Elab.async false
set_option linter.all false
set_option maxRecDepth 100000
set_option maxHeartbeats 1000000
set_option Elab.async false
set_option linter.all false
set_option maxRecDepth 100000
set_option maxHeartbeats 1000000
set_option Elab.async false
set_option linter.all false
set_option maxRecDepth 100000
set_option maxHeartbeats 1000000
namespace Pu.Q
open PySem PySem.Spec PyProof.Rows L2 Pu
section
variable {s p : Int} {t : Str} {ns : List Note} {ap ap' : List Int} {k i : Nat}
def valO (s p : Int) (t : Str) (ms : List Note) (cuts : List Int) : Int := lastO ms ((ways s p t ms cuts).getD [])
def BestT (s p : Int) (t : Str) (ms : List Note) (F : List Row) (X : Row → Prop) : Prop := ∀ x, X x → (ways s p t ms x.2).isSome = true → ∃ B, getR F x.1 = some B ∧ valO s p t ms B ≤ valO s p t ms x.2
theorem BestT.weak {ms : List Note} {F : List Row} {X Y : Row → Prop} (h : BestT s p t ms F X) (hy : ∀ x, Y x → X x) : BestT s p t ms F Y := fun x hx => h x (hy x hx)
end
end Pu.Q
set_option Elab.async false
set_option linter.all false
set_option maxRecDepth 100000
set_option maxHeartbeats 1000000
set_option Elab.async false
set_option linter.all false
set_option maxRecDepth 100000
set_option maxHeartbeats 4000000
set_option Elab.async false
set_option linter.all false
set_option maxRecDepth 100000
set_option maxHeartbeats 4000000
set_option Elab.async false
set_option linter.all false
set_option maxRecDepth 1000000
set_option maxHeartbeats 8000000
set_option Elab.async false
set_option linter.all false
set_option maxRecDepth 100000
set_option maxHeartbeats 1000000
set_option Elab.async false
set_option linter.all false
set_option maxRecDepth 100000
set_option maxHeartbeats 1000000
namespace Pu.Q
open PySem PySem.Spec PyProof.Rows L2 Pu
section
variable {Q : RV → Ev → Prop} {v : Val} {e : Ev} {s l p : Int} {t : Str}
theorem tx_notin {a b : Str} : oNotInS (.str a) (.str b) = mV (.bl (!inS a b)) := rfl
theorem nT_30 {m : Nat} (h : m < 10 ^ 30) : (nT (m : Int)).length ≤ 30 := by
  rw [nT_len]
  exact toDigits_len_pow (by decide) (by decide) h
theorem chars_d {cs : List Nat} (h : ∀ c ∈ cs, c < 0x110000) : isDs (cs.map fun c => Val.str ⟨#[c]⟩) = true ∧ deps (cs.map fun c => Val.str ⟨#[c]⟩) ≤ 1 := by
  induction cs with
  | nil => exact ⟨rfl, by simp [deps]⟩
  | cons c r ih =>
    have i := ih fun z hz => h z (List.mem_cons_of_mem _ hz)
    have hx : PyData.strOk ⟨#[c]⟩ = true := sok_iff.mpr fun d hd => by
      have : d = c := by simpa using hd
      rw [this]; exact h c List.mem_cons_self
    exact ⟨by simp [isDs, isD, hx, i.1], by have := i.2; simp only [List.map_cons, deps, dep]; omega⟩
theorem chars_ne {cs : List Nat} (h : ∀ c ∈ cs, c < 0x110000) : Ok (oNe (.lst (cs.map fun c => Val.str ⟨#[c]⟩)) (.lst [])) e Q ↔ Q (.dat (.bl (decide (cs ≠ [])))) e := by
  have i := chars_d h
  generalize hL : cs.map (fun c => Val.str ⟨#[c]⟩) = L at i ⊢
  have d1 : dOk (.lst L) = true := by
    have := i.2
    simp [dOk, isD, dep, i.1]
    omega
  have e1 : (!veq (.lst L) (.lst [])) = decide (cs ≠ []) := by
    cases cs with
    | nil => cases hL; rfl
    | cons a f => cases hL; simp [veq, toP, toPs, PyData.eqv, PyData.eqvAll]
  show Ok (if dOk (.lst L) && dOk (.lst []) then mV (.bl (!veq (.lst L) (.lst []))) else M.bad) e Q ↔ _
  rw [if_pos (by rw [d1]; rfl), e1]
  exact ok_mV
theorem chars_t {cs : List Nat} (h : ∀ c ∈ cs, c < 0x110000) (hn : cs ≠ []) : Ok (oNe (.lst (cs.map fun c => Val.str ⟨#[c]⟩)) (.lst [])) e Q ↔ Q (.dat (.bl true)) e := by
  rw [chars_ne h, decide_eq_true hn]
theorem n_d : dOk (.lst []) = true := by decide +kernel
theorem n_v : veq (.lst []) (.lst []) = true := by decide +kernel
theorem isSt_s {z : Str} : isSt (.str z) = true := rfl
theorem r_figure {z : Str} (hz : z.length ≤ 16777000) (ho : PyData.strOk z = true) : ∃ n : Int, (∀ Q : RV → Ev → Prop, Ok den__law_figure [.dat (.str z)] Q ↔ Q (.dat (.int n)) [.un]) ∧ ((n = -1 ∧ ∀ m : Nat, m < 10 ^ 30 → z ≠ nT m) ∨ ∃ m : Nat, m < 10 ^ 30 ∧ z = nT m ∧ n = m) := by
  have hlen : z.cps.toList.length = z.length := Array.length_toList
  by_cases k0 : z = Str.ofString ""
  · refine ⟨-1, fun Q => ok_det ?_, .inl ⟨rfl, fun m hm q => ?_⟩⟩
    · simp_arith [↓den__law_figure, ↓b__law_figure, ↓k0]
    · have := nT_pos m
      rw [← q, k0] at this
      exact absurd this (by decide +kernel)
  · by_cases k30 : (z.length : Int) > 30
    · refine ⟨-1, fun Q => ok_det ?_, .inl ⟨rfl, fun m hm q => ?_⟩⟩
      · simp_arith [↓den__law_figure, ↓b__law_figure, ↓k0, ↓tx_len, ↓k30]
      · have := nT_30 hm
        rw [← q] at this
        omega
    · have k30' : ¬ (30 : Int) < (z.length : Int) := k30
      cases ha : z.cps.toList.all (fun c => inS ⟨#[c]⟩ "0123456789") with
      | false =>
        refine ⟨-1, fun Q => ok_det ?_, .inl ⟨rfl, fun m hm q => ?_⟩⟩
        · simp_arith [↓den__law_figure, ↓b__law_figure, ↓k0, ↓tx_len, ↓k30', ↓tx_items]
          unfold signs
          refine Ok.mono (Ok.compM (fun c => Val.str ⟨#[c]⟩) (fun c => !inS ⟨#[c]⟩ "0123456789") (fun c => Val.str ⟨#[c]⟩) (acc := []) (by rw [hlen, show sizeLine = 16777216 from rfl]; simp; omega) (fun c _ => ?_)) ?_
          · simp_arith [↓tx_notin]
          · rintro _ _ ⟨rfl, rfl⟩
            rw [List.nil_append]
            have ne : z.cps.toList.filter (fun c => !inS ⟨#[c]⟩ "0123456789") ≠ [] := fun q => by
              have := List.filter_eq_nil_iff.mp q
              rw [Bool.eq_false_iff] at ha
              exact ha (List.all_eq_true.mpr fun c hc => by simpa using this c hc)
            have ct := fun (e : Ev) (Q : RV → Ev → Prop) => chars_t (e := e) (Q := Q) (fun c hc => sok_iff.mp ho c (List.mem_filter.mp hc).1) ne
            simp_arith [↓ct]
        · subst q
          have : (nT (m : Int)).cps.toList.all (fun c => inS ⟨#[c]⟩ "0123456789") = true := List.all_eq_true.mpr fun c hc => fig_in c (nT_dig m c hc)
          rw [this] at ha
          cases ha
      | true =>
        have hd : ∀ c ∈ z.cps.toList, 48 ≤ c ∧ c ≤ 57 := fun c hc => fig_no (List.all_eq_true.mp ha c hc)
        have nil : z.cps.toList.filter (fun c => !inS ⟨#[c]⟩ "0123456789") = [] := List.filter_eq_nil_iff.mpr fun c hc => by
          rw [List.all_eq_true.mp ha c hc]; simp
        have zp : z.cps.toList ≠ [] := fun q => k0 (str_of (by rw [q]; decide +kernel))
        by_cases hb : ∃ c r, z.cps.toList = 48 :: c :: r
        · obtain ⟨c, r, hb⟩ := hb
          refine ⟨-1, fun Q => ok_det ?_, .inl ⟨rfl, fun m hm q => ?_⟩⟩
          · simp_arith [↓den__law_figure, ↓b__law_figure, ↓k0, ↓tx_len, ↓k30', ↓tx_items]
            unfold signs
            refine Ok.mono (Ok.compM (fun c => Val.str ⟨#[c]⟩) (fun c => !inS ⟨#[c]⟩ "0123456789") (fun c => Val.str ⟨#[c]⟩) (acc := []) (by rw [hlen, show sizeLine = 16777216 from rfl]; simp; omega) (fun c _ => ?_)) ?_
            · simp_arith [↓tx_notin]
            · rintro _ _ ⟨rfl, rfl⟩
              rw [nil, List.map_nil]
              have hix : oIx (.str z) (.int 0) = mV (.str ⟨#[48]⟩) := tx_ix (by omega) (by rw [hb]; exact atI_lit 0 rfl)
              have e4 : (⟨#[48]⟩ : Str) = Str.ofString "0" := by decide +kernel
              rw [e4] at hix
              have e5 : ¬ z = Str.ofString "0" := fun q => by
                rw [q, show (Str.ofString "0").cps.toList = [48] by decide +kernel] at hb
                cases hb
              simp_arith [↓hix, ↓e5, ↓n_d, ↓n_v]
          · subst q
            have n0 : 0 < m := by
              rcases Nat.eq_zero_or_pos m with rfl | h
              · rw [show (nT ((0 : Nat) : Int)).cps.toList = [48] by decide +kernel] at hb
                cases hb
              · exact h
            obtain ⟨d, r', e1, e2⟩ := dig_head m n0
            rw [nT_list, e1] at hb
            cases hb
            exact e2 rfl
        · obtain ⟨m, e1, e2⟩ := dig_of z.length z.cps.toList hlen zp hd (fun r hr => by
            cases r with
            | nil => rfl
            | cons c r => exact absurd ⟨c, r, hr⟩ hb)
          have e3 : z = nT m := str_of (by rw [nT_list, e1])
          have e4 : m < 10 ^ 30 := Nat.lt_of_lt_of_le e2 (Nat.pow_le_pow_right (by omega) (by omega))
          have e60 : m < 10 ^ 60 := Nat.lt_of_lt_of_le e4 (Nat.pow_le_pow_right (by omega) (by omega))
          refine ⟨m, fun Q => ok_det ?_, .inr ⟨m, e4, e3, rfl⟩⟩
          have ei := tx_intS (nT_val e60) (by have := nT_short e60; omega)
          obtain ⟨d, hd, hz0⟩ := fst_of m
          rw [← e3] at ei hd
          simp_arith [↓den__law_figure, ↓b__law_figure, ↓k0, ↓tx_len, ↓k30', ↓tx_items]
          unfold signs
          refine Ok.mono (Ok.compM (fun c => Val.str ⟨#[c]⟩) (fun c => !inS ⟨#[c]⟩ "0123456789") (fun c => Val.str ⟨#[c]⟩) (acc := []) (by rw [hlen, show sizeLine = 16777216 from rfl]; simp; omega) (fun c _ => ?_)) ?_
          · simp_arith [↓tx_notin]
          · rintro _ _ ⟨rfl, rfl⟩
            rw [nil, List.map_nil]
            by_cases h0 : z = Str.ofString "0"
            · rw [h0] at ei
              simp_arith [↓h0, ↓ei, ↓n_d, ↓n_v]
            · have hix : oIx (.str z) (.int 0) = mV (.str ⟨#[d]⟩) := tx_ix (by omega) hd
              have e6 : ¬ (⟨#[d]⟩ : Str) = Str.ofString "0" := fun q => h0 (by
                have := one_str.mp (q.trans (show Str.ofString "0" = ⟨#[48]⟩ by decide +kernel))
                have m0 := hz0 this
                rw [e3, m0]
                decide +kernel)
              simp_arith [↓hix, ↓h0, ↓e6, ↓ei, ↓n_d, ↓n_v]
theorem nT_inj {m k : Nat} (h1 : m < 10 ^ 60) (h2 : k < 10 ^ 60) (h : nT (m : Int) = nT (k : Int)) : m = k := by
  have a := nT_val h1
  have b := nT_val h2
  rw [h, b] at a
  have := Option.some.inj a
  omega
theorem fig_val {z : Str} {n i : Int} (h : (n = -1 ∧ ∀ m : Nat, m < 10 ^ 30 → z ≠ nT m) ∨ ∃ m : Nat, m < 10 ^ 30 ∧ z = nT m ∧ n = m) (hz : z = nT i) (h0 : 0 ≤ i) (h1 : i ≤ 1000000000000000000) : n = i := by
  obtain ⟨k, rfl⟩ : ∃ k : Nat, i = (k : Int) := ⟨i.toNat, by omega⟩
  have hk : k < 10 ^ 30 := by
    have : k ≤ 1000000000000000000 := by omega
    exact Nat.lt_of_le_of_lt this (by decide)
  rcases h with ⟨_, h⟩ | ⟨m, hm, e1, e2⟩
  · exact absurd hz (h k hk)
  · have h60 : (10 : Nat) ^ 30 ≤ 10 ^ 60 := Nat.pow_le_pow_right (by omega) (by omega)
    have := nT_inj (Nat.lt_of_lt_of_le hm h60) (Nat.lt_of_lt_of_le hk h60) (e1.symm.trans hz)
    omega
theorem notinL {t : Str} (h : inMenu t) : oInG true (.str t) (.lst [.str "next", .str "last", .str "near"]) = mV (.bl false) := by
  rcases h with rfl | rfl | rfl <;> rfl
theorem notinL_no {t : Str} (h : ¬ inMenu t) : oInG true (.str t) (.lst [.str "next", .str "last", .str "near"]) = mV (.bl true) := by
  have h1 : ¬ t = "next" := fun q => h (.inl q)
  have h2 : ¬ t = "last" := fun q => h (.inr (.inl q))
  have h3 : ¬ t = "near" := fun q => h (.inr (.inr q))
  have e : inF (.str t) [.str "next", .str "last", .str "near"] = false := by
    simp [inF, veq, toP, PyData.eqv, Ne.symm h1, Ne.symm h2, Ne.symm h3]
  show (if flat (.str t) && [Val.str "next", .str "last", .str "near"].all flat then mV (.bl (if true then !inF (.str t) [.str "next", .str "last", .str "near"] else inF (.str t) [.str "next", .str "last", .str "near"])) else M.bad) = _
  rw [if_pos (by rfl), e]
  rfl
def NoTx (v : Val) : Prop := ∀ s l p t, FormOk s l p t → v ≠ .str (fT s l p t)
theorem map_strs : ∀ {xs ys : List Str}, xs.map Val.str = ys.map Val.str → xs = ys
  | [], [], _ => rfl
  | [], _ :: _, h => by cases h
  | _ :: _, [], h => by cases h
  | x :: xs, y :: ys, h => by
    rw [List.map_cons, List.map_cons, List.cons.injEq] at h
    rw [map_strs h.2, Val.str.inj h.1]
theorem r_law_read (hw : vlB v = true) (hz : ∀ z, v = .str z → z.length ≤ 16777000 ∧ PyData.strOk z = true) :
    (∃ s l p t, FormOk s l p t ∧ v = .str (fT s l p t) ∧ ∀ Q : RV → Ev → Prop, Ok den__law_read [.dat v] Q ↔ Q (.tmp (.lst [.int s, .str t, .int l, .int p])) [.un]) ∨ (NoTx v ∧ ∀ Q : RV → Ev → Prop, Ok den__law_read [.dat v] Q ↔ Q (.tmp (.lst [])) [.un]) := by
  cases hs : isSt v with
  | false =>
    have hi := vl_str hw
    rw [hs] at hi
    have hn : NoTx v := fun s l p t F q => by
      rw [q, isSt_s] at hs
      exact Bool.noConfusion hs
    refine Or.inr ⟨hn, ?_⟩
    intro Q
    refine ok_det ?_
    simp_arith [↓den__law_read, ↓b__law_read, ↓hi]
  | true =>
    obtain ⟨z, rfl⟩ : ∃ z, v = .str z := by cases v <;> first | exact ⟨_, rfl⟩ | cases hs
    obtain ⟨hz, ho⟩ := hz z rfl
    have hp : (((Str.ofString " ").length == 0) = false ∧ z.length + 2 ≤ sizeLine) := ⟨by decide +kernel, by rw [show sizeLine = 16777216 from rfl]; omega⟩
    have hj : Str.join bl1 (Txt.split z bl1) = z := StrLaws.join_split z bl1
    have hb : spl z (Str.ofString " ") = (Txt.split z bl1).map .str := rfl
    generalize Txt.split z bl1 = ws at hj hb
    have inv : ∀ s l p t, FormOk s l p t → Val.str z = .str (fT s l p t) → ws = wT s l p t := fun s l p t F q => by
      have e1 := split_fT F
      have q' : z = fT s l p t := Val.str.inj q
      have e2 : spl z (Str.ofString " ") = (wT s l p t).map .str := by rw [q']; exact e1
      exact map_strs (hb.symm.trans e2)
    by_cases h7 : ws.length = 7
    · obtain ⟨w0, w1, w2, w3, w4, w5, w6, rfl⟩ := seven h7
      have hl := jn_len [w0, w1, w2, w3, w4, w5, w6]
      rw [hj] at hl
      have ho := jn_ok (hj.symm ▸ ho)
      have hd := dOk_s3 (ho w0 (by simp)) (ho w3 (by simp)) (ho w5 (by simp))
      have hd2 : dOk (.lst [.str (Str.ofString "step"), .str (Str.ofString "limit"), .str (Str.ofString "pause")]) = true := by decide +kernel
      simp only [List.map_cons, List.map_nil] at hb
      by_cases hk : w0 = Str.ofString "step" ∧ w3 = Str.ofString "limit" ∧ w5 = Str.ofString "pause"
      · obtain ⟨rfl, rfl, rfl⟩ := hk
        obtain ⟨n1, q1, c1⟩ := r_figure (z := w1) (Nat.le_trans (hl w1 (by simp)) hz) (ho w1 (by simp))
        obtain ⟨n2, q2, c2⟩ := r_figure (z := w4) (Nat.le_trans (hl w4 (by simp)) hz) (ho w4 (by simp))
        obtain ⟨n3, q3, c3⟩ := r_figure (z := w6) (Nat.le_trans (hl w6 (by simp)) hz) (ho w6 (by simp))
        have hv : veq (.lst [.str (Str.ofString "step"), .str (Str.ofString "limit"), .str (Str.ofString "pause")]) (.lst [.str (Str.ofString "step"), .str (Str.ofString "limit"), .str (Str.ofString "pause")]) = true := by decide +kernel
        by_cases hok : (inMenu w2 ∧ (1 ≤ n1 ∧ n1 ≤ 1000000000000)) ∧ (n1 ≤ n2 ∧ n2 ≤ 1000000000000000000) ∧ 1 ≤ n3 ∧ n3 ≤ 1000000000000000000
        · left
          obtain ⟨⟨g1, g2, g3⟩, ⟨g4, g5⟩, g6, g7⟩ := hok
          have e1 : w1 = nT n1 := by
            rcases c1 with ⟨h, _⟩ | ⟨m, _, h, h'⟩
            · omega
            · rw [h']; exact h
          have e2 : w4 = nT n2 := by
            rcases c2 with ⟨h, _⟩ | ⟨m, _, h, h'⟩
            · omega
            · rw [h']; exact h
          have e3 : w6 = nT n3 := by
            rcases c3 with ⟨h, _⟩ | ⟨m, _, h, h'⟩
            · omega
            · rw [h']; exact h
          refine ⟨n1, n2, n3, w2, ⟨g2, g3, g4, g5, g6, g7, g1⟩, by rw [← hj, e1, e2, e3]; rfl, fun Q => ok_det ?_⟩
          simp_arith [↓den__law_read, ↓b__law_read, ↓i_str, ↓mSplit, ↓if_pos hp, ↓hb, ↓hv, ↓hd, ↓hd2, ↓tx_5, ↓tx_6, ↓q1, ↓q2, ↓q3, ↓notinL g1, ↓g2, ↓g3, ↓g4, ↓g5, ↓g6, ↓g7]
        · right
          refine ⟨fun s l p t F q => hok ?_, fun Q => ok_det ?_⟩
          · have e := inv s l p t F q
            unfold wT at e
            simp only [List.cons.injEq, and_true, true_and] at e
            obtain ⟨e1, e2, e3, e4⟩ := e
            have f1 := fig_val c1 e1 (by have := F.s1; omega) (by have := F.s2; omega)
            have f2 := fig_val c2 e3 (by have := F.s1; have := F.l1; omega) F.l2
            have f3 := fig_val c3 e4 (by have := F.p1; omega) F.p2
            rw [f1, f2, f3, e2]
            exact ⟨⟨F.t1, F.s1, F.s2⟩, ⟨F.l1, F.l2⟩, F.p1, F.p2⟩
          · unfold den__law_read
            rw [ok_d1]
            unfold b__law_read
            by_cases g1 : inMenu w2
            · by_cases g2 : 1 ≤ n1
              · by_cases g3 : n1 ≤ 1000000000000
                · by_cases g4 : n1 ≤ n2
                  · by_cases g5 : n2 ≤ 1000000000000000000
                    · by_cases g6 : 1 ≤ n3
                      · have g7 : ¬ n3 ≤ 1000000000000000000 := fun g7 => hok ⟨⟨g1, g2, g3⟩, ⟨g4, g5⟩, g6, g7⟩
                        simp_arith [↓i_str, ↓mSplit, ↓if_pos hp, ↓hb, ↓hv, ↓hd, ↓hd2, ↓tx_5, ↓tx_6, ↓q1, ↓q2, ↓q3, ↓notinL g1, ↓g2, ↓g3, ↓g4, ↓g5, ↓g6, ↓g7]
                      · simp_arith [↓i_str, ↓mSplit, ↓if_pos hp, ↓hb, ↓hv, ↓hd, ↓hd2, ↓tx_5, ↓tx_6, ↓q1, ↓q2, ↓q3, ↓notinL g1, ↓g2, ↓g3, ↓g4, ↓g5, ↓g6]
                    · simp_arith [↓i_str, ↓mSplit, ↓if_pos hp, ↓hb, ↓hv, ↓hd, ↓hd2, ↓tx_5, ↓tx_6, ↓q1, ↓q2, ↓q3, ↓notinL g1, ↓g2, ↓g3, ↓g4, ↓g5]
                  · simp_arith [↓i_str, ↓mSplit, ↓if_pos hp, ↓hb, ↓hv, ↓hd, ↓hd2, ↓tx_5, ↓tx_6, ↓q1, ↓q2, ↓q3, ↓notinL g1, ↓g2, ↓g3, ↓g4]
                · simp_arith [↓i_str, ↓mSplit, ↓if_pos hp, ↓hb, ↓hv, ↓hd, ↓hd2, ↓tx_5, ↓tx_6, ↓q1, ↓q2, ↓q3, ↓notinL g1, ↓g2, ↓g3]
              · simp_arith [↓i_str, ↓mSplit, ↓if_pos hp, ↓hb, ↓hv, ↓hd, ↓hd2, ↓tx_5, ↓tx_6, ↓q1, ↓q2, ↓q3, ↓notinL g1, ↓g2]
            · simp_arith [↓i_str, ↓mSplit, ↓if_pos hp, ↓hb, ↓hv, ↓hd, ↓hd2, ↓tx_5, ↓tx_6, ↓q1, ↓q2, ↓q3, ↓notinL_no g1]
      · right
        have hv : veq (.lst [.str w0, .str w3, .str w5]) (.lst [.str (Str.ofString "step"), .str (Str.ofString "limit"), .str (Str.ofString "pause")]) = false := by
          rw [veq_s3]
          cases h0 : decide (w0 = Str.ofString "step") <;> cases h3 : decide (w3 = Str.ofString "limit") <;> cases h5 : decide (w5 = Str.ofString "pause") <;> first | rfl | exact absurd ⟨of_decide_eq_true h0, of_decide_eq_true h3, of_decide_eq_true h5⟩ hk
        refine ⟨fun s l p t F q => hk ?_, fun Q => ok_det ?_⟩
        · have e := inv s l p t F q
          unfold wT at e
          simp only [List.cons.injEq, and_true] at e
          exact ⟨e.1, e.2.2.2.1, e.2.2.2.2.2.1⟩
        · simp_arith [↓den__law_read, ↓b__law_read, ↓i_str, ↓mSplit, ↓if_pos hp, ↓hb, ↓hv, ↓hd, ↓hd2, ↓tx_5]
    · right
      have h7' : ¬ (((ws.map Val.str).length : Nat) : Int) = 7 := by rw [List.length_map]; omega
      refine ⟨fun s l p t F q => h7 ?_, fun Q => ok_det ?_⟩
      · rw [inv s l p t F q]; rfl
      · simp_arith [↓den__law_read, ↓b__law_read, ↓i_str, ↓mSplit, ↓if_pos hp, ↓hb, ↓h7']
end
end Pu.Q
set_option Elab.async false
set_option linter.all false
set_option maxRecDepth 100000
set_option maxHeartbeats 2000000
namespace Pu.Q
open PySem PySem.Spec PyProof.Rows L2 Pu
section
variable {Q : RV → Ev → Prop} {v : Val} {e : Ev} {s l p : Int} {t : Str}
theorem r_textO (h : FormOk s l p t) : Ok den_Rule__text [.own (rV s l p t)] Q ↔ Q (.dat (.str (fT s l p t))) [.own (rV s l p t)] := by
  obtain ⟨h1, h2, h3, h4, h5, h6, ht⟩ := h
  have f1 := fun e Q => tx_fmtI (i := s) (e := e) (Q := Q) (log_ok (by omega) (by omega))
  have f2 := fun e Q => tx_fmtI (i := l) (e := e) (Q := Q) (log_ok (by omega) (by omega))
  have f3 := fun e Q => tx_fmtI (i := p) (e := e) (Q := Q) (log_ok (by omega) (by omega))
  have a1 := nTi_short (i := s) (by omega) (by omega)
  have a2 := nTi_short (i := l) (by omega) (by omega)
  have a3 := nTi_short (i := p) (by omega) (by omega)
  have a4 := (menu_free ht).2
  have f4 := fun e Q => tx_fmtS (z := t) (e := e) (Q := Q) (by omega)
  have b1 : (Str.ofString "step ").length = 5 := by decide +kernel
  have b2 : (Str.ofString " ").length = 1 := by decide +kernel
  have b3 : (Str.ofString " limit ").length = 7 := by decide +kernel
  have b4 : (Str.ofString " pause ").length = 7 := by decide +kernel
  have b0 : Str.empty.length = 0 := rfl
  have g : ∀ (Q : RV → Ev → Prop), Ok (mFs [(mV (.str "step ")), (mFmt (mProp "Rule" den_Rule__step (mVar 0))), (mV (.str " ")), (mFmt (mProp "Rule" den_Rule__setting (mVar 0))), (mV (.str " limit ")), (mFmt (mGet "Rule" "limit" (mVar 0))), (mV (.str " pause ")), (mFmt (mProp "Rule" den_Rule__pause (mVar 0)))]) [.own (rV s l p t)] Q ↔ Q (.dat (.str (fT s l p t))) [.own (rV s l p t)] := fun Q => by
    unfold mFs
    rw [ok_bind, tx_js (y := Str.ofString "step ") (fun Q => by simp_arith) (by simp only [str_len, b0, b1, b2, b3, b4]; omega),
      tx_js (y := nT s) (fun Q => by simp_arith [↓mFmt, ↓f1, ↓r_stepO]) (by simp only [str_len, b0, b1, b2, b3, b4]; omega),
      tx_js (y := Str.ofString " ") (fun Q => by simp_arith) (by simp only [str_len, b0, b1, b2, b3, b4]; omega),
      tx_js (y := t) (fun Q => by simp_arith [↓mFmt, ↓f4, ↓r_settingO]) (by simp only [str_len, b0, b1, b2, b3, b4]; omega),
      tx_js (y := Str.ofString " limit ") (fun Q => by simp_arith) (by simp only [str_len, b0, b1, b2, b3, b4]; omega),
      tx_js (y := nT l) (fun Q => by simp_arith [↓mFmt, ↓f2]) (by simp only [str_len, b0, b1, b2, b3, b4]; omega),
      tx_js (y := Str.ofString " pause ") (fun Q => by simp_arith) (by simp only [str_len, b0, b1, b2, b3, b4]; omega),
      tx_js (y := nT p) (fun Q => by simp_arith [↓mFmt, ↓f3, ↓r_pauseO]) (by simp only [str_len, b0, b1, b2, b3, b4]; omega), tx_js0, fs_text, ok_mV]
  simp_arith [↓den_Rule__text, ↓b_Rule__text, ↓g]
def bentB (v : Val) : Bool := vlB v && (isR v && (iOk v && (decide (dep v ≤ 50) && (decide (rsz v ≤ 100000) && (match v with
  | .str z => decide (z.length ≤ 5000)
  | _ => true)))))
structure Bn (v : Val) : Prop where
  k : vlB v = true
  r : isR v = true
  i : iOk v = true
  d : dep v ≤ 50
  z : rsz v ≤ 100000
  t : ∀ z, v = .str z → z.length ≤ 5000
theorem bn_of (h : bentB v = true) : Bn v := by
  unfold bentB at h
  simp only [Bool.and_eq_true, decide_eq_true_eq] at h
  obtain ⟨h1, h2, h3, h4, h5, h6⟩ := h
  refine ⟨h1, h2, h3, h4, h5, fun z q => ?_⟩
  subst q
  simpa using h6
theorem bn_text {z : Str} (h : Tz 5000 z) : Bn (.str z) := by
  have := h.2
  refine ⟨rfl, h.1, rfl, by simp [dep], by simp only [rsz]; omega, fun y q => ?_⟩
  cases q
  exact h.2
theorem Bn.ok (h : Bn v) : ∀ z, v = .str z → z.length ≤ 16777000 ∧ PyData.strOk z = true := fun z q => by
  have h1 := h.t z q
  have h2 := h.r
  subst q
  exact ⟨by omega, h2⟩
theorem oddL_bn : ∀ v ∈ oddL, Bn v := fun v hv => bn_of (List.all_eq_true.mp (show oddL.all bentB = true by decide +kernel) v hv)
theorem r_odd03 {a b c : Int} : Ok den__law_odd [.own (.lst [.int a, .int b, .int c])] fun r e' => ∃ v a' b' c', r = .dat v ∧ e' = [.own (.lst [.int a', .int b', .int c'])] ∧ Bn v := by
  simp_arith [↓den__law_odd, ↓b__law_odd, ↓ok_dct0]
  rw [oddL_eq]
  refine Ok.mono (r_sip (by omega) (by omega)) ?_
  rintro _ _ ⟨d, a1, b1, c1, rfl, rfl, d0, d1⟩
  obtain ⟨v, hv⟩ := get_lt (xs := oddL) (j := d.toNat) (by show d.toNat < 24; omega)
  have ok := oddL_bn v (List.mem_of_getElem? hv)
  have ix := fun (e : Ev) (Q : RV → Ev → Prop) => ixL_of (e := e) (Q := Q) (atI_of0 d0 hv)
  generalize oddL = L at ix ⊢
  simp_arith [↓ix]
  exact ⟨v, a1, b1, c1, rfl, rfl, ok⟩
theorem r_pickS {z : Str} {a b c : Int} (h1 : 0 < z.length) (h2 : z.length ≤ 1000) (ho : PyData.strOk z = true) :
    Ok den__law_pick [.own (.lst [.int a, .int b, .int c]), .dat (.str z)] fun r e' => ∃ g a' b' c', r = .dat (.str g) ∧ Tz 1 g ∧ e' = [.own (.lst [.int a', .int b', .int c']), .un] := by
  have hlen : z.cps.toList.length = z.length := Array.length_toList
  have lf := fun (e : Ev) (Q : RV → Ev → Prop) => (show Ok (fLen [.str z]) e Q ↔ Q (.dat (.int (z.length : Int))) e by rw [tx_len (by omega)]; exact ok_mV)
  simp_arith [↓den__law_pick, ↓b__law_pick, ↓lf]
  refine Ok.mono (r_sip (top := (z.length : Int)) (by omega) (by omega)) ?_
  rintro _ _ ⟨d, a1, b1, c1, rfl, rfl, d0, d1⟩
  obtain ⟨ch, hc⟩ := get_lt (xs := z.cps.toList) (j := d.toNat) (by rw [hlen]; omega)
  have ix := tx_ix (z := z) (by omega) (atI_of0 d0 hc)
  simp_arith [↓ix]
  refine ⟨_, _, _, _, rfl, ⟨sok_iff.mpr fun y hy => ?_, Nat.le_refl 1⟩, rfl⟩
  have : y = ch := by simpa using hy
  rw [this]
  exact sok_iff.mp ho ch (List.mem_of_getElem? hc)
def Asc7 (z : Str) : Prop := ∀ c ∈ z.cps.toList, c < 128
theorem asc_join : ∀ {ws : List Str}, (∀ w ∈ ws, Asc7 w) → Asc7 (Str.join bl1 ws)
  | [], _ => fun c hc => by
    rw [show (Str.join bl1 []).cps.toList = [] by decide +kernel] at hc
    cases hc
  | [x], h => h x (List.mem_singleton.mpr rfl)
  | x :: y :: r, h => fun c hc => by
    rw [jn_cc] at hc
    rcases List.mem_append.mp hc with hc | hc
    · exact h x List.mem_cons_self c hc
    · rcases List.mem_cons.mp hc with rfl | hc
      · decide
      · exact asc_join (ws := y :: r) (fun w hw => h w (List.mem_cons_of_mem _ hw)) c hc
theorem asc_nT {m : Int} (h0 : 0 ≤ m) : Asc7 (nT m) := by
  obtain ⟨k, rfl⟩ : ∃ k : Nat, m = (k : Int) := ⟨m.toNat, by omega⟩
  exact fun c hc => by have := (nT_dig k c hc).2; omega
theorem asc_lit {z : Str} (h : z.cps.toList.all (· < 128) = true) : Asc7 z := fun c hc => of_decide_eq_true (List.all_eq_true.mp h c hc)
theorem asc_fT (h : FormOk s l p t) : Asc7 (fT s l p t) := by
  have h1 := h.s1; have h3 := h.l1; have h5 := h.p1
  refine asc_join fun w hw => ?_
  unfold wT at hw
  simp only [List.mem_cons, List.not_mem_nil, or_false] at hw
  rcases hw with rfl | rfl | rfl | rfl | rfl | rfl | rfl
  · exact asc_lit (by decide +kernel)
  · exact asc_nT (by omega)
  · rcases h.t1 with rfl | rfl | rfl <;> exact asc_lit (by decide +kernel)
  · exact asc_lit (by decide +kernel)
  · exact asc_nT (by omega)
  · exact asc_lit (by decide +kernel)
  · exact asc_nT (by omega)
theorem up_128 : ∀ x, x < 128 → (Unicode.upperOf x).all (· < 0x110000) = true := by decide +kernel
theorem tz_upper {n : Nat} {z : Str} (h : Tz n z) (ha : Asc7 z) : Tz (3 * n) (Txt.upper z) := by
  refine ⟨sok_iff.mpr fun c hc => ?_, ?_⟩
  · have hc' : c ∈ (z.cps.mapIdx fun i c => (Unicode.upperOf c).toArray).flatten := Array.mem_def.mpr hc
    obtain ⟨l, h1, h2⟩ := Array.mem_flatten.mp hc'
    obtain ⟨i, hi, rfl⟩ := Array.mem_mapIdx.mp h1
    have hm : z.cps[i] ∈ z.cps.toList := Array.getElem_mem_toList hi
    have := up_128 _ (ha _ hm)
    have h2' : c ∈ Unicode.upperOf z.cps[i] := by simpa using h2
    exact of_decide_eq_true (List.all_eq_true.mp this c h2')
  · have := PyProof.Rows.len_upper z
    have := h.2
    omega
end
end Pu.Q
set_option Elab.async false
set_option linter.all false
set_option maxRecDepth 100000
set_option maxHeartbeats 2000000
namespace Pu.Q
open PySem PySem.Spec PyProof.Rows L2 Pu
section
variable {Q : RV → Ev → Prop} {v : Val} {e : Ev} {s l p : Int} {t : Str}
theorem ok_upper {m : M RV} : Ok (mUpper m) e Q ↔ Ok m e fun r e1 => Ok (M.rd r) e1 fun v e2 => match v with
    | .str z => z.length ≤ 5592405 ∧ Q (.dat (.str (Txt.upper z))) e2
    | _ => False := by
  unfold mUpper
  rw [ok_bind]
  refine ok_iffc fun r e1 => ?_
  rw [ok_bind]
  refine ok_iffc fun v e2 => ?_
  cases v with
  | str z =>
    dsimp only
    by_cases c : z.length ≤ 5592405
    · rw [if_pos c, ok_mV]; simp [c]
    · rw [if_neg c, ok_bad]; simp [c]
  | _ => rw [ok_bad]
theorem tx_joinE {e : Ev} {Q : RV → Ev → Prop} {ma : M RV} (hm : Ok ma e fun r e1 => Ok (M.rd r) e1 fun v e2 => ∃ (ws : List Str) (n : Nat), v = .lst (ws.map .str) ∧ (∀ w ∈ ws, Tz n w) ∧ ws.length * (n + 1) ≤ 1000000 ∧ Q (.dat (.str (Str.join bl1 ws))) e2) : Ok (mJoin (mV (.str (Str.ofString " "))) ma) e Q := by
  unfold mJoin
  rw [ok_bind, ok_mV, ok_bind, ok_rdD]
  dsimp only
  rw [ok_bind]
  refine Ok.mono hm fun r e1 h3 => ?_
  rw [ok_bind]
  refine Ok.mono h3 fun v e2 h4 => ?_
  obtain ⟨ws, n, rfl, h, h2, q⟩ := h4
  have hj : joinOk bl1 ws := by
    unfold joinOk
    have := sum_le (ws := ws) (n := n) fun w hw => (h w hw).2
    have hb : bl1.length = 1 := by decide +kernel
    rw [hb, Nat.mul_one]
    rw [Nat.mul_add] at h2
    omega
  dsimp only
  rw [strs_map]
  dsimp only
  rw [show (Str.ofString " ") = bl1 from rfl, if_pos hj]
  refine ok_mV.mpr ?_
  rw [show Txt.join bl1 ws = Str.join bl1 ws from StrLaws.glued_eq_join _ _]
  exact q
theorem r_bent03 {a b c : Int} (F : FormOk s l p t) : Ok den__law_bent_k03 [.own (.lst [.int a, .int b, .int c]), .dat (pV s l p t)] fun r e' => ∃ v a' b' c', r = .dat v ∧ e' = [.own (.lst [.int a', .int b', .int c']), .un] ∧ Bn v := by
  have hT := tz_fT F
  have hW := tz_wT F
  have hA := asc_fT F
  have sp := split_fT F
  have hs : (((Str.ofString " ").length == 0) = false ∧ (fT s l p t).length + 2 ≤ sizeLine) := ⟨by decide +kernel, by have := hT.2; rw [sizeLine_eq]; omega⟩
  have spW : spl (fT s l p t) (Str.ofString " ") = (wT s l p t).map .str := sp
  have lW : (wT s l p t).length = 7 := rfl
  have hm := fun Q => r_madeF (Q := Q) F.s1 F.s2 F.l1 F.l2 F.p1 F.p2 F.t1
  have ht := fun Q => r_textO (Q := Q) F
  have gS : Bn (.int s) := by
    have := F.s1; have := F.s2
    exact ⟨rfl, rfl, (by first | (simp [iOk]; done) | (simp [iOk]; omega)), by simp [dep], by simp [rsz], fun z q => nomatch q⟩
  obtain ⟨RV0, hRV⟩ : ∃ X, X = rV s l p t := ⟨_, rfl⟩
  have hob : ∃ fs vs, RV0 = .obj "Rule" fs vs := ⟨_, _, hRV⟩
  rw [← hRV] at hm ht
  obtain ⟨ofs, ovs, hob⟩ := hob
  subst hob
  clear hRV
  have hpv : pV s l p t = .lst [.int s, .str t, .int l, .int p] := rfl
  rw [hpv]
  generalize fT s l p t = S at *
  generalize wT s l p t = W at *
  have hl := hT.2
  have lf : ∀ (e : Ev) (Q : RV → Ev → Prop), Ok (fLen [.str S]) e Q ↔ Q (.dat (.int (S.length : Int))) e := fun e Q => by
    rw [tx_len (by omega)]; exact ok_mV
  generalize hR : ((mSeq (mIf (mTru (mBin oLt (mVar 3) (mV (.int 3)))) (mSeq (mPar false [6, 7] (mCons (mCall [true, false] den__law_sip (mCons (mVar 0) (mCons (mBin oAdd (mCB fLen (mCons (mVar 2) mNil)) (mV (.int 1))) mNil)) []) (mCons (mCall [true, false] den__law_pick (mCons (mVar 0) (mCons (mV (.str " 0129p-\n,e")) mNil)) []) mNil))) (mRet (mBin oIx (mLst (mCons (mBin oAdd (mSl (mVar 2) mNoP (mPt (mVar 6))) (mSl (mVar 2) (mPt (mBin oAdd (mVar 6) (mV (.int 1)))) mNoP)) (mCons (mBin oAdd (mBin oAdd (mSl (mVar 2) mNoP (mPt (mVar 6))) (mVar 7)) (mSl (mVar 2) (mPt (mVar 6)) mNoP)) (mCons (mBin oAdd (mBin oAdd (mSl (mVar 2) mNoP (mPt (mVar 6))) (mVar 7)) (mSl (mVar 2) (mPt (mBin oAdd (mVar 6) (mV (.int 1)))) mNoP)) mNil)))) (mVar 3)))) mSkip) (mSeq (mIf (mTru (mBin oEq (mVar 3) (mV (.int 3)))) (mSeq (mSet 4 (mSplit (mVar 2) (mV (.str " ")))) (mSeq (mSet 5 (mCall [true, false] den__law_sip (mCons (mVar 0) (mCons (mCB fLen (mCons (mVar 4) mNil)) mNil)) [])) (mRet (mJoin (mV (.str " ")) (mIfE (mTru (mBin oEq (mCall [true, false] den__law_sip (mCons (mVar 0) (mCons (mV (.int 2)) mNil)) []) (mV (.int 0)))) (mBin oAdd (mSl (mVar 4) mNoP (mPt (mVar 5))) (mSl (mVar 4) (mPt (mBin oAdd (mVar 5) (mV (.int 1)))) mNoP)) (mBin oAdd (mBin oAdd (mSl (mVar 4) mNoP (mPt (mVar 5))) (mSl (mVar 4) (mPt (mVar 5)) (mPt (mBin oAdd (mVar 5) (mV (.int 1)))))) (mSl (mVar 4) (mPt (mVar 5)) mNoP))))))) mSkip) (mRet (mIfE (mTru (mBin oEq (mVar 3) (mV (.int 4)))) (mCall [true, false] den__law_pick (mCons (mVar 0) (mCons (mLst (mCons (mCall [true] den__law_odd (mCons (mVar 0) mNil) []) (mCons (mUpper (mVar 2)) (mCons (mBin oAdd (mV (.str " ")) (mVar 2)) (mCons (mBin oAdd (mVar 2) (mV (.str " "))) (mCons (mBin oAdd (mVar 2) (mV (.str "\n"))) (mCons (mBin oIx (mVar 1) (mV (.int 0))) mNil))))))) mNil)) []) (mVar 2)))))) = R
  unfold den__law_bent_k03
  rw [ok_d2]
  unfold b__law_bent_k03
  rw [hR]
  simp_arith [↓hm, ↓ht]
  refine Ok.mono (r_sip (by omega) (by omega)) ?_
  rintro _ _ ⟨kd, a1, b1, c1, rfl, rfl, d0, d1⟩
  simp_arith
  subst hR
  generalize hR : ((mSeq (mIf (mTru (mBin oEq (mVar 3) (mV (.int 3)))) (mSeq (mSet 4 (mSplit (mVar 2) (mV (.str " ")))) (mSeq (mSet 5 (mCall [true, false] den__law_sip (mCons (mVar 0) (mCons (mCB fLen (mCons (mVar 4) mNil)) mNil)) [])) (mRet (mJoin (mV (.str " ")) (mIfE (mTru (mBin oEq (mCall [true, false] den__law_sip (mCons (mVar 0) (mCons (mV (.int 2)) mNil)) []) (mV (.int 0)))) (mBin oAdd (mSl (mVar 4) mNoP (mPt (mVar 5))) (mSl (mVar 4) (mPt (mBin oAdd (mVar 5) (mV (.int 1)))) mNoP)) (mBin oAdd (mBin oAdd (mSl (mVar 4) mNoP (mPt (mVar 5))) (mSl (mVar 4) (mPt (mVar 5)) (mPt (mBin oAdd (mVar 5) (mV (.int 1)))))) (mSl (mVar 4) (mPt (mVar 5)) mNoP))))))) mSkip) (mRet (mIfE (mTru (mBin oEq (mVar 3) (mV (.int 4)))) (mCall [true, false] den__law_pick (mCons (mVar 0) (mCons (mLst (mCons (mCall [true] den__law_odd (mCons (mVar 0) mNil) []) (mCons (mUpper (mVar 2)) (mCons (mBin oAdd (mV (.str " ")) (mVar 2)) (mCons (mBin oAdd (mVar 2) (mV (.str " "))) (mCons (mBin oAdd (mVar 2) (mV (.str "\n"))) (mCons (mBin oIx (mVar 1) (mV (.int 0))) mNil))))))) mNil)) []) (mVar 2))))) = R
  by_cases k3 : kd < 3
  · simp_arith [↓k3, ↓lf]
    refine Ok.mono (r_sip (by omega) (by omega)) ?_
    rintro _ _ ⟨at_, a2, b2, c2, rfl, rfl, x0, x1⟩
    simp_arith
    refine Ok.mono (r_pickS (by decide +kernel) (by decide +kernel) (by decide +kernel)) ?_
    rintro _ _ ⟨sg, a3, b3, c3, rfl, tg, rfl⟩
    simp_arith
    have c1 := fun lo hi (e : Ev) (Q : RV → Ev → Prop) => ok_slS (z := S) (lo := lo) (hi := hi) (e := e) (Q := Q) (by omega)
    have tA := tz_cut hT none (some at_)
    have tB := tz_cut hT (some at_) none
    have tC := tz_cut hT (some (at_ + 1)) none
    have sg2 := tg.2
    have l1 := tA.2; have l2 := tB.2; have l3 := tC.2
    have q1 : oAdd (.str (cutS S none (some at_))) (.str sg) = _ := addS (by omega)
    have q2 : oAdd (.str (cutS S none (some at_) ++ sg)) (.str (cutS S (some at_) none)) = _ := addS (by rw [str_len]; omega)
    have q3 : oAdd (.str (cutS S none (some at_))) (.str (cutS S (some (at_ + 1)) none)) = _ := addS (by omega)
    have q4 : oAdd (.str (cutS S none (some at_) ++ sg)) (.str (cutS S (some (at_ + 1)) none)) = _ := addS (by rw [str_len]; omega)
    have t1 := tz_app (tz_app tA tg) tB
    have t2 := tz_app tA tC
    have t3 := tz_app (tz_app tA tg) tC
    have hk : kd = 0 ∨ kd = 1 ∨ kd = 2 := by omega
    rcases hk with rfl | rfl | rfl
    · simp_arith [↓c1, ↓q1, ↓q2, ↓q3, ↓q4]
      exact ⟨_, _, _, _, rfl, rfl, bn_text (t2.mono (by omega))⟩
    · simp_arith [↓c1, ↓q1, ↓q2, ↓q3, ↓q4]
      exact ⟨_, _, _, _, rfl, rfl, bn_text (t1.mono (by omega))⟩
    · simp_arith [↓c1, ↓q1, ↓q2, ↓q3, ↓q4]
      exact ⟨_, _, _, _, rfl, rfl, bn_text (t3.mono (by omega))⟩
  · simp_arith [↓k3]
    subst hR
    generalize hR : ((mRet (mIfE (mTru (mBin oEq (mVar 3) (mV (.int 4)))) (mCall [true, false] den__law_pick (mCons (mVar 0) (mCons (mLst (mCons (mCall [true] den__law_odd (mCons (mVar 0) mNil) []) (mCons (mUpper (mVar 2)) (mCons (mBin oAdd (mV (.str " ")) (mVar 2)) (mCons (mBin oAdd (mVar 2) (mV (.str " "))) (mCons (mBin oAdd (mVar 2) (mV (.str "\n"))) (mCons (mBin oIx (mVar 1) (mV (.int 0))) mNil))))))) mNil)) []) (mVar 2)))) = R
    by_cases k4 : kd = 3
    · subst k4
      simp_arith [↓mSplit, ↓if_pos hs, ↓spW]
      have lWv : (W.map Val.str).length = 7 := by rw [List.length_map, lW]
      simp_arith [↓lWv]
      refine Ok.mono (r_sip (by omega) (by omega)) ?_
      rintro _ _ ⟨kk, a4, b4, c4, rfl, rfl, z0, z1⟩
      simp_arith
      subst hR
      have m1 := cutA_mem (ws := W) (lo := none) (hi := some kk)
      have m2 := cutA_mem (ws := W) (lo := some (kk + 1)) (hi := none)
      have m3 := cutA_mem (ws := W) (lo := some kk) (hi := some (kk + 1))
      have m4 := cutA_mem (ws := W) (lo := some kk) (hi := none)
      have e1 := cutA_mapS (ws := W) (lo := none) (hi := some kk)
      have e2 := cutA_mapS (ws := W) (lo := some (kk + 1)) (hi := none)
      have e3 := cutA_mapS (ws := W) (lo := some kk) (hi := some (kk + 1))
      have e4 := cutA_mapS (ws := W) (lo := some kk) (hi := none)
      rw [lW] at m1 m2 m3 m4
      obtain ⟨Y1, hY1⟩ : ∃ Y1, cutA W none (some kk) = Y1 := ⟨_, rfl⟩
      obtain ⟨Y2, hY2⟩ : ∃ Y2, cutA W (some (kk + 1)) none = Y2 := ⟨_, rfl⟩
      obtain ⟨Y3, hY3⟩ : ∃ Y3, cutA W (some kk) (some (kk + 1)) = Y3 := ⟨_, rfl⟩
      obtain ⟨Y4, hY4⟩ : ∃ Y4, cutA W (some kk) none = Y4 := ⟨_, rfl⟩
      rw [hY1] at m1 e1
      rw [hY2] at m2 e2
      rw [hY3] at m3 e3
      rw [hY4] at m4 e4
      have tY1 : ∀ w ∈ Y1, Tz 61 w := fun w hw => (hW w (m1.1 w hw)).mono (by omega)
      have tY2 : ∀ w ∈ Y2, Tz 61 w := fun w hw => (hW w (m2.1 w hw)).mono (by omega)
      have tY3 : ∀ w ∈ Y3, Tz 61 w := fun w hw => (hW w (m3.1 w hw)).mono (by omega)
      have tY4 : ∀ w ∈ Y4, Tz 61 w := fun w hw => (hW w (m4.1 w hw)).mono (by omega)
      have tA : ∀ w ∈ Y1 ++ Y2, Tz 61 w := fun w hw => by
        rcases List.mem_append.mp hw with hw | hw
        · exact tY1 w hw
        · exact tY2 w hw
      have tB : ∀ w ∈ Y1 ++ Y3 ++ Y4, Tz 61 w := fun w hw => by
        rcases List.mem_append.mp hw with hw | hw
        · rcases List.mem_append.mp hw with hw | hw
          · exact tY1 w hw
          · exact tY3 w hw
        · exact tY4 w hw
      have tj1 := tz_join (ws := Y1 ++ Y2) (n := 61) tA
      have tj2 := tz_join (ws := Y1 ++ Y3 ++ Y4) (n := 61) tB
      have ln1 : (Y1 ++ Y2).length ≤ 14 := by rw [List.length_append]; omega
      have ln2 : (Y1 ++ Y3 ++ Y4).length ≤ 21 := by simp only [List.length_append]; omega
      refine tx_joinE ?_
      simp_arith
      refine Ok.mono (r_sip (by omega) (by omega)) ?_
      rintro _ _ ⟨cc, a5, b5, c5, rfl, rfl, u0, u1⟩
      by_cases hc : cc = 0
      · subst hc
        simp_arith [↓e1, ↓e2]
        exact ⟨by simp only [List.length_append, List.length_map] at *; rw [sizeLine_eq]; omega, Y1 ++ Y2, 61, by rw [List.map_append], tA, by omega, _, _, _, _, rfl, rfl, bn_text (tj1.mono (Nat.le_trans (Nat.mul_le_mul_right 62 ln1) (by omega)))⟩
      · have vk : veq (.int cc) (.int 0) = false := veq_no rfl rfl (by simp [hc])
        simp_arith [↓vk, ↓e1, ↓e3, ↓e4]
        exact ⟨by simp only [List.length_append, List.length_map] at *; rw [sizeLine_eq]; omega, by simp only [List.length_append, List.length_map] at *; rw [sizeLine_eq]; omega, Y1 ++ Y3 ++ Y4, 61, by rw [List.map_append, List.map_append], tB, by omega, _, _, _, _, rfl, rfl, bn_text (tj2.mono (Nat.le_trans (Nat.mul_le_mul_right 62 ln2) (by omega)))⟩
    · have vk : veq (.int kd) (.int 3) = false := veq_no rfl rfl (by simp [k4])
      simp_arith [↓vk]
      subst hR
      by_cases k5 : kd = 4
      · subst k5
        simp_arith
        refine Ok.mono r_odd03 ?_
        rintro _ _ ⟨v, a4, b4, c4, rfl, rfl, hv⟩
        have sp1 : Tz 1 (Str.ofString " ") := ⟨by decide +kernel, by decide +kernel⟩
        have nl1 : Tz 1 (Str.ofString "\n") := ⟨by decide +kernel, by decide +kernel⟩
        have l1 := sp1.2; have l2 := nl1.2
        have q1 : oAdd (.str (Str.ofString " ")) (.str S) = _ := addS (by omega)
        have q2 : oAdd (.str S) (.str (Str.ofString " ")) = _ := addS (by omega)
        have q3 : oAdd (.str S) (.str (Str.ofString "\n")) = _ := addS (by omega)
        have tu := tz_upper hT hA
        have h55 : S.length ≤ 5592405 := by omega
        have t1 := tz_app sp1 hT
        have t2 := tz_app hT sp1
        have t3 := tz_app hT nl1
        simp_arith [↓ok_upper, ↓h55, ↓q1, ↓q2, ↓q3]
        refine Ok.mono (r_pickW (by simp) (by simp)) ?_
        rintro _ _ ⟨w, a5, b5, c5, hw, rfl, rfl⟩
        simp_arith
        refine ⟨w, _, _, _, rfl, rfl, ?_⟩
        simp only [List.mem_cons, List.not_mem_nil, or_false] at hw
        rcases hw with rfl | rfl | rfl | rfl | rfl | rfl
        · exact hv
        · exact bn_text (tu.mono (by omega))
        · exact bn_text (t1.mono (by omega))
        · exact bn_text (t2.mono (by omega))
        · exact bn_text (t3.mono (by omega))
        · exact gS
      · have vk5 : veq (.int kd) (.int 4) = false := veq_no rfl rfl (by simp [k5])
        simp_arith [↓vk5]
        exact ⟨_, _, _, _, rfl, rfl, bn_text (hT.mono (by omega))⟩
end
end Pu.Q
set_option Elab.async false
set_option linter.all false
set_option maxRecDepth 100000
set_option maxHeartbeats 2000000
namespace Pu.Q
open PySem PySem.Spec PyProof.Rows L2 Pu
section
variable {Q : RV → Ev → Prop} {P : Val → Ev → Prop} {v : Val} {e : Ev} {s l p : Int} {t : Str}
theorem ok_cmK {C : Str} {ms : List Bool} {f mo : M RV} {mk : M (List RV)} {n : Nat} {g : List Nat} : Ok (mCMK C ms f mo mk n g) e Q ↔ Ok mo e fun r e1 => Ok (M.rd r) e1 fun v e2 => v = .glo C ∧ Ok mk e2 fun zs e3 => zs.length = n ∧ Ok (runF ms f (.dat (.glo C) :: sel g zs)) e3 Q := by
  unfold mCMK
  rw [ok_bind]
  refine ok_iffc fun r e1 => ?_
  rw [ok_bind]
  refine ok_iffc fun v e2 => ?_
  cases v with
  | glo x =>
    dsimp only
    by_cases c : x = C
    · rw [if_pos c, ok_bind]
      subst c
      simp only [true_and]
      refine ok_iffc fun zs e3 => ?_
      by_cases d : zs.length = n
      · rw [if_pos d]; simp [d]
      · rw [if_neg d, ok_bad]; simp [d]
    · rw [if_neg c, ok_bad]
      simp [c]
  | _ => rw [ok_bad]; simp
theorem dOk_four (ht : PyData.strOk t = true) : dOk (.tup [.int s, .str t, .int l, .int p]) = true ∧ dOk (.lst [.int s, .str t, .int l, .int p]) = true := by
  constructor <;> simp [dOk, isD, isDs, dep, deps, ht]
theorem veq_four : veq (.tup [.int s, .str t, .int l, .int p]) (.tup [.int s, .str t, .int l, .int p]) = true ∧ veq (.lst [.int s, .str t, .int l, .int p]) (.lst []) = false := by
  constructor <;> simp [veq, toP, toPs, PyData.eqv, PyData.eqvAll]
theorem r_eqO (ht : PyData.strOk t = true) : Ok den_Rule____eq__ [.own (rV s l p t), .dat (rV s l p t)] Q ↔ Q (.dat (.bl true)) [.own (rV s l p t), .un] := by
  have i1 : fIsi isT [rV s l p t, .glo "Rule"] = mV (.bl true) := rfl
  have hd := (dOk_four (s := s) (l := l) (p := p) ht).1
  have hv := (veq_four (s := s) (l := l) (p := p) (t := t)).1
  unfold rV at *
  simp_arith [↓den_Rule____eq__, ↓b_Rule____eq__, ↓i1, ↓hd, ↓hv]
theorem r_eqD (ht : PyData.strOk t = true) : Ok den_Rule____eq__ [.dat (rV s l p t), .dat (rV s l p t)] Q ↔ Q (.dat (.bl true)) [.un, .un] := by
  rw [r_rule_eq (dOk_four ht).1 (dOk_four ht).1, veq_four.1]
theorem read_rs (hv : Bn v) (hn : NoTx v) : Rs den_Rule__read [.dat (.glo "Rule"), .dat v] fun x e' => x = .obj "InvalidText" ["given"] [v] ∧ e' = [.un, .un] := by
  rcases read_no hv.k hv.ok with ⟨s, l, p, t, h, e⟩ | h
  · exact absurd e (hn s l p t h)
  · exact h
theorem er_text : errV ["InvalidText", "InvalidNumber", "InvalidSetting"] (.obj "InvalidText" ["given"] [v]) = some (.lst [.str "text", v]) := rfl
theorem rk_text (hv : Bn v) : rkOk (.lst [.str "text", v]) = true := rk_word (by decide +kernel) (by decide +kernel) hv.r hv.i hv.d (by have := hv.z; omega)
theorem turn_no {A s1 s3 s4 : Slot} (hv : Bn v) (hn : NoTx v) (hr : ∀ Q : RV → Ev → Prop, Ok den__law_read [.dat v] Q ↔ Q (.tmp (.lst [])) [.un]) : Ok ((mSeq (mPar false [3, 4] (mCons (mErrA ["InvalidText", "InvalidNumber", "InvalidSetting"] (mCM "Rule" [false, false] den_Rule__read (mV (.glo "Rule")) (mCons (mVar 2) mNil))) (mCons (mCall [false] den__law_read (mCons (mVar 2) mNil) []) mNil))) (mSeq (mIf (mAnd (mTru (mBin oEq (mVar 4) (mLst mNil))) (mTru (mBin oNe (mCB fReprR (mCons (mVar 3) mNil)) (mCB fReprR (mCons (mLst (mCons (mV (.str "text")) (mCons (mVar 2) mNil))) mNil))))) (mRet (mV (.bl false))) mSkip) (mIf (mAnd (mTru (mBin oNe (mVar 4) (mLst mNil))) (mOr (mTru (mBin oNe (mBin oIx (mVar 3) (mV (.int 0))) (mV (.str "told")))) (mOr (mCmpT true "Rule" den_Rule____eq__ (mBin oIx (mVar 3) (mV (.int 1))) (mCall [false] den__law_made_k03 (mCons (mVar 4) mNil) [])) (mCmpT true "Rule" den_Rule____eq__ (mCMK "Rule" [false, false] den_Rule__read (mV (.glo "Rule")) (mCons (mVar 2) mNil) 1 [0]) (mCall [false] den__law_made_k03 (mCons (mVar 4) mNil) []))))) (mRet (mV (.bl false))) mSkip)))) [A, s1, .dat v, s3, s4] fun o e => o = .nx ∧ ∃ s3 s4, e = [A, s1, .dat v, s3, s4] := by
  generalize hR : ((mSeq (mIf (mAnd (mTru (mBin oEq (mVar 4) (mLst mNil))) (mTru (mBin oNe (mCB fReprR (mCons (mVar 3) mNil)) (mCB fReprR (mCons (mLst (mCons (mV (.str "text")) (mCons (mVar 2) mNil))) mNil))))) (mRet (mV (.bl false))) mSkip) (mIf (mAnd (mTru (mBin oNe (mVar 4) (mLst mNil))) (mOr (mTru (mBin oNe (mBin oIx (mVar 3) (mV (.int 0))) (mV (.str "told")))) (mOr (mCmpT true "Rule" den_Rule____eq__ (mBin oIx (mVar 3) (mV (.int 1))) (mCall [false] den__law_made_k03 (mCons (mVar 4) mNil) [])) (mCmpT true "Rule" den_Rule____eq__ (mCMK "Rule" [false, false] den_Rule__read (mV (.glo "Rule")) (mCons (mVar 2) mNil) 1 [0]) (mCall [false] den__law_made_k03 (mCons (mVar 4) mNil) []))))) (mRet (mV (.bl false))) mSkip))) = R
  simp_arith
  refine errA_rs (rs_cm ?_)
  simp_arith
  refine rs_run rfl (Rs.mono (read_rs hv hn) ?_)
  rintro _ _ ⟨rfl, rfl⟩
  refine ⟨_, er_text, ?_⟩
  simp_arith [↓hr]
  subst hR
  simp_arith [↓ok_reprR, ↓rk_text hv, ↓n_d, ↓n_v]
  exact ⟨_, _, rfl⟩
theorem turn_yes {A s1 s3 s4 : Slot} (F : FormOk s l p t) (hr : ∀ Q : RV → Ev → Prop, Ok den__law_read [.dat (.str (fT s l p t))] Q ↔ Q (.tmp (.lst [.int s, .str t, .int l, .int p])) [.un]) : Ok ((mSeq (mPar false [3, 4] (mCons (mErrA ["InvalidText", "InvalidNumber", "InvalidSetting"] (mCM "Rule" [false, false] den_Rule__read (mV (.glo "Rule")) (mCons (mVar 2) mNil))) (mCons (mCall [false] den__law_read (mCons (mVar 2) mNil) []) mNil))) (mSeq (mIf (mAnd (mTru (mBin oEq (mVar 4) (mLst mNil))) (mTru (mBin oNe (mCB fReprR (mCons (mVar 3) mNil)) (mCB fReprR (mCons (mLst (mCons (mV (.str "text")) (mCons (mVar 2) mNil))) mNil))))) (mRet (mV (.bl false))) mSkip) (mIf (mAnd (mTru (mBin oNe (mVar 4) (mLst mNil))) (mOr (mTru (mBin oNe (mBin oIx (mVar 3) (mV (.int 0))) (mV (.str "told")))) (mOr (mCmpT true "Rule" den_Rule____eq__ (mBin oIx (mVar 3) (mV (.int 1))) (mCall [false] den__law_made_k03 (mCons (mVar 4) mNil) [])) (mCmpT true "Rule" den_Rule____eq__ (mCMK "Rule" [false, false] den_Rule__read (mV (.glo "Rule")) (mCons (mVar 2) mNil) 1 [0]) (mCall [false] den__law_made_k03 (mCons (mVar 4) mNil) []))))) (mRet (mV (.bl false))) mSkip)))) [A, s1, .dat (.str (fT s l p t)), s3, s4] fun o e => o = .nx ∧ ∃ s3 s4, e = [A, s1, .dat (.str (fT s l p t)), s3, s4] := by
  have ht : PyData.strOk t = true := (tz_menu F.t1).1
  have rr := fun Q => r_readF (Q := Q) F
  have rm := fun Q => r_madeF (Q := Q) F.s1 F.s2 F.l1 F.l2 F.p1 F.p2 F.t1
  have eO := fun Q => r_eqO (Q := Q) (s := s) (l := l) (p := p) ht
  have eD := fun Q => r_eqD (Q := Q) (s := s) (l := l) (p := p) ht
  have d4 := (dOk_four (s := s) (l := l) (p := p) ht).2
  have v4 := (veq_four (s := s) (l := l) (p := p) (t := t)).2
  have oc : othV "Rule" (rV s l p t) = true := rfl
  generalize fT s l p t = z at *
  have hob : ∃ fs vs, rV s l p t = .obj "Rule" fs vs := ⟨_, _, rfl⟩
  obtain ⟨fs, vs, hob⟩ := hob
  rw [hob] at rr rm eO eD oc
  generalize hR : ((mSeq (mIf (mAnd (mTru (mBin oEq (mVar 4) (mLst mNil))) (mTru (mBin oNe (mCB fReprR (mCons (mVar 3) mNil)) (mCB fReprR (mCons (mLst (mCons (mV (.str "text")) (mCons (mVar 2) mNil))) mNil))))) (mRet (mV (.bl false))) mSkip) (mIf (mAnd (mTru (mBin oNe (mVar 4) (mLst mNil))) (mOr (mTru (mBin oNe (mBin oIx (mVar 3) (mV (.int 0))) (mV (.str "told")))) (mOr (mCmpT true "Rule" den_Rule____eq__ (mBin oIx (mVar 3) (mV (.int 1))) (mCall [false] den__law_made_k03 (mCons (mVar 4) mNil) [])) (mCmpT true "Rule" den_Rule____eq__ (mCMK "Rule" [false, false] den_Rule__read (mV (.glo "Rule")) (mCons (mVar 2) mNil) 1 [0]) (mCall [false] den__law_made_k03 (mCons (mVar 4) mNil) []))))) (mRet (mV (.bl false))) mSkip))) = R
  simp_arith
  refine errA_ok ?_
  simp_arith [↓tx_cm, ↓rr, ↓hr]
  subst hR
  simp_arith [↓ok_cmpT, ↓ok_cmK, ↓eO, ↓eD, ↓oc, ↓d4, ↓v4, ↓n_d, ↓n_v, ↓rm, ↓rr, ↓sel]
  exact ⟨_, _, rfl⟩
end
end Pu.Q
set_option Elab.async false
set_option linter.all false
set_option maxRecDepth 100000
set_option maxHeartbeats 4000000
namespace Pu.Q
open PySem PySem.Spec PyProof.Rows L2 Pu
theorem ok_same {m m' : S} {e e' : Ev} {P : Out → Ev → Prop} (h : m e = m' e') (k : Ok m' e' P) : Ok m e P := by
  have k' : O.Ok m' e' P := k
  show O.Ok m e P
  unfold O.Ok at *
  rw [h]
  exact k'
theorem turn_any {A s1 s3 s4 : Slot} {v : Val} (hv : Bn v) : Ok ((mSeq (mPar false [3, 4] (mCons (mErrA ["InvalidText", "InvalidNumber", "InvalidSetting"] (mCM "Rule" [false, false] den_Rule__read (mV (.glo "Rule")) (mCons (mVar 2) mNil))) (mCons (mCall [false] den__law_read (mCons (mVar 2) mNil) []) mNil))) (mSeq (mIf (mAnd (mTru (mBin oEq (mVar 4) (mLst mNil))) (mTru (mBin oNe (mCB fReprR (mCons (mVar 3) mNil)) (mCB fReprR (mCons (mLst (mCons (mV (.str "text")) (mCons (mVar 2) mNil))) mNil))))) (mRet (mV (.bl false))) mSkip) (mIf (mAnd (mTru (mBin oNe (mVar 4) (mLst mNil))) (mOr (mTru (mBin oNe (mBin oIx (mVar 3) (mV (.int 0))) (mV (.str "told")))) (mOr (mCmpT true "Rule" den_Rule____eq__ (mBin oIx (mVar 3) (mV (.int 1))) (mCall [false] den__law_made_k03 (mCons (mVar 4) mNil) [])) (mCmpT true "Rule" den_Rule____eq__ (mCMK "Rule" [false, false] den_Rule__read (mV (.glo "Rule")) (mCons (mVar 2) mNil) 1 [0]) (mCall [false] den__law_made_k03 (mCons (mVar 4) mNil) []))))) (mRet (mV (.bl false))) mSkip)))) [A, s1, .dat v, s3, s4] fun o e => o = .nx ∧ ∃ s3 s4, e = [A, s1, .dat v, s3, s4] := by
  have h := r_law_read hv.k hv.ok
  with_reducible refine Or.elim h ?_ ?_
  · intro h
    with_reducible refine Exists.elim h fun s h => ?_
    with_reducible refine Exists.elim h fun l h => ?_
    with_reducible refine Exists.elim h fun p h => ?_
    with_reducible refine Exists.elim h fun t h => ?_
    have F := h.1
    have e := h.2.1
    have hr := h.2.2
    rw [e] at hr ⊢
    with_reducible exact turn_yes F hr
  · intro h
    with_reducible exact turn_no hv h.1 h.2
theorem r_turn_k03 {a b c : Int} {s1 s2 s3 s4 : Slot} : Ok ((mSeq (mSet 2 (mCall [true, false] den__law_bent_k03 (mCons (mVar 0) (mCons (mCall [true, false] den__law_plan (mCons (mVar 0) (mCons (mBin oPow (mV (.int 10)) (mV (.int 12))) mNil)) []) mNil)) [])) (mSeq (mPar false [3, 4] (mCons (mErrA ["InvalidText", "InvalidNumber", "InvalidSetting"] (mCM "Rule" [false, false] den_Rule__read (mV (.glo "Rule")) (mCons (mVar 2) mNil))) (mCons (mCall [false] den__law_read (mCons (mVar 2) mNil) []) mNil))) (mSeq (mIf (mAnd (mTru (mBin oEq (mVar 4) (mLst mNil))) (mTru (mBin oNe (mCB fReprR (mCons (mVar 3) mNil)) (mCB fReprR (mCons (mLst (mCons (mV (.str "text")) (mCons (mVar 2) mNil))) mNil))))) (mRet (mV (.bl false))) mSkip) (mIf (mAnd (mTru (mBin oNe (mVar 4) (mLst mNil))) (mOr (mTru (mBin oNe (mBin oIx (mVar 3) (mV (.int 0))) (mV (.str "told")))) (mOr (mCmpT true "Rule" den_Rule____eq__ (mBin oIx (mVar 3) (mV (.int 1))) (mCall [false] den__law_made_k03 (mCons (mVar 4) mNil) [])) (mCmpT true "Rule" den_Rule____eq__ (mCMK "Rule" [false, false] den_Rule__read (mV (.glo "Rule")) (mCons (mVar 2) mNil) 1 [0]) (mCall [false] den__law_made_k03 (mCons (mVar 4) mNil) []))))) (mRet (mV (.bl false))) mSkip))))) [.own (.lst [.int a, .int b, .int c]), s1, s2, s3, s4] fun o e => o = .nx ∧ ∃ a b c s1 s2 s3 s4, e = [.own (.lst [.int a, .int b, .int c]), s1, s2, s3, s4] := by
  generalize hR : ((mSeq (mPar false [3, 4] (mCons (mErrA ["InvalidText", "InvalidNumber", "InvalidSetting"] (mCM "Rule" [false, false] den_Rule__read (mV (.glo "Rule")) (mCons (mVar 2) mNil))) (mCons (mCall [false] den__law_read (mCons (mVar 2) mNil) []) mNil))) (mSeq (mIf (mAnd (mTru (mBin oEq (mVar 4) (mLst mNil))) (mTru (mBin oNe (mCB fReprR (mCons (mVar 3) mNil)) (mCB fReprR (mCons (mLst (mCons (mV (.str "text")) (mCons (mVar 2) mNil))) mNil))))) (mRet (mV (.bl false))) mSkip) (mIf (mAnd (mTru (mBin oNe (mVar 4) (mLst mNil))) (mOr (mTru (mBin oNe (mBin oIx (mVar 3) (mV (.int 0))) (mV (.str "told")))) (mOr (mCmpT true "Rule" den_Rule____eq__ (mBin oIx (mVar 3) (mV (.int 1))) (mCall [false] den__law_made_k03 (mCons (mVar 4) mNil) [])) (mCmpT true "Rule" den_Rule____eq__ (mCMK "Rule" [false, false] den_Rule__read (mV (.glo "Rule")) (mCons (mVar 2) mNil) 1 [0]) (mCall [false] den__law_made_k03 (mCons (mVar 4) mNil) []))))) (mRet (mV (.bl false))) mSkip)))) = R
  simp_arith
  refine Ok.mono (r_plan (by omega) (by omega)) ?_
  rintro _ _ ⟨g, t, f, p, a1, b1, c1, rfl, rfl, ⟨g1, g2⟩, ht, ⟨f1, f2⟩, p1, p2⟩
  have F : FormOk g f p t := ⟨g1, by omega, f1, by omega, p1, by omega, ht⟩
  have rb := fun (a b c : Int) => r_bent03 (a := a) (b := b) (c := c) F
  unfold pV at rb
  simp_arith
  refine Ok.mono (rb _ _ _) ?_
  rintro _ _ ⟨v, a2, b2, c2, rfl, rfl, hv⟩
  simp_arith
  subst hR
  with_reducible refine Ok.mono (turn_any hv) ?_
  intro o e h
  have h1 := h.1
  subst h1
  have h2 := h.2
  clear h
  with_reducible refine Exists.elim h2 fun s3 h => ?_
  with_reducible refine Exists.elim h fun s4 h => ?_
  subst h
  exact ⟨rfl, _, _, _, _, _, _, _, rfl⟩
theorem r_right_k03 {x y z : Int} : Ok den__law_right_k03 [.own (.lst [.int x, .int y, .int z])] fun r _ => r = .dat (.bl true) := by
  unfold den__law_right_k03
  rw [ok_d1]
  unfold b__law_right_k03
  refine Ok.seq (fun _ => True) ?_ ?_
  · generalize hR : ((mSeq (mSet 2 (mCall [true, false] den__law_bent_k03 (mCons (mVar 0) (mCons (mCall [true, false] den__law_plan (mCons (mVar 0) (mCons (mBin oPow (mV (.int 10)) (mV (.int 12))) mNil)) []) mNil)) [])) (mSeq (mPar false [3, 4] (mCons (mErrA ["InvalidText", "InvalidNumber", "InvalidSetting"] (mCM "Rule" [false, false] den_Rule__read (mV (.glo "Rule")) (mCons (mVar 2) mNil))) (mCons (mCall [false] den__law_read (mCons (mVar 2) mNil) []) mNil))) (mSeq (mIf (mAnd (mTru (mBin oEq (mVar 4) (mLst mNil))) (mTru (mBin oNe (mCB fReprR (mCons (mVar 3) mNil)) (mCB fReprR (mCons (mLst (mCons (mV (.str "text")) (mCons (mVar 2) mNil))) mNil))))) (mRet (mV (.bl false))) mSkip) (mIf (mAnd (mTru (mBin oNe (mVar 4) (mLst mNil))) (mOr (mTru (mBin oNe (mBin oIx (mVar 3) (mV (.int 0))) (mV (.str "told")))) (mOr (mCmpT true "Rule" den_Rule____eq__ (mBin oIx (mVar 3) (mV (.int 1))) (mCall [false] den__law_made_k03 (mCons (mVar 4) mNil) [])) (mCmpT true "Rule" den_Rule____eq__ (mCMK "Rule" [false, false] den_Rule__read (mV (.glo "Rule")) (mCons (mVar 2) mNil) 1 [0]) (mCall [false] den__law_made_k03 (mCons (mVar 4) mNil) []))))) (mRet (mV (.bl false))) mSkip))))) = R
    simp_arith
    subst hR
    refine Ok.mono (Ok.loopI (fun e => ∃ x y z s1 s2 s3 s4, e = [.own (.lst [.int x, .int y, .int z]), s1, s2, s3, s4]) ⟨_, _, _, _, _, _, _, rfl⟩ ?_) ?_
    · rintro v e hv ⟨x, y, z, s1, s2, s3, s4, rfl⟩
      generalize hR : ((mSeq (mSet 2 (mCall [true, false] den__law_bent_k03 (mCons (mVar 0) (mCons (mCall [true, false] den__law_plan (mCons (mVar 0) (mCons (mBin oPow (mV (.int 10)) (mV (.int 12))) mNil)) []) mNil)) [])) (mSeq (mPar false [3, 4] (mCons (mErrA ["InvalidText", "InvalidNumber", "InvalidSetting"] (mCM "Rule" [false, false] den_Rule__read (mV (.glo "Rule")) (mCons (mVar 2) mNil))) (mCons (mCall [false] den__law_read (mCons (mVar 2) mNil) []) mNil))) (mSeq (mIf (mAnd (mTru (mBin oEq (mVar 4) (mLst mNil))) (mTru (mBin oNe (mCB fReprR (mCons (mVar 3) mNil)) (mCB fReprR (mCons (mLst (mCons (mV (.str "text")) (mCons (mVar 2) mNil))) mNil))))) (mRet (mV (.bl false))) mSkip) (mIf (mAnd (mTru (mBin oNe (mVar 4) (mLst mNil))) (mOr (mTru (mBin oNe (mBin oIx (mVar 3) (mV (.int 0))) (mV (.str "told")))) (mOr (mCmpT true "Rule" den_Rule____eq__ (mBin oIx (mVar 3) (mV (.int 1))) (mCall [false] den__law_made_k03 (mCons (mVar 4) mNil) [])) (mCmpT true "Rule" den_Rule____eq__ (mCMK "Rule" [false, false] den_Rule__read (mV (.glo "Rule")) (mCons (mVar 2) mNil) 1 [0]) (mCall [false] den__law_made_k03 (mCons (mVar 4) mNil) []))))) (mRet (mV (.bl false))) mSkip))))) = R
      simp_arith
      subst hR
      refine Ok.mono r_turn_k03 ?_
      rintro _ _ ⟨rfl, h⟩
      exact ⟨.inl rfl, h⟩
    · rintro _ _ ⟨rfl, _⟩
      exact ⟨rfl, trivial⟩
  · intro e1 _
    simp_arith
theorem r_law_k03 {ns : List Int} : Ok den_law_k03 [.dat (.lst (ns.map .int))] fun r _ => r = .dat (.bl true) := by
  generalize hN : (Val.lst (ns.map .int)) = N
  unfold den_law_k03
  rw [ok_d1]
  unfold b_law_k03
  generalize hR : ((mRet (mCB fAll (mCons (mComp [4] (mRng1 (mCB fMax2 (mCons (mV (.int 2)) (mCons (mCB fMin2 (mCons (mCB fLen (mCons (mVar 0) mNil)) (mCons (mV (.int 5)) mNil))) mNil)))) (gN 4) mYes (mCall [true] den__law_right_k03 (mCons (mCall [false, false] den__law_flask (mCons (mVar 0) (mCons (mVar 4) mNil)) []) mNil) [])) mNil)))) = R
  refine ok_same (m' := R) (e' := [.dat N, .dat (.lst [.str "step 1 next limit 1 pause 1", .str "step 30 near limit 120 pause 15", .str "step 1000000000000 last limit 1000000000000 pause 3"]), .own (.lst [.str "step 0 next limit 1 pause 1", .str "step 30 next limit 29 pause 1", .str "step 30 next limit 120 pause 0", .str "step 030 next limit 120 pause 1", .str "", .str "step 30 soon limit 120 pause 1", .str "step 30 next limit 120", .str "step 30  next limit 120 pause 1", .str "step 1 next limit -1 pause 1"]), .dat (.tup [.str "step 1 next limit 1 pause 1"]), .un]) (by kernel_rfl) ?_
  subst hR hN
  simp_arith
  obtain ⟨b1, b2⟩ := clamp (len := ((ns.map Val.int).length : Int)) (m := 5) (by decide)
  generalize (if (2 : Int) < (if 5 < ((ns.map Val.int).length : Int) then 5 else ((ns.map Val.int).length : Int)) then (if 5 < ((ns.map Val.int).length : Int) then 5 else ((ns.map Val.int).length : Int)) else 2) = n at b1 b2 ⊢
  refine ⟨⟨by omega, by omega⟩, ?_⟩
  refine all_right (by omega) (by omega) (fun i i1 i2 => ?_) ?_
  · simp_arith
    refine Ok.mono (r_flask i1) ?_
    rintro _ _ ⟨a, b, c, rfl, rfl⟩
    simp_arith
    refine Ok.mono r_right_k03 ?_
    rintro _ _ rfl
    simp_arith [↓back_t]
  · simp_arith
theorem good_k03 (ns : List Int) (_ : ns.length ≤ 63) : ∃ e', den_law_k03 [.dat (.lst (ns.map .int))] = .ok (.dat (.bl true)) e' := by
  obtain ⟨r, e', h, h2⟩ := ok_ex.mp (r_law_k03 (ns := ns))
  exact ⟨e', by rw [h, h2]⟩
end Pu.Q
open PySem PySem.W PySem.Calls PyProof.Rows
theorem Pu.Q.holds_of (good : ∀ ns : List Int, ns.length ≤ 63 → ∃ e', Pu.Q.den_law_k03 [.dat (.lst (ns.map .int))] = .ok (.dat (.bl true)) e') : PySem.Challenge.rw_discwarden_k03_whole_texts_of_rules.Holds := by
  w_on; o_law
  refine HandSHeadRun.head_any (r := OpenLaw.row PySem.Challenge.rw_discwarden_k03_whole_texts_of_rules) (q := view (OpenLaw.row PySem.Challenge.rw_discwarden_k03_whole_texts_of_rules).prog [46]) (H := Pu.Q.hk) (ob := Pu.Q.ob) (M := 20000) (loose := Pu.Q.loose) (d := HandSHeadRun.topDef (OpenLaw.row PySem.Challenge.rw_discwarden_k03_whole_texts_of_rules).prog 46) (kwd := []) Pu.Q.ob_eq
    (by kernel_rfl) (fun s => by kernel_rfl) Pu.Q.run (by kernel_rfl) (by kernel_rfl) (by kernel_rfl) (by rfl) (by first | assumption | decide +kernel) (by decide +kernel) ⟨rfl, rfl, rfl, rfl, rfl, by decide +kernel⟩ ?hw ?hc
  case hw => w_witness2
  case hc =>
    refine Pu.walk_goes (l := PySem.Challenge.rw_discwarden_k03_whole_texts_of_rules) (n := 63) (k := 10) (x := "_law_script") rfl (by decide) (by kernel_rfl) ⟨rfl, by decide, by decide⟩ ?F
    intro w mg fa h Y G hmg0
    obtain ⟨K, KX, c, te⟩ := Y
    have hmg : mg ("law" : PySem.Str) = some (.ref fa) := by
      have e : (HandSHeadRun.topDef (OpenLaw.row PySem.Challenge.rw_discwarden_k03_whole_texts_of_rules).prog 46).name = ("law" : PySem.Str) := by kernel_rfl
      rw [← e]
      exact hmg0
    have here := Pu.Q.law_at KX G c
    have e := hmg.symm.trans here
    cases e
    obtain ⟨fd, F⟩ := c.a.def_ Pu.Q.fnLaw (d := Pu.Q.d_law_k03) rfl
    have b := L2.FunD.bindsA (ps := ["_law_script"]) F fun _ _ _ _ _ _ us hl => match us, hl with | [_], _ => rfl
    refine ⟨K, fd, Pu.Q.den_law_k03, KX, c.nl, te, fun s v => b s [v] rfl, good, fun base _ _ tb => ?_⟩
    obtain ⟨fd2, F2, G2⟩ := (Pu.Q.all_ok (P := PySem.Challenge.rw_discwarden_k03_whole_texts_of_rules.prog) (w := w) (base := base) KX G c te.one tb).ex
    have same := Pu.funD_fd F F2
    subst same
    exact G2
theorem PySem.Challenge.cw_discwarden_k03_whole_texts_of_rules_holds : PySem.Challenge.rw_discwarden_k03_whole_texts_of_rules.Holds := by
  exact Pu.Q.holds_of Pu.Q.good_k03
