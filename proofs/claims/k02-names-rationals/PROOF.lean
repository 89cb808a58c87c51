import PyProof.Rows.All
import Wide.All
import OpenK.AllK
import Wide.FinOn
import HandS.ForMost
import HandS.IsInst
import HandS.Style
import HandS.Wide
import HandS.TupAny
import HandS.Defaults
import HandS.EndBits
import HandS.Flow
import HandS.RaiseMore
import KE.KxText
import PySem.Challenge.RW_thawfield_k02_names_and_rationals_of_any
set_option Elab.async false
set_option linter.all false
set_option maxRecDepth 100000
set_option maxHeartbeats 4000000
namespace DL
open PySem PySem.Spec PyProof.Rows L2

def kD : Key → PyData
  | .inl i => .int i
  | .inr x => .str x

mutual
inductive Rp (K : PySem.W.Frag) (B : Hp) : V → PyData → Prop
  | non : Rp K B .non .none
  | bl (b : Bool) : Rp K B (.bl b) (.bool b)
  | int (i : Int) : Rp K B (.int i) (.int i)
  | str (x : Str) : Rp K B (.str x) (.str x)
  | lst {a : Addr} {xs : List V} {ds : List PyData} : B a = some (.lst xs) → RpAll K B xs ds → Rp K B (.ref a) (.list ds)
  | tup {a : Addr} {xs : List V} {ds : List PyData} : SqT K B a xs → RpAll K B xs ds → Rp K B (.ref a) (.tuple ds)
  | dic {a : Addr} {kvs : List (Key × V)} {es : List (PyData × PyData)} : B a = some (.dK kvs) → RpKv K B kvs es → Rp K B (.ref a) (.dict es)
inductive RpAll (K : PySem.W.Frag) (B : Hp) : List V → List PyData → Prop
  | nil : RpAll K B [] []
  | cons {v : V} {vs : List V} {d : PyData} {ds : List PyData} : Rp K B v d → RpAll K B vs ds → RpAll K B (v :: vs) (d :: ds)
inductive RpKv (K : PySem.W.Frag) (B : Hp) : List (Key × V) → List (PyData × PyData) → Prop
  | nil : RpKv K B [] []
  | cons {k : Key} {v : V} {kvs : List (Key × V)} {d : PyData} {es : List (PyData × PyData)} : Rp K B v d → RpKv K B kvs es → RpKv K B ((k, v) :: kvs) ((kD k, d) :: es)
end

section
variable {K : PySem.W.Frag} {B B' H H' : Hp}
theorem rd_mono (e : Same B B') {a : Addr} {u : HO} (h : Rd B a u) : Rd B' a u := by
  rcases h with h | ⟨o, h⟩
  · exact .inl (e _ _ h)
  · exact .inr ⟨o, e _ _ h⟩
theorem sqT_mono (e : Same B B') {a : Addr} {xs : List V} (h : SqT K B a xs) : SqT K B' a xs := by
  rcases h with h | h
  · exact .inl (rd_mono e h)
  · exact .inr h
theorem sqL_mono (e : Same B B') {a : Addr} {xs : List V} (h : SqL K B a xs) : SqL K B' a xs := by
  rcases h with h | h
  · exact .inl (rd_mono e h)
  · exact .inr h
mutual
theorem Rp.mono (e : Same B B') : ∀ {v : V} {d : PyData}, Rp K B v d → Rp K B' v d
  | _, _, .non => .non
  | _, _, .bl b => .bl b
  | _, _, .int i => .int i
  | _, _, .str x => .str x
  | _, _, .lst h r => .lst (e _ _ h) (RpAll.mono e r)
  | _, _, .tup h r => .tup (sqT_mono e h) (RpAll.mono e r)
  | _, _, .dic h r => .dic (e _ _ h) (RpKv.mono e r)
theorem RpAll.mono (e : Same B B') : ∀ {vs : List V} {ds : List PyData}, RpAll K B vs ds → RpAll K B' vs ds
  | _, _, .nil => .nil
  | _, _, .cons h r => .cons (Rp.mono e h) (RpAll.mono e r)
theorem RpKv.mono (e : Same B B') : ∀ {kvs : List (Key × V)} {es : List (PyData × PyData)}, RpKv K B kvs es → RpKv K B' kvs es
  | _, _, .nil => .nil
  | _, _, .cons h r => .cons (Rp.mono e h) (RpKv.mono e r)
end
end

inductive Sl where
  | un
  | raw (v : V)
  | dat (d : PyData)
  | scr (ns : List Int)

def SlOk (K : PySem.W.Frag) (B : Hp) (r : Sl) (v : V) : Prop := match r with
  | .un => True
  | .raw u => v = u
  | .dat d => Rp K B v d
  | .scr ns => ∃ a, v = .ref a ∧ SqL K B a (ns.map V.int)
def SlO (K : PySem.W.Frag) (B : Hp) (r : Sl) (o : Option V) : Prop := match r with
  | .un => True
  | .raw u => o = some u
  | .dat d => ∃ v, o = some v ∧ Rp K B v d
  | .scr ns => ∃ a, o = some (.ref a) ∧ SqL K B a (ns.map V.int)

inductive Mo where
  | lst (rs : List Sl)
  | dK (kvs : List (Key × Sl))
  | dT (kvs : List (List Key × Sl))

abbrev MH := Addr → Option Mo
def setM (M : MH) (a : Addr) (m : Mo) : MH := fun b => if b = a then some m else M b
def delM (M : MH) (a : Addr) : MH := fun b => if b = a then none else M b
theorem setM_same {M : MH} {a : Addr} {m : Mo} : setM M a m a = some m := by unfold setM; rw [if_pos rfl]
theorem setM_ne {M : MH} {a b : Addr} {m : Mo} (h : b ≠ a) : setM M a m b = M b := by unfold setM; rw [if_neg h]
theorem setM_setM {M : MH} {a : Addr} {m n : Mo} : setM (setM M a m) a n = setM M a n := by
  funext b; unfold setM; split <;> rfl
theorem delM_setM {M : MH} {a : Addr} {m : Mo} (h : M a = none) : delM (setM M a m) a = M := by
  funext b; unfold delM setM
  split
  · rename_i e; rw [e, h]
  · rfl

def MoOk (K : PySem.W.Frag) (B : Hp) : Mo → HO → Prop
  | .lst rs, .lst vs => Paired (SlOk K B) rs vs
  | .dK ks, .dK vs => Paired (fun p q => p.1 = q.1 ∧ SlOk K B p.2 q.2) ks vs
  | .dT ks, .dT vs => Paired (fun p q => p.1 = q.1 ∧ SlOk K B p.2 q.2) ks vs
  | _, _ => False

section
variable {K : PySem.W.Frag} {B B' H H' : Hp}
theorem SlOk.mono (e : Same B B') {r : Sl} {v : V} (h : SlOk K B r v) : SlOk K B' r v := by
  cases r with
  | un => exact True.intro
  | raw u => exact h
  | dat d => exact Rp.mono e h
  | scr ns =>
    obtain ⟨a, h1, h2⟩ := h
    exact ⟨a, h1, sqL_mono e h2⟩
theorem SlO.mono (e : Same B B') {r : Sl} {v : Option V} (h : SlO K B r v) : SlO K B' r v := by
  cases r with
  | un => exact True.intro
  | raw u => exact h
  | dat d =>
    obtain ⟨v, h1, h2⟩ := h
    exact ⟨v, h1, Rp.mono e h2⟩
  | scr ns =>
    obtain ⟨a, h1, h2⟩ := h
    exact ⟨a, h1, sqL_mono e h2⟩
theorem SlO.of {r : Sl} {v : V} (h : SlOk K B r v) : SlO K B r (some v) := by
  cases r with
  | un => exact True.intro
  | raw u => exact congrArg some h
  | dat d => exact ⟨v, rfl, h⟩
  | scr ns =>
    obtain ⟨a, h1, h2⟩ := h
    exact ⟨a, by rw [h1], h2⟩
theorem MoOk.mono (e : Same B B') {m : Mo} {o : HO} (h : MoOk K B m o) : MoOk K B' m o := by
  cases m with
  | lst rs =>
    cases o with
    | lst vs => exact Paired.mapP h fun _ _ x => SlOk.mono e x
    | _ => exact h.elim
  | dK rs =>
    cases o with
    | dK vs => exact Paired.mapP h fun _ _ x => ⟨x.1, SlOk.mono e x.2⟩
    | _ => exact h.elim
  | dT rs =>
    cases o with
    | dT vs => exact Paired.mapP h fun _ _ x => ⟨x.1, SlOk.mono e x.2⟩
    | _ => exact h.elim
end

abbrev En (K : PySem.W.Frag) (B : Hp) (ρ : List Sl) (σ : L2.St) : Prop := Paired (SlO K B) ρ σ

section
variable {K : PySem.W.Frag} {B B' H H' : Hp}
theorem En.mono (e : Same B B') {ρ : List Sl} {σ : L2.St} (h : En K B ρ σ) : En K B' ρ σ := Paired.mapP h fun _ _ x => SlO.mono e x
theorem pr_get {α β : Type} {F : α → β → Prop} : ∀ {xs : List α} {ys : List β} {i : Nat} {x : α}, Paired F xs ys → xs[i]? = some x → ∃ y, ys[i]? = some y ∧ F x y
  | _, _, _, _, .nil, e => by simp at e
  | _, _, 0, _, .cons r _, e => by simp at e; subst e; exact ⟨_, rfl, r⟩
  | _, _, i + 1, x, .cons _ t, e => by
    obtain ⟨u, h1, h2⟩ := pr_get (i := i) (x := x) t (by simpa using e)
    exact ⟨u, by simpa using h1, h2⟩
theorem pr_set {α β : Type} {F : α → β → Prop} {x : α} {y : β} (h : F x y) : ∀ {xs : List α} {ys : List β} (i : Nat), Paired F xs ys → Paired F (xs.set i x) (ys.set i y)
  | _, _, _, .nil => .nil
  | _, _, 0, .cons _ t => .cons h t
  | _, _, i + 1, .cons r t => .cons r (pr_set h i t)
theorem pr_app {α β : Type} {F : α → β → Prop} : ∀ {xs zs : List α} {ys ws : List β}, Paired F xs ys → Paired F zs ws → Paired F (xs ++ zs) (ys ++ ws)
  | _, _, _, _, .nil, h => h
  | _, _, _, _, .cons r t, h => .cons r (pr_app t h)
theorem pr_len {α β : Type} {F : α → β → Prop} {xs : List α} {ys : List β} (h : Paired F xs ys) : xs.length = ys.length := Paired.length h
theorem En.dat {ρ : List Sl} {σ : L2.St} {i : Nat} {d : PyData} (h : En K B ρ σ) (e : ρ[i]? = some (.dat d)) : ∃ v, σ[i]? = some (some v) ∧ Rp K B v d := by
  obtain ⟨o, h1, v, h2, h3⟩ := pr_get h e
  exact ⟨v, by rw [h1, h2], h3⟩
theorem En.raw {ρ : List Sl} {σ : L2.St} {i : Nat} {v : V} (h : En K B ρ σ) (e : ρ[i]? = some (.raw v)) : σ[i]? = some (some v) := by
  obtain ⟨o, h1, h2⟩ := pr_get h e
  rw [h1, show o = some v from h2]
theorem En.scr {ρ : List Sl} {σ : L2.St} {i : Nat} {ns : List Int} (h : En K B ρ σ) (e : ρ[i]? = some (.scr ns)) : ∃ a, σ[i]? = some (some (.ref a)) ∧ SqL K B a (ns.map V.int) := by
  obtain ⟨o, h1, a, h2, h3⟩ := pr_get h e
  exact ⟨a, by rw [h1, h2], h3⟩
theorem En.set {ρ : List Sl} {σ : L2.St} {r : Sl} {v : V} (h : En K B ρ σ) (i : Nat) (hr : SlOk K B r v) : En K B (ρ.set i r) (σ.set i (some v)) := pr_set (SlO.of hr) i h
theorem En.wipe1 {ρ : List Sl} {σ : L2.St} (h : En K B ρ σ) (i : Nat) (o : Option V) : En K B (ρ.set i .un) (σ.set i o) := pr_set (F := SlO K B) (show SlO K B .un o from True.intro) i h
end

structure Wd (K : PySem.W.Frag) (M : MH) (B H : Hp) : Prop where
  ex : Same B H
  no : ∀ a m, M a = some m → B a = none
  mo : ∀ a m, M a = some m → ∃ o, H a = some o ∧ MoOk K B m o

section
variable {K : PySem.W.Frag} {B B' H H' : Hp} {M : MH} {p : Addr}
theorem same_new {o : HO} (h : H p = none) : Same H (upd H p o) := fun b x e => by
  rw [upd_ne (ne_of_none e h)]
  exact e
theorem Wd.freeB (w : Wd K M B H) (h : H p = none) : B p = none := Same.free w.ex h
theorem Wd.freeM (w : Wd K M B H) (h : H p = none) : M p = none := by
  cases e : M p with
  | none => rfl
  | some m =>
    obtain ⟨o, h1, _⟩ := w.mo p m e
    rw [h] at h1; cases h1
/-- a new object that stays as it is -/
theorem Wd.newB (w : Wd K M B H) {o : HO} (h : H p = none) : Wd K M (upd B p o) (upd H p o) := by
  have hb := w.freeB h
  have hm := w.freeM h
  refine ⟨fun a u e => ?_, fun a m e => ?_, fun a m e => ?_⟩
  · by_cases q : a = p
    · subst q; rw [upd_same] at e ⊢; exact e
    · rw [upd_ne q] at e ⊢; exact w.ex a u e
  · have q : a ≠ p := fun z => by rw [z, hm] at e; cases e
    rw [upd_ne q]; exact w.no a m e
  · have q : a ≠ p := fun z => by rw [z, hm] at e; cases e
    obtain ⟨u, h1, h2⟩ := w.mo a m e
    exact ⟨u, by rw [upd_ne q]; exact h1, h2.mono (same_new hb)⟩
/-- a new object that may change -/
theorem Wd.newM (w : Wd K M B H) {o : HO} {m : Mo} (h : H p = none) (hm : MoOk K B m o) : Wd K (setM M p m) B (upd H p o) := by
  have hb := w.freeB h
  refine ⟨fun a u e => ?_, fun a n e => ?_, fun a n e => ?_⟩
  · rw [upd_ne (ne_of_none e hb)]; exact w.ex a u e
  · by_cases q : a = p
    · rw [q]; exact hb
    · rw [setM_ne q] at e; exact w.no a n e
  · by_cases q : a = p
    · subst q; rw [setM_same] at e; cases e; exact ⟨o, upd_same, hm⟩
    · rw [setM_ne q] at e
      obtain ⟨u, h1, h2⟩ := w.mo a n e
      exact ⟨u, by rw [upd_ne q]; exact h1, h2⟩
/-- a change of such -/
theorem Wd.put (w : Wd K M B H) {o : HO} {m m0 : Mo} (h : M p = some m0) (hm : MoOk K B m o) : Wd K (setM M p m) B (upd H p o) := by
  have hb := w.no p m0 h
  refine ⟨fun a u e => ?_, fun a n e => ?_, fun a n e => ?_⟩
  · rw [upd_ne (ne_of_none e hb)]; exact w.ex a u e
  · by_cases q : a = p
    · rw [q]; exact hb
    · rw [setM_ne q] at e; exact w.no a n e
  · by_cases q : a = p
    · subst q; rw [setM_same] at e; cases e; exact ⟨o, upd_same, hm⟩
    · rw [setM_ne q] at e
      obtain ⟨u, h1, h2⟩ := w.mo a n e
      exact ⟨u, by rw [upd_ne q]; exact h1, h2⟩
/-- from now on it stays as it is -/
theorem Wd.freeze (w : Wd K M B H) {o : HO} {m : Mo} (h : M p = some m) (ho : H p = some o) : Wd K (delM M p) (upd B p o) H ∧ Same B (upd B p o) := by
  have hb := w.no p m h
  refine ⟨⟨fun a u e => ?_, fun a n e => ?_, fun a n e => ?_⟩, same_new hb⟩
  · by_cases q : a = p
    · subst q; rw [upd_same] at e; rw [← e]; exact ho
    · rw [upd_ne q] at e; exact w.ex a u e
  · have q : a ≠ p := fun z => by rw [z] at e; unfold delM at e; rw [if_pos rfl] at e; cases e
    have e' : M a = some n := by unfold delM at e; rw [if_neg q] at e; exact e
    rw [upd_ne q]; exact w.no a n e'
  · have q : a ≠ p := fun z => by rw [z] at e; unfold delM at e; rw [if_pos rfl] at e; cases e
    have e' : M a = some n := by unfold delM at e; rw [if_neg q] at e; exact e
    obtain ⟨u, h1, h2⟩ := w.mo a n e'
    exact ⟨u, h1, h2.mono (same_new hb)⟩
end
end DL
set_option Elab.async false
set_option linter.all false
set_option maxRecDepth 100000
set_option maxHeartbeats 4000000
namespace DL
open PySem PySem.Spec PyProof.Rows L2

/-! judgements at the level of data -/
def Ev (K : PySem.W.Frag) (te : TE) (ρ : List Sl) (M : MH) (R : Sl → MH → Prop) : Prop :=
  ∀ B σ H, En K B ρ σ → Wd K M B H → ∀ Q : VK, (∀ B' v H' r M', Same B B' → Wd K M' B' H' → SlOk K B' r v → R r M' → Q v H') → te σ H Q
def EvT (K : PySem.W.Frag) (tt : TT) (ρ : List Sl) (M : MH) (R : Bool → MH → Prop) : Prop :=
  ∀ B σ H, En K B ρ σ → Wd K M B H → ∀ Q : Bool → Hp → Prop, (∀ B' b H' M', Same B B' → Wd K M' B' H' → R b M' → Q b H') → tt σ H Q
def EvA (K : PySem.W.Frag) (ta : TA) (ρ : List Sl) (M : MH) (R : List Sl → MH → Prop) : Prop :=
  ∀ B σ H, En K B ρ σ → Wd K M B H → ∀ Q : List V → Hp → Prop, (∀ B' vs H' rs M', Same B B' → Wd K M' B' H' → Paired (SlOk K B') rs vs → R rs M' → Q vs H') → ta σ H Q
def EvO (K : PySem.W.Frag) (to : TO) (ρ : List Sl) (M : MH) (R : Option Int → MH → Prop) : Prop :=
  ∀ B σ H, En K B ρ σ → Wd K M B H → ∀ Q : Option Int → Hp → Prop, (∀ B' i H' M', Same B B' → Wd K M' B' H' → R i M' → Q i H') → to σ H Q
/-- an operator of two, of one, a built-in on values -/
def RD (K : PySem.W.Frag) (r : R2) (x y : Sl) (M : MH) (R : Sl → MH → Prop) : Prop :=
  ∀ B vx vy H, SlOk K B x vx → SlOk K B y vy → Wd K M B H → ∀ Q : VK, (∀ B' v H' r M', Same B B' → Wd K M' B' H' → SlOk K B' r v → R r M' → Q v H') → r vx vy H Q
def RU (K : PySem.W.Frag) (r : V → Hp → VK → Prop) (x : Sl) (M : MH) (R : Sl → MH → Prop) : Prop :=
  ∀ B vx H, SlOk K B x vx → Wd K M B H → ∀ Q : VK, (∀ B' v H' r M', Same B B' → Wd K M' B' H' → SlOk K B' r v → R r M' → Q v H') → r vx H Q
def RC (K : PySem.W.Frag) (r : List V → Hp → VK → Prop) (xs : List Sl) (M : MH) (R : Sl → MH → Prop) : Prop :=
  ∀ B vs H, Paired (SlOk K B) xs vs → Wd K M B H → ∀ Q : VK, (∀ B' v H' r M', Same B B' → Wd K M' B' H' → SlOk K B' r v → R r M' → Q v H') → r vs H Q
def Gd (K : PySem.W.Frag) (g : TG) (r : Sl) (ρ : List Sl) (M : MH) (R : List Sl → MH → Prop) : Prop :=
  ∀ B v σ H, SlOk K B r v → En K B ρ σ → Wd K M B H → ∀ Q : L2.St → Hp → Prop, (∀ B' σ' H' ρ' M', Same B B' → En K B' ρ' σ' → Wd K M' B' H' → R ρ' M' → Q σ' H') → g v σ H Q
def Gds (K : PySem.W.Frag) (g : TGs) (rs : List Sl) (ρ : List Sl) (M : MH) (R : List Sl → MH → Prop) : Prop :=
  ∀ B vs σ H, Paired (SlOk K B) rs vs → En K B ρ σ → Wd K M B H → ∀ Q : L2.St → Hp → Prop, (∀ B' σ' H' ρ' M', Same B B' → En K B' ρ' σ' → Wd K M' B' H' → R ρ' M' → Q σ' H') → g vs σ H Q
structure DE where
  nx : List Sl → MH → Prop
  rt : Sl → MH → Prop
  bk : List Sl → MH → Prop := fun _ _ => False
  ct : List Sl → MH → Prop := fun _ _ => False
structure Sat (K : PySem.W.Frag) (B : Hp) (D : DE) (Dc : Ends) : Prop where
  nx : ∀ B' σ H ρ M, Same B B' → En K B' ρ σ → Wd K M B' H → D.nx ρ M → Dc.nx σ H
  rt : ∀ B' v H r M, Same B B' → Wd K M B' H → SlOk K B' r v → D.rt r M → Dc.rt v H
  bk : ∀ B' σ H ρ M, Same B B' → En K B' ρ σ → Wd K M B' H → D.bk ρ M → Dc.bk σ H
  ct : ∀ B' σ H ρ M, Same B B' → En K B' ρ σ → Wd K M B' H → D.ct ρ M → Dc.ct σ H
def Xs (K : PySem.W.Frag) (ts : TS) (ρ : List Sl) (M : MH) (D : DE) : Prop :=
  ∀ B σ H, En K B ρ σ → Wd K M B H → ∀ Dc : Ends, Sat K B D Dc → ts Dc σ H

section
variable {K : PySem.W.Frag} {B B' H H' : Hp} {M : MH} {ρ : List Sl} {R : Sl → MH → Prop} {te ta tb tc : TE} {tt tu : TT} {x y z : Sl} {D : DE}
theorem Sat.mono {Dc : Ends} (e : Same B B') (s : Sat K B D Dc) : Sat K B' D Dc :=
  ⟨fun B1 σ H ρ M a => s.nx B1 σ H ρ M (e.trans a), fun B1 v H r M a => s.rt B1 v H r M (e.trans a), fun B1 σ H ρ M a => s.bk B1 σ H ρ M (e.trans a), fun B1 σ H ρ M a => s.ct B1 σ H ρ M (e.trans a)⟩
theorem Same.r (B : Hp) : Same B B := Same.refl B

/-! names and constants -/
theorem ev_dat {i : Nat} {d : PyData} (h : ρ[i]? = some (.dat d)) (q : R (.dat d) M) : Ev K (tVar i) ρ M R := fun B σ H he hw Q k => by
  obtain ⟨v, h1, h2⟩ := he.dat h
  exact ⟨v, h1, k B v H (.dat d) M (Same.r B) hw h2 q⟩
theorem ev_raw {i : Nat} {v : V} (h : ρ[i]? = some (.raw v)) (q : R (.raw v) M) : Ev K (tVar i) ρ M R := fun B σ H he hw Q k =>
  ⟨v, he.raw h, k B v H (.raw v) M (Same.r B) hw rfl q⟩
theorem ev_scr {i : Nat} {ns : List Int} (h : ρ[i]? = some (.scr ns)) (q : R (.scr ns) M) : Ev K (tVar i) ρ M R := fun B σ H he hw Q k => by
  obtain ⟨a, h1, h2⟩ := he.scr h
  exact ⟨_, h1, k B _ H (.scr ns) M (Same.r B) hw ⟨a, rfl, h2⟩ q⟩
theorem ev_int {i : Int} (q : R (.dat (.int i)) M) : Ev K (tC (.int i)) ρ M R := fun B σ H he hw Q k => k B _ H (.dat (.int i)) M (Same.r B) hw (Rp.int i) q
theorem ev_bl {i : Bool} (q : R (.dat (.bool i)) M) : Ev K (tC (.bl i)) ρ M R := fun B σ H he hw Q k => k B _ H (.dat (.bool i)) M (Same.r B) hw (Rp.bl i) q
theorem ev_str {i : Str} (q : R (.dat (.str i)) M) : Ev K (tC (.str i)) ρ M R := fun B σ H he hw Q k => k B _ H (.dat (.str i)) M (Same.r B) hw (Rp.str i) q
theorem ev_non (q : R (.dat .none) M) : Ev K (tC .non) ρ M R := fun B σ H he hw Q k => k B _ H (.dat .none) M (Same.r B) hw Rp.non q
theorem ev_ty {n : String} (q : R (.raw (.ty n)) M) : Ev K (tC (.ty n)) ρ M R := fun B σ H he hw Q k => k B _ H (.raw (.ty n)) M (Same.r B) hw rfl q
theorem ev_ref {a : Addr} (q : R (.raw (.ref a)) M) : Ev K (tC (.ref a)) ρ M R := fun B σ H he hw Q k => k B _ H (.raw (.ref a)) M (Same.r B) hw rfl q
/-- a written tuple of the module's own -/
theorem ev_kt {a : Addr} {xs : List V} {ds : List PyData} (h : ∀ H, SqT K H a xs) (hr : ∀ B, RpAll K B xs ds) (q : R (.dat (.tuple ds)) M) : Ev K (tC (.ref a)) ρ M R := fun B σ H he hw Q k => k B _ H (.dat (.tuple ds)) M (Same.r B) hw (.tup (h B) (hr B)) q

/-! operators -/
theorem ev_op {r : R2} (h : Ev K ta ρ M fun x M1 => Ev K tb ρ M1 fun y M2 => RD K r x y M2 R) : Ev K (tOp r ta tb) ρ M R := fun B σ H he hw Q k =>
  h B σ H he hw _ fun B1 v1 H1 r1 M1 e1 w1 s1 h1 => h1 B1 σ H1 (he.mono e1) w1 _ fun B2 v2 H2 r2 M2 e2 w2 s2 h2 =>
    h2 B2 v1 v2 H2 (s1.mono e2) s2 w2 Q fun B3 v H3 r M3 e3 w3 s3 q => k B3 v H3 r M3 ((e1.trans e2).trans e3) w3 s3 q
theorem ev_un {r : V → Hp → VK → Prop} (h : Ev K ta ρ M fun x M1 => RU K r x M1 R) : Ev K (tUn r ta) ρ M R := fun B σ H he hw Q k =>
  h B σ H he hw _ fun B1 v1 H1 r1 M1 e1 w1 s1 h1 => h1 B1 v1 H1 s1 w1 Q fun B3 v H3 r M3 e3 w3 s3 q => k B3 v H3 r M3 (e1.trans e3) w3 s3 q
theorem ev_cb {r : List V → Hp → VK → Prop} {t : TA} (h : EvA K t ρ M fun xs M1 => RC K r xs M1 R) : Ev K (tCB r t) ρ M R := fun B σ H he hw Q k =>
  h B σ H he hw _ fun B1 v1 H1 r1 M1 e1 w1 s1 h1 => h1 B1 v1 H1 s1 w1 Q fun B3 v H3 r M3 e3 w3 s3 q => k B3 v H3 r M3 (e1.trans e3) w3 s3 q
theorem ea_nil {R : List Sl → MH → Prop} (q : R [] M) : EvA K tNil ρ M R := fun B σ H he hw Q k => k B [] H [] M (Same.r B) hw .nil q
theorem ea_cons {t : TA} {R : List Sl → MH → Prop} (h : Ev K te ρ M fun x M1 => EvA K t ρ M1 fun xs M2 => R (x :: xs) M2) : EvA K (tCons te t) ρ M R := fun B σ H he hw Q k =>
  h B σ H he hw _ fun B1 v1 H1 r1 M1 e1 w1 s1 h1 => h1 B1 σ H1 (he.mono e1) w1 _ fun B2 vs H2 rs M2 e2 w2 s2 q =>
    k B2 (v1 :: vs) H2 (r1 :: rs) M2 (e1.trans e2) w2 (.cons (s1.mono e2) s2) q
theorem eo_none {R : Option Int → MH → Prop} (q : R none M) : EvO K tNoPart ρ M R := fun B σ H he hw Q k => k B none H M (Same.r B) hw q
theorem eo_some {R : Option Int → MH → Prop} (h : Ev K te ρ M fun x M1 => ∃ i, x = .dat (.int i) ∧ R (some i) M1) : EvO K (tPart te) ρ M R := fun B σ H he hw Q k =>
  h B σ H he hw _ fun B1 v1 H1 r1 M1 e1 w1 s1 ⟨i, ex, q⟩ => by
    subst ex
    cases s1
    exact ⟨i, rfl, k B1 (some i) H1 M1 e1 w1 q⟩

/-! data: all of one list -/
def dats (ds : List PyData) : List Sl := ds.map .dat
theorem rpAll_of : ∀ {ds : List PyData} {vs : List V}, Paired (SlOk K B) (dats ds) vs → RpAll K B vs ds
  | [], _, .nil => .nil
  | _ :: ds, _, .cons h t => .cons h (rpAll_of (ds := ds) t)
theorem of_rpAll : ∀ {vs : List V} {ds : List PyData}, RpAll K B vs ds → Paired (SlOk K B) (dats ds) vs
  | _, _, .nil => .nil
  | _, _, .cons h t => .cons h (of_rpAll t)
theorem RpAll.length : ∀ {vs : List V} {ds : List PyData}, RpAll K B vs ds → vs.length = ds.length
  | _, _, .nil => rfl
  | _, _, .cons _ t => congrArg Nat.succ (RpAll.length t)
theorem RpAll.get : ∀ {vs : List V} {ds : List PyData} {i : Nat} {d : PyData}, RpAll K B vs ds → ds[i]? = some d → ∃ v, vs[i]? = some v ∧ Rp K B v d
  | _, _, _, _, .nil, e => by simp at e
  | _, _, 0, _, .cons h _, e => by simp at e; subst e; exact ⟨_, rfl, h⟩
  | _, _, i + 1, d, .cons _ t, e => by
    obtain ⟨u, h1, h2⟩ := RpAll.get (i := i) (d := d) t (by simpa using e)
    exact ⟨u, by simpa using h1, h2⟩
theorem RpAll.get' : ∀ {vs : List V} {ds : List PyData} {i : Nat} {v : V}, RpAll K B vs ds → vs[i]? = some v → ∃ d, ds[i]? = some d ∧ Rp K B v d
  | _, _, _, _, .nil, e => by simp at e
  | _, _, 0, _, .cons h _, e => by simp at e; subst e; exact ⟨_, rfl, h⟩
  | _, _, i + 1, d, .cons _ t, e => by
    obtain ⟨u, h1, h2⟩ := RpAll.get' (i := i) (v := d) t (by simpa using e)
    exact ⟨u, by simpa using h1, h2⟩
theorem RpAll.app : ∀ {vs ws : List V} {ds es : List PyData}, RpAll K B vs ds → RpAll K B ws es → RpAll K B (vs ++ ws) (ds ++ es)
  | _, _, _, _, .nil, s => s
  | _, _, _, _, .cons h t, s => .cons h (RpAll.app t s)
theorem RpAll.take : ∀ {vs : List V} {ds : List PyData} (n : Nat), RpAll K B vs ds → RpAll K B (vs.take n) (ds.take n)
  | _, _, 0, _ => .nil
  | _, _, _ + 1, .nil => .nil
  | _, _, n + 1, .cons h t => .cons h (RpAll.take n t)
theorem RpAll.drop : ∀ {vs : List V} {ds : List PyData} (n : Nat), RpAll K B vs ds → RpAll K B (vs.drop n) (ds.drop n)
  | _, _, 0, h => h
  | _, _, _ + 1, .nil => .nil
  | _, _, n + 1, .cons _ t => RpAll.drop n t
theorem RpAll.rev : ∀ {vs : List V} {ds : List PyData}, RpAll K B vs ds → RpAll K B vs.reverse ds.reverse
  | _, _, .nil => .nil
  | _, _, .cons h t => by
    rw [List.reverse_cons, List.reverse_cons]
    exact RpAll.app (RpAll.rev t) (.cons h .nil)
theorem rpAll_ints : ∀ ns : List Int, RpAll K B (ns.map V.int) (ns.map PyData.int)
  | [] => .nil
  | n :: ns => .cons (.int n) (rpAll_ints ns)
theorem ints_of : ∀ {ns : List Int} {vs : List V}, RpAll K B vs (ns.map PyData.int) → vs = ns.map V.int
  | [], _, .nil => rfl
  | n :: ns, _, .cons h t => by
    cases h
    rw [ints_of t]; rfl
theorem rpAll_bools : ∀ ns : List Bool, RpAll K B (ns.map V.bl) (ns.map PyData.bool)
  | [] => .nil
  | n :: ns => .cons (.bl n) (rpAll_bools ns)
theorem bools_of : ∀ {ns : List Bool} {vs : List V}, RpAll K B vs (ns.map PyData.bool) → vs = ns.map V.bl
  | [], _, .nil => rfl
  | n :: ns, _, .cons h t => by
    cases h
    rw [bools_of t]; rfl
theorem strs_of : ∀ {ns : List Str} {vs : List V}, RpAll K B vs (ns.map PyData.str) → vs = ns.map V.str
  | [], _, .nil => rfl
  | n :: ns, _, .cons h t => by
    cases h
    rw [strs_of t]; rfl

/-- a written tuple, a written list -/
theorem ev_tup {t : TA} (h : EvA K t ρ M fun xs M1 => ∃ ds, xs = dats ds ∧ ds.length ≤ sizeLine ∧ R (.dat (.tuple ds)) M1) : Ev K (tTup t) ρ M R := fun B σ H he hw Q k =>
  h B σ H he hw _ fun B1 vs H1 rs M1 e1 w1 s1 ⟨ds, ex, hz, q⟩ => by
    subst ex
    have ha := rpAll_of s1
    refine ⟨by rw [ha.length]; exact hz, fun p hp => ?_⟩
    have s2 : Same B1 (upd B1 p (.tup vs)) := same_new (w1.freeB hp)
    exact k _ _ _ (.dat (.tuple ds)) M1 (e1.trans s2) (w1.newB hp) (.tup (SqT.of upd_same) (ha.mono s2)) q
theorem ev_lst {t : TA} (h : EvA K t ρ M fun xs M1 => ∃ ds, xs = dats ds ∧ ds.length ≤ sizeLine ∧ R (.dat (.list ds)) M1) : Ev K (tLst t) ρ M R := fun B σ H he hw Q k =>
  h B σ H he hw _ fun B1 vs H1 rs M1 e1 w1 s1 ⟨ds, ex, hz, q⟩ => by
    subst ex
    have ha := rpAll_of s1
    refine ⟨by rw [ha.length]; exact hz, fun p hp => ?_⟩
    have s2 : Same B1 (upd B1 p (.lst vs)) := same_new (w1.freeB hp)
    exact k _ _ _ (.dat (.list ds)) M1 (e1.trans s2) (w1.newB hp) (.lst upd_same (ha.mono s2)) q
/-- a written list that will change -/
theorem ev_lstM {t : TA} (h : EvA K t ρ M fun xs M1 => xs.length ≤ sizeLine ∧ ∀ p, M1 p = none → R (.raw (.ref p)) (setM M1 p (.lst xs))) : Ev K (tLst t) ρ M R := fun B σ H he hw Q k =>
  h B σ H he hw _ fun B1 vs H1 rs M1 e1 w1 s1 ⟨hz, q⟩ => by
    refine ⟨by rw [← pr_len s1]; exact hz, fun p hp => ?_⟩
    exact k _ _ _ (.raw (.ref p)) _ e1 (w1.newM hp (m := .lst rs) s1) rfl (q p (w1.freeM hp))

/-! tests -/
theorem et_test {R : Bool → MH → Prop} (h : Ev K te ρ M fun x M1 => ∃ b, x = .dat (.bool b) ∧ R b M1) : EvT K (tTest te) ρ M R := fun B σ H he hw Q k =>
  h B σ H he hw _ fun B1 v1 H1 r1 M1 e1 w1 s1 ⟨b, ex, q⟩ => by
    subst ex; cases s1
    exact ⟨b, rfl, k B1 b H1 M1 e1 w1 q⟩
theorem et_B {R : Bool → MH → Prop} (h : Ev K te ρ M fun x M1 => ∃ b, x = .dat (.bool b) ∧ R b M1) : EvT K (tB te) ρ M R := fun B σ H he hw Q k =>
  h B σ H he hw _ fun B1 v1 H1 r1 M1 e1 w1 s1 ⟨b, ex, q⟩ => by
    subst ex; cases s1
    exact ⟨b, rfl, k B1 b H1 M1 e1 w1 q⟩
theorem et_not {R : Bool → MH → Prop} (h : EvT K tt ρ M fun b M1 => R (!b) M1) : EvT K (tNot tt) ρ M R := fun B σ H he hw Q k =>
  h B σ H he hw _ fun B1 b H1 M1 e1 w1 q => k B1 _ H1 M1 e1 w1 q
theorem et_and {R : Bool → MH → Prop} (h : EvT K tt ρ M fun b M1 => (b = true → EvT K tu ρ M1 R) ∧ (b = false → R false M1)) : EvT K (tAnd tt tu) ρ M R := fun B σ H he hw Q k =>
  h B σ H he hw _ fun B1 b H1 M1 e1 w1 q => by
    cases b with
    | true =>
      show tu σ H1 Q
      exact q.1 rfl B1 σ H1 (he.mono e1) w1 Q fun B2 b2 H2 M2 e2 w2 q2 => k B2 b2 H2 M2 (e1.trans e2) w2 q2
    | false =>
      show Q false H1
      exact k B1 false H1 M1 e1 w1 (q.2 rfl)
theorem et_or {R : Bool → MH → Prop} (h : EvT K tt ρ M fun b M1 => (b = false → EvT K tu ρ M1 R) ∧ (b = true → R true M1)) : EvT K (tOr tt tu) ρ M R := fun B σ H he hw Q k =>
  h B σ H he hw _ fun B1 b H1 M1 e1 w1 q => by
    cases b with
    | false =>
      show tu σ H1 Q
      exact q.1 rfl B1 σ H1 (he.mono e1) w1 Q fun B2 b2 H2 M2 e2 w2 q2 => k B2 b2 H2 M2 (e1.trans e2) w2 q2
    | true =>
      show Q true H1
      exact k B1 true H1 M1 e1 w1 (q.2 rfl)
theorem ev_andV (h : Ev K ta ρ M fun x M1 => ∃ b, x = .dat (.bool b) ∧ (b = true → Ev K tb ρ M1 R) ∧ (b = false → R (.dat (.bool false)) M1)) : Ev K (tAndV ta tb) ρ M R := fun B σ H he hw Q k =>
  h B σ H he hw _ fun B1 v1 H1 r1 M1 e1 w1 s1 ⟨b, ex, q⟩ => by
    subst ex; cases s1
    refine ⟨b, rfl, ?_⟩
    cases b with
    | true =>
      show tb σ H1 Q
      exact q.1 rfl B1 σ H1 (he.mono e1) w1 Q fun B2 v2 H2 r2 M2 e2 w2 s2 q2 => k B2 v2 H2 r2 M2 (e1.trans e2) w2 s2 q2
    | false =>
      show Q (.bl false) H1
      exact k B1 _ H1 (.dat (.bool false)) M1 e1 w1 (Rp.bl false) (q.2 rfl)
theorem ev_orV (h : Ev K ta ρ M fun x M1 => ∃ b, x = .dat (.bool b) ∧ (b = false → Ev K tb ρ M1 R) ∧ (b = true → R (.dat (.bool true)) M1)) : Ev K (tOrV ta tb) ρ M R := fun B σ H he hw Q k =>
  h B σ H he hw _ fun B1 v1 H1 r1 M1 e1 w1 s1 ⟨b, ex, q⟩ => by
    subst ex; cases s1
    refine ⟨b, rfl, ?_⟩
    cases b with
    | false =>
      show tb σ H1 Q
      exact q.1 rfl B1 σ H1 (he.mono e1) w1 Q fun B2 v2 H2 r2 M2 e2 w2 s2 q2 => k B2 v2 H2 r2 M2 (e1.trans e2) w2 s2 q2
    | true =>
      show Q (.bl true) H1
      exact k B1 _ H1 (.dat (.bool true)) M1 e1 w1 (Rp.bl true) (q.2 rfl)
theorem ev_notV (h : Ev K ta ρ M fun x M1 => ∃ b, x = .dat (.bool b) ∧ R (.dat (.bool (!b))) M1) : Ev K (tNotV ta) ρ M R := fun B σ H he hw Q k =>
  h B σ H he hw _ fun B1 v1 H1 r1 M1 e1 w1 s1 ⟨b, ex, q⟩ => by
    subst ex; cases s1
    exact ⟨b, rfl, k B1 _ H1 (.dat (.bool (!b))) M1 e1 w1 (Rp.bl _) q⟩
theorem ev_if (h : EvT K tt ρ M fun b M1 => (b = true → Ev K ta ρ M1 R) ∧ (b = false → Ev K tb ρ M1 R)) : Ev K (tIf tt ta tb) ρ M R := fun B σ H he hw Q k =>
  h B σ H he hw _ fun B1 b H1 M1 e1 w1 q => by
    cases b with
    | true =>
      show ta σ H1 Q
      exact q.1 rfl B1 σ H1 (he.mono e1) w1 Q fun B2 v2 H2 r2 M2 e2 w2 s2 q2 => k B2 v2 H2 r2 M2 (e1.trans e2) w2 s2 q2
    | false =>
      show tb σ H1 Q
      exact q.2 rfl B1 σ H1 (he.mono e1) w1 Q fun B2 v2 H2 r2 M2 e2 w2 s2 q2 => k B2 v2 H2 r2 M2 (e1.trans e2) w2 s2 q2
theorem ev_chain {r r' : R2} (h : Ev K ta ρ M fun x M1 => Ev K tb ρ M1 fun y M2 => RD K r x y M2 fun z M3 => ∃ b, z = .dat (.bool b) ∧ (b = true → Ev K tc ρ M3 fun w M4 => RD K r' y w M4 R) ∧ (b = false → R (.dat (.bool false)) M3)) : Ev K (tChain r r' ta tb tc) ρ M R := fun B σ H he hw Q k =>
  h B σ H he hw _ fun B1 v1 H1 r1 M1 e1 w1 s1 h1 => h1 B1 σ H1 (he.mono e1) w1 _ fun B2 v2 H2 r2 M2 e2 w2 s2 h2 =>
    h2 B2 v1 v2 H2 (s1.mono e2) s2 w2 _ fun B3 v3 H3 r3 M3 e3 w3 s3 ⟨b, ex, q1, q2⟩ => by
      subst ex; cases s3
      refine ⟨b, rfl, ?_⟩
      cases b with
      | true =>
        rw [if_pos rfl]
        exact q1 rfl B3 σ H3 (he.mono ((e1.trans e2).trans e3)) w3 _ fun B4 v4 H4 r4 M4 e4 w4 s4 h4 =>
          h4 B4 v2 v4 H4 (s2.mono (e3.trans e4)) s4 w4 Q fun B5 v H5 r M5 e5 w5 s5 q => k B5 v H5 r M5 ((((e1.trans e2).trans e3).trans e4).trans e5) w5 s5 q
      | false =>
        rw [if_neg Bool.false_ne_true]
        exact k B3 _ H3 (.dat (.bool false)) M3 ((e1.trans e2).trans e3) w3 (Rp.bl false) (q2 rfl)
end
end DL
set_option Elab.async false
set_option linter.all false
set_option maxRecDepth 100000
set_option maxHeartbeats 4000000
namespace DL
open PySem PySem.Spec PyProof.Rows L2

/-! ### defs: what stands around the call is told whole -/
structure FnA (P : Program) (w : World) (K : PySem.W.Frag) (mg : Str → Option Value) (base : Heap) (CX : CXT) (A : Around) (f : Addr) (fd : FuncData) (ps : List Str) (sp : Sp) : Prop where
  len : ∀ vs H Q E, sp vs H Q E → vs.length = ps.length
  run : ∀ (outer : List Env) (s : Shared) (H : Hp) (args : Args) (us : List Value) (vs : List V) (Q : VK) (E : XK), Env0 P w K mg base A outer s H → BindsTo s fd args (ps.zip us) → Vals vs us → sp vs H Q E →
    codeAny (model P w) A (.call (.ref f) args) (CR CX outer P w H s Q E) s
/-- room, and no repr is under way -/
structure Rm (k : Nat) (A : Around) : Prop where
  r : Room k A
  g : A.guards = some []
theorem Rm.mono {j k : Nat} {A : Around} (r : Rm k A) (h : j ≤ k) : Rm j A := ⟨r.r.mono h, r.g⟩
theorem Rm.deeper {k : Nat} {A : Around} (r : Rm (k + 1) A) (env : Env) : Rm k (A.deeper env) := ⟨r.r.deeper env, r.g⟩
theorem Rm.units0 {k : Nat} {A : Around} (r : Rm k A) : A.units + 64 < cLine := by have := r.r.un; omega
theorem Rm.u1 {k : Nat} {A : Around} (r : Rm k A) : A.units + 1 < cLine := by have := r.r.un; omega
def FnG (P : Program) (w : World) (K : PySem.W.Frag) (mg : Str → Option Value) (base : Heap) (CX : CXT) (k : Nat) (f : Addr) (fd : FuncData) (ps : List Str) (sp : Sp) : Prop :=
  ∀ A : Around, Rm k A → FnA P w K mg base CX A f fd ps sp
theorem FnG.mono {P : Program} {w : World} {K : PySem.W.Frag} {mg : Str → Option Value} {base : Heap} {CX : CXT} {j k : Nat} {f : Addr} {fd : FuncData} {ps : List Str} {sp : Sp}
    (F : FnG P w K mg base CX j f fd ps sp) (h : j ≤ k) : FnG P w K mg base CX k f fd ps sp := fun A r => F A (r.mono h)

section
variable {P : Program} {w : World} {K : PySem.W.Frag} {mg : Str → Option Value} {base : Heap} {CX : CXT} {k : Nat} {f : Addr} {name qual : Str} {params : Arguments} {body : List Stmt} {scope : Scope}
/-- a def by its body -/
theorem fng_of {dV kV doc pm cdv ct oc : Value} {an od : Option Addr} {osl : Array (Option Value)} {N ps : List Str} {sp : Sp}
    (lk : K.lookup f = some ⟨oc, od, .func (PySem.W.fnOf name qual params body scope dV kV doc pm an cdv ct), osl⟩) (hcd : PySem.W.codeIn K cdv qual = true) (S : FnScope N ps scope)
    (len : ∀ vs H Q E, sp vs H Q E → vs.length = ps.length)
    (hb : ∀ (A : Around) (outer : List Env) (s : Shared) (H : Hp) (vs : List V) (Q : VK) (E : XK), Rm k (A.deeper (envOfC qual scope s.heap.objs.size f cdv)) → sp vs H Q E →
      ∃ t, PSs (cxOf CX P w K mg base N qual scope f cdv A outer s H E) body t ∧ t { nx := fun _ H' => Q .non H', rt := Q } (L2.start N vs) H) :
    FnG P w K mg base CX (k + 1) f (PySem.W.fnOf name qual params body scope dV kV doc pm an cdv ct) ps sp := by
  intro A hr
  refine ⟨len, fun outer s H args us vs Q E e0 hbi r hsp => ?_⟩
  have hl := len _ _ _ _ hsp
  have KX : K.In s.heap := e0.mod.kin.keeps fun b o e => (e0.bs b o e).1
  have lim : s.heap.NoLimit := e0.mod.nolimit.keeps fun b o e => (e0.bs b o e).1
  have hkind : ∀ y ∈ ps.zip us, scope.names.lookup y.1 = some .local ∨
      (scope.names.lookup y.1 = some .cell ∧ ((cellsFrom (s.heap.objs.size + 1) scope.names []).lookup y.1).isSome = true) := by
    rintro ⟨n, v⟩ hy
    rcases S.par n (List.of_mem_zip hy).1 with q | q
    · exact .inl q
    · exact .inr ⟨q, PySem.W.cellsFrom_some _ _ _ (.inl q)⟩
  have hdep : A.depth + 1 < recursionLimit := by have := hr.r.dp; omega
  refine codeAny_call_function (by first | exact hr.r.depth | exact hdep) (KX _ _ lk) rfl S.co S.gen rfl (PySem.W.codeRec_of KX hcd) (hbi _ _ _ _ ?_)
  refine wpAny_newFunctionEnv_cells S.kind hkind fun env he s1 x => ?_
  subst he
  refine ⟨lim.keeps x.toInCall.keep, codeAny_func ?_⟩
  obtain ⟨t, ht, hq⟩ := hb A outer s H vs Q E (hr.deeper _) hsp
  have I := inv_start (CX := CX) (N := N) (E := E) S hr.r.hd e0 hl r x
  refine wpAny_mono (ht.run [] s1 (L2.start N vs) H _ I hq) (fun fl s' hs => ?_) fun e s' hs => hs
  have fin : ∀ {σ' : L2.St} {H' : Hp} {v : V} {u : Value},
      Inv (cxOf CX P w K mg base N qual scope f cdv A outer s H E) [] σ' H' s' → RelV v u → Q v H' → CE outer P w H s Q u s' := by
    intro σ' H' v u J rv q
    exact ⟨v, H', J.os, J.bare, J.base, J.hok, rv, q⟩
  cases fl with
  | ret u => obtain ⟨v, σ', H', J, rv, q⟩ := hs; exact fin J rv q
  | next => obtain ⟨σ', H', J, q⟩ := hs; exact fin (v := V.non) (u := Value.none) J rfl q
  | brk => obtain ⟨_, _, _, q⟩ := hs; exact q.elim
  | cont => obtain ⟨_, _, _, q⟩ := hs; exact q.elim
end

/-! ### calls: n written values, keywords ks; g puts (defaults, values, keywords) into the parameters' order -/
abbrev Put := {α : Type} → List α → List α → List α → List α
structure CB (K : PySem.W.Frag) (fd : FuncData) (ps : List Str) (n : Nat) (ks : List Str) (g : Put) (dV : List V) : Prop where
  to : ∃ dU : List Value, Vals dV dU ∧ ∀ (s : Shared) (us ws : List Value), K.In s.heap → us.length = n → ws.length = ks.length → BindsTo s fd ⟨us, ks.zip ws⟩ (ps.zip (g dU us ws))
  rel : ∀ {α β : Type} (F : α → β → Prop) {a b c : List α} {a' b' c' : List β}, Paired F a a' → Paired F b b' → Paired F c c' → Paired F (g a b c) (g a' b' c')

def tCallG (sp : Sp) (g : Put) (n m : Nat) (dV : List V) (E : XK) (t tk : TA) : TE := fun σ H Q => t σ H fun vs H1 => tk σ H1 fun zs H2 => vs.length = n ∧ zs.length = m ∧ sp (g dV vs zs) H2 Q E
section
variable {X : Cx} {CX : CXT} {f : Addr} {fd : FuncData} {ps ks : List Str} {sp : Sp} {E : XK} {x : Str} {p pos : Pos} {e : Expr} {es : List Expr} {kws : List Keyword} {t tk : TA} {g : Put} {dV : List V} {n : Nat}
theorem run_G {pins : List (Addr × Obj)} {σ : L2.St} {H : Hp} {s : Shared} {Q : VK} {us ws : List Value} {vs zs : List V} (F : FnA X.prog X.w X.K X.mg X.base CX X.A f fd ps sp) (hb : CB X.K fd ps n ks g dV) (hx : Passes CX X E)
    (I : Inv X pins σ H s) (r : Vals vs us) (rz : Vals zs ws) (l1 : vs.length = n) (l2 : zs.length = ks.length) (h : sp (g dV vs zs) H Q E) : wpAny (model X.prog X.w) X.A (call (.ref f) us (ks.zip ws)) (EP X pins σ Q) X.xe s := by
  obtain ⟨dU, rd, to⟩ := hb.to
  have r2 : Vals (g dV vs zs) (g dU us ws) := hb.rel RelV rd r rz
  refine wpAny_call (codeAny_mono (F.run X.stack s H ⟨us, ks.zip ws⟩ (g dU us ws) (g dV vs zs) Q E I.env0 (to s us ws I.kIn (r.length.symm.trans l1) (rz.length.symm.trans l2)) r2 h) fun r s' hq => ?_)
  cases r with
  | error e => exact hx pins σ H s e s' I hq
  | ok fl =>
    cases fl with
    | ret u => exact I.after hq
    | next => exact hq.elim
    | brk => exact hq.elim
    | cont => exact hq.elim
theorem pe_g (F : FnA X.prog X.w X.K X.mg X.base CX X.A f fd ps sp) (hg : Gl X x) (hm : X.mg x = some (.ref f)) (hk : PySem.W.keepIn X.K (.ref f) = true) (hb : CB X.K fd ps n [] g dV) (hx : Passes CX X E) (ha : PA X (e :: es) t)
    (hdb : (x == ("__debug__" : Str)) = false := by decide) (he : starEach (e :: es) X.env = (false, eval e X.env) :: starEach es X.env := by rfl) (hpl : (backTo pos (starEach es X.env)).any (·.1) = false := by rfl) :
    PE X (.Call (.Name x p) (e :: es) [] pos) (tCallG sp g n 0 dV E t tNil) := by
  refine ⟨fun pins s σ H Q I h => ?_⟩
  refine wpAny_Call_Name_kw (ld_glob I hg hm ?_ hdb)
  refine PySem.W.callWith_K (h₀ := X.base) I.ok.mod.kin hk (thn (ha.run pos pins s σ H _ I h) ?_) he hpl
  rintro us s1 ⟨vs, H1, I1, r, l1, _, q⟩
  exact ⟨I1.kIn, run_G (ks := []) (ws := []) F hb hx I1 r .nil l1 rfl q⟩
theorem pe_g0 (F : FnA X.prog X.w X.K X.mg X.base CX X.A f fd ps sp) (hg : Gl X x) (hm : X.mg x = some (.ref f)) (hk : PySem.W.keepIn X.K (.ref f) = true) (hb : CB X.K fd ps 0 [] g dV) (hx : Passes CX X E)
    (hdb : (x == ("__debug__" : Str)) = false := by decide) : PE X (.Call (.Name x p) [] [] pos) (tCallG sp g 0 0 dV E tNil tNil) := by
  refine ⟨fun pins s σ H Q I h => ?_⟩
  obtain ⟨l1, _, q⟩ := h
  refine wpAny_Call_Name_kw (ld_glob I hg hm ?_ hdb)
  exact PySem.W.callWith_K0 I.kIn hk (run_G (ks := []) (us := []) (ws := []) F hb hx I .nil .nil rfl rfl q)
theorem pe_gk (F : FnA X.prog X.w X.K X.mg X.base CX X.A f fd ps sp) (hg : Gl X x) (hm : X.mg x = some (.ref f)) (hk : PySem.W.keepIn X.K (.ref f) = true) (hb : CB X.K fd ps n ks g dV) (hx : Passes CX X E) (ha : PA X (e :: es) t) (hkw : PK X kws tk)
    (hall : (backToKw pos (keywordEach kws X.env)).all (·.1.isSome) = true := by rfl) (hks : (backToKw pos (keywordEach kws X.env)).filterMap (·.1) = ks := by rfl)
    (hdb : (x == ("__debug__" : Str)) = false := by decide) (he : starEach (e :: es) X.env = (false, eval e X.env) :: starEach es X.env := by rfl)
    (hpl : ((backTo pos (starEach (e :: es) X.env)).any (·.1) || (backToKw pos (keywordEach kws X.env)).any (·.1.isNone)) = false := by rfl) :
    PE X (.Call (.Name x p) (e :: es) kws pos) (tCallG sp g n ks.length dV E t tk) := by
  refine ⟨fun pins s σ H Q I h => ?_⟩
  refine wpAny_Call_Name_kw (ld_glob I hg hm ?_ hdb)
  refine PySem.W.callWith_KW (h₀ := X.base) I.ok.mod.kin hk hall (thn (ha.run pos pins s σ H _ I h) ?_) hpl he
  rintro us s1 ⟨vs, H1, I1, r, q⟩
  refine thn (hkw.run pos pins s1 σ H1 _ I1 q) ?_
  rintro ws s2 ⟨zs, H2, I2, rz, l1, l2, q2⟩
  refine ⟨I2.kIn, ?_⟩
  rw [hks]
  exact run_G F hb hx I2 r rz l1 l2 q2
theorem pe_gk0 (F : FnA X.prog X.w X.K X.mg X.base CX X.A f fd ps sp) (hg : Gl X x) (hm : X.mg x = some (.ref f)) (hk : PySem.W.keepIn X.K (.ref f) = true) (hb : CB X.K fd ps 0 ks g dV) (hx : Passes CX X E) (hkw : PK X kws tk)
    (hall : (backToKw pos (keywordEach kws X.env)).all (·.1.isSome) = true := by rfl) (hks : (backToKw pos (keywordEach kws X.env)).filterMap (·.1) = ks := by rfl) (hdb : (x == ("__debug__" : Str)) = false := by decide)
    (hpl : ((backTo pos (starEach [] X.env)).any (·.1) || (backToKw pos (keywordEach kws X.env)).any (·.1.isNone)) = false := by rfl) :
    PE X (.Call (.Name x p) [] kws pos) (tCallG sp g 0 ks.length dV E tNil tk) := by
  refine ⟨fun pins s σ H Q I h => ?_⟩
  refine wpAny_Call_Name_kw (ld_glob I hg hm ?_ hdb)
  refine PySem.W.callWith_KW0 (h₀ := X.base) I.ok.mod.kin hk hall ?_ hpl
  refine thn (hkw.run pos pins s σ H _ I h) ?_
  rintro ws s2 ⟨zs, H2, I2, rz, l1, l2, q2⟩
  refine ⟨I2.kIn, ?_⟩
  rw [hks]
  exact run_G (us := []) (vs := []) F hb hx I2 .nil rz rfl l2 q2
end

/-! ### promises at the level of data -/
abbrev Spc := List Sl → MH → (Sl → MH → Prop) → Prop
/-- what a def promises: S of its arguments, the changeable things and what is wanted behind -/
def spD (K : PySem.W.Frag) (n : Nat) (S : Spc) : Sp := fun vs H Q _ =>
  ∃ (B : Hp) (M : MH) (rs : List Sl) (R : Sl → MH → Prop), rs.length = n ∧ Paired (SlOk K B) rs vs ∧ Wd K M B H ∧ S rs M R ∧ ∀ B' v H' r M', Same B B' → Wd K M' B' H' → SlOk K B' r v → R r M' → Q v H'
theorem spD_len {K : PySem.W.Frag} {n : Nat} {S : Spc} {vs : List V} {H : Hp} {Q : VK} {E : XK} (h : spD K n S vs H Q E) : vs.length = n := by
  obtain ⟨B, M, rs, R, hn, hp, _⟩ := h
  rw [← pr_len hp, hn]

section
variable {K : PySem.W.Frag} {M : MH} {ρ : List Sl} {R : Sl → MH → Prop} {S : Spc} {g : Put} {dV : List V} {dS : List Sl} {n m N : Nat} {t tk : TA} {E : XK}
theorem ev_callG (hd : ∀ B, Paired (SlOk K B) dS dV) (hrel : ∀ {α β : Type} (F : α → β → Prop) {a b c : List α} {a' b' c' : List β}, Paired F a a' → Paired F b b' → Paired F c c' → Paired F (g a b c) (g a' b' c'))
    (h : EvA K t ρ M fun rs M1 => EvA K tk ρ M1 fun zs M2 => rs.length = n ∧ zs.length = m ∧ (g dS rs zs).length = N ∧ S (g dS rs zs) M2 R) : Ev K (tCallG (spD K N S) g n m dV E t tk) ρ M R := fun B σ H he hw Q k =>
  h B σ H he hw _ fun B1 vs H1 rs M1 e1 w1 s1 h1 => h1 B1 σ H1 (he.mono e1) w1 _ fun B2 zs H2 r2 M2 e2 w2 s2 ⟨q1, q2, q3, q⟩ =>
    ⟨by rw [← pr_len s1]; exact q1, by rw [← pr_len s2]; exact q2, B2, M2, _, R, q3, hrel (SlOk K B2) (hd B2) (Paired.mapP s1 fun _ _ x => x.mono e2) s2, w2, q,
      fun B3 v H3 r M3 e3 w3 s3 q3 => k B3 v H3 r M3 ((e1.trans e2).trans e3) w3 s3 q3⟩
/-- into a body -/
theorem body_of {ts : TS} {vs : List V} {H : Hp} {Q : VK} {E : XK} {Ns : List Str} (h : spD K n S vs H Q E)
    (hx : ∀ rs M R, rs.length = n → S rs M R → Xs K ts (rs ++ List.replicate (Ns.length - n) .un) M { nx := fun _ M' => R (.dat .none) M', rt := R }) : ts { nx := fun _ H' => Q .non H', rt := Q } (L2.start Ns vs) H := by
  have hlen := spD_len h
  obtain ⟨B, M, rs, R, hn, hp, w, hS, k⟩ := h
  refine hx rs M R hn hS B _ H ?_ w _ ⟨fun B' σ H' ρ M' e _ w' q => k B' .non H' (.dat .none) M' e w' Rp.non q, fun B' v H' r M' e w' s q => k B' v H' r M' e w' s q, fun _ _ _ _ _ _ _ _ q => q.elim, fun _ _ _ _ _ _ _ _ q => q.elim⟩
  unfold L2.start
  rw [hlen]
  refine pr_app ?_ ?_
  · clear hS k w hn hlen
    induction hp with
    | nil => exact .nil
    | cons h _ ih => exact .cons (SlO.of h) ih
  · generalize Ns.length - n = j
    induction j with
    | zero => exact .nil
    | succ j ih => exact .cons (show SlO K B .un none from True.intro) ih
end
end DL
set_option Elab.async false
set_option linter.all false
set_option maxRecDepth 100000
set_option maxHeartbeats 4000000
namespace DL
open PySem PySem.Spec PyProof.Rows L2

section
variable {K : PySem.W.Frag} {B B' H H' : Hp} {M : MH} {ρ : List Sl} {R : Sl → MH → Prop} {te ta tb tc td ty tv : TE} {tt tu : TT} {t u ts : TS} {x y z r : Sl} {D : DE} {g : TG}

/-! ### statements -/
theorem x_seq (h : Xs K t ρ M { D with nx := fun ρ' M' => Xs K u ρ' M' D }) : Xs K (tSeq t u) ρ M D := fun B σ H he hw Dc s =>
  h B σ H he hw { Dc with nx := u Dc } ⟨fun B' σ' H' ρ' M' e en w q => q B' σ' H' en w Dc (s.mono e), s.rt, s.bk, s.ct⟩
theorem x_next (h : D.nx ρ M) : Xs K tNext ρ M D := fun B σ H he hw Dc s => s.nx B σ H ρ M (Same.r B) he hw h
theorem x_brk (h : D.bk ρ M) : Xs K tBreak ρ M D := fun B σ H he hw Dc s => s.bk B σ H ρ M (Same.r B) he hw h
theorem x_cont (h : D.ct ρ M) : Xs K tCont ρ M D := fun B σ H he hw Dc s => s.ct B σ H ρ M (Same.r B) he hw h
theorem x_asg (h : Ev K te ρ M fun r M1 => Gd K g r ρ M1 D.nx) : Xs K (tAsg te g) ρ M D := fun B σ H he hw Dc s =>
  h B σ H he hw _ fun B1 v H1 r M1 e1 w1 s1 q => q B1 v σ H1 s1 (he.mono e1) w1 _ fun B2 σ2 H2 ρ2 M2 e2 en2 w2 q2 => s.nx B2 σ2 H2 ρ2 M2 (e1.trans e2) en2 w2 q2
theorem g_name {i : Nat} {R : List Sl → MH → Prop} (q : R (ρ.set i r) M) : Gd K (gName i) r ρ M R := fun B v σ H sv he hw Q k =>
  k B _ H _ M (Same.r B) (he.set i sv) hw q
theorem g_tup {n : Nat} {tg : TGs} {ds : List PyData} {R : List Sl → MH → Prop} (hn : ds.length = n) (q : Gds K tg (dats ds) ρ M R) : Gd K (gTup K n tg) (.dat (.tuple ds)) ρ M R := fun B v σ H sv he hw Q k => by
  cases sv with
  | tup ha hr =>
    rename_i a xs
    refine ⟨a, xs, rfl, ?_, by rw [hr.length]; exact hn, q B xs σ H (of_rpAll hr) he hw Q k⟩
    exact sqT_mono hw.ex ha
theorem gs_nil {R : List Sl → MH → Prop} (q : R ρ M) : Gds K gNil [] ρ M R := fun B vs σ H sv he hw Q k => by
  cases sv
  exact ⟨rfl, k B σ H ρ M (Same.r B) he hw q⟩
theorem gs_cons {tg : TG} {tgs : TGs} {rs : List Sl} {R : List Sl → MH → Prop} (q : Gd K tg r ρ M fun ρ1 M1 => Gds K tgs rs ρ1 M1 R) : Gds K (gCons tg tgs) (r :: rs) ρ M R := fun B vs σ H sv he hw Q k => by
  cases sv with
  | cons h1 h2 =>
    refine ⟨_, _, rfl, q B _ σ H h1 he hw _ ?_⟩
    intro B1 σ1 H1 ρ1 M1 e1 en1 w1 q1
    exact q1 B1 _ σ1 H1 (Paired.mapP h2 fun _ _ x => x.mono e1) en1 w1 Q fun B2 σ2 H2 ρ2 M2 e2 en2 w2 q2 => k B2 σ2 H2 ρ2 M2 (e1.trans e2) en2 w2 q2
theorem x_par {i j : Nat} {tp : TA} (h : EvA K tp ρ M fun rs M1 => ∃ r1 r2, rs = [r1, r2] ∧ D.nx ((ρ.set i r1).set j r2) M1) : Xs K (tPar i j tp) ρ M D := fun B σ H he hw Dc s =>
  h B σ H he hw _ fun B1 vs H1 rs M1 e1 w1 s1 ⟨r1, r2, ex, q⟩ => by
    subst ex
    cases s1 with
    | cons a1 s2 =>
      cases s2 with
      | cons a2 s3 =>
        cases s3
        exact ⟨_, _, rfl, s.nx B1 _ H1 _ M1 e1 (((he.mono e1).set i a1).set j a2) w1 q⟩
theorem x_if (h : EvT K tt ρ M fun b M1 => (b = true → Xs K t ρ M1 D) ∧ (b = false → Xs K u ρ M1 D)) : Xs K (tIfS tt t u) ρ M D := fun B σ H he hw Dc s =>
  h B σ H he hw _ fun B1 b H1 M1 e1 w1 q => by
    cases b with
    | true =>
      show t Dc σ H1
      exact q.1 rfl B1 σ H1 (he.mono e1) w1 Dc (s.mono e1)
    | false =>
      show u Dc σ H1
      exact q.2 rfl B1 σ H1 (he.mono e1) w1 Dc (s.mono e1)
theorem x_ret (h : Ev K te ρ M D.rt) : Xs K (tRet te) ρ M D := fun B σ H he hw Dc s =>
  h B σ H he hw _ fun B1 v H1 r M1 e1 w1 s1 q => s.rt B1 v H1 r M1 e1 w1 s1 q
theorem x_retN (h : D.rt (.dat .none) M) : Xs K tRetN ρ M D := fun B σ H he hw Dc s => s.rt B .non H (.dat .none) M (Same.r B) hw Rp.non h
theorem x_drop (h : Ev K te ρ M fun _ M1 => D.nx ρ M1) : Xs K (tDrop te) ρ M D := fun B σ H he hw Dc s =>
  h B σ H he hw _ fun B1 v H1 r M1 e1 w1 s1 q => s.nx B1 σ H1 ρ M1 e1 (he.mono e1) w1 q
/-- while: Inv by its measure -/
theorem x_while (Iv : Nat → List Sl → MH → Prop) (h0 : ∃ m, Iv m ρ M)
    (hs : ∀ m ρ' M', Iv m ρ' M' → EvT K tt ρ' M' fun b M1 =>
      (b = true → Xs K t ρ' M1 { nx := fun ρ2 M2 => ∃ m', m' < m ∧ Iv m' ρ2 M2, ct := fun ρ2 M2 => ∃ m', m' < m ∧ Iv m' ρ2 M2, bk := D.nx, rt := D.rt }) ∧ (b = false → D.nx ρ' M1)) : Xs K (tWhile tt t) ρ M D := fun B σ H he hw Dc s => by
  obtain ⟨m0, i0⟩ := h0
  refine ⟨fun m σ' H' => ∃ B' ρ' M', Same B B' ∧ En K B' ρ' σ' ∧ Wd K M' B' H' ∧ Iv m ρ' M', ⟨m0, B, ρ, M, Same.r B, he, hw, i0⟩, ?_⟩
  rintro m σ' H' ⟨B1, ρ1, M1, e1, en1, w1, iv⟩
  refine hs m ρ1 M1 iv B1 σ' H' en1 w1 _ fun B2 b H2 M2 e2 w2 q => ?_
  cases b with
  | true =>
    rw [if_pos rfl]
    refine ⟨fun σ3 H3 => ∃ B3 ρ3 M3, Same B B3 ∧ En K B3 ρ3 σ3 ∧ Wd K M3 B3 H3 ∧ ∃ m', m' < m ∧ Iv m' ρ3 M3, ?_, ?_⟩
    · rintro σ3 H3 ⟨B3, ρ3, M3, e3, en3, w3, m', hm, q3⟩
      exact ⟨m', hm, B3, ρ3, M3, e3, en3, w3, q3⟩
    · refine q.1 rfl B2 σ' H2 (en1.mono e2) w2 _ ⟨?_, ?_, ?_, ?_⟩
      · intro B3 σ3 H3 ρ3 M3 e3 en3 w3 q3
        exact ⟨B3, ρ3, M3, (e1.trans e2).trans e3, en3, w3, q3⟩
      · intro B3 v H3 r M3 e3 w3 s3 q3
        exact s.rt B3 v H3 r M3 ((e1.trans e2).trans e3) w3 s3 q3
      · intro B3 σ3 H3 ρ3 M3 e3 en3 w3 q3
        exact s.nx B3 σ3 H3 ρ3 M3 ((e1.trans e2).trans e3) en3 w3 q3
      · intro B3 σ3 H3 ρ3 M3 e3 en3 w3 q3
        exact ⟨B3, ρ3, M3, (e1.trans e2).trans e3, en3, w3, q3⟩
  | false =>
    rw [if_neg Bool.false_ne_true]
    exact s.nx B2 σ' H2 ρ1 M2 (e1.trans e2) (en1.mono e2) w2 (q.2 rfl)

/-! ### what is walked -/
def ItOk (K : PySem.W.Frag) (B : Hp) (J : It) (it : List PyData) : Prop :=
  ∀ B1 M1 H1, Same B B1 → Wd K M1 B1 H1 → ∀ i, (it.length ≤ i → J.stop i H1) ∧ (∀ d, it[i]? = some d → J.go i H1 ∧ ∀ x H2, J.yld i H1 x H2 → ∃ B2, Same B1 B2 ∧ Wd K M1 B2 H2 ∧ Rp K B2 x d)
def EvI (K : PySem.W.Frag) (wi : TI) (ρ : List Sl) (M : MH) (R : List PyData → MH → Prop) : Prop :=
  ∀ B σ H, En K B ρ σ → Wd K M B H → ∀ Rc : It → Hp → Prop, (∀ B' J H' it M', Same B B' → Wd K M' B' H' → ItOk K B' J it → R it M' → Rc J H') → wi σ H Rc

theorem x_for {wi : TI} (h : EvI K wi ρ M fun it M1 => ∃ Iv : Nat → List Sl → MH → Prop, Iv 0 ρ M1 ∧
      (∀ i d ρ' M', it[i]? = some d → Iv i ρ' M' → Gd K g (.dat d) ρ' M' fun ρ2 M2 => Xs K t ρ2 M2 { nx := Iv (i + 1), ct := Iv (i + 1), bk := D.nx, rt := D.rt }) ∧ (∀ ρ' M', Iv it.length ρ' M' → D.nx ρ' M')) : Xs K (tFor wi g t) ρ M D := fun B σ H he hw Dc s =>
  h B σ H he hw _ fun B1 J H1 it M1 e1 w1 ok ⟨Iv, h0, hs, hd⟩ => by
    refine ⟨fun i m σ' H' => m = it.length - i ∧ i ≤ it.length ∧ ∃ B' ρ' M', Same B1 B' ∧ En K B' ρ' σ' ∧ Wd K M' B' H' ∧ Iv i ρ' M', ⟨it.length, by simp, Nat.zero_le _, B1, ρ, M1, Same.r B1, he.mono e1, w1, h0⟩, ?_⟩
    rintro i m σ' H' ⟨rfl, hi, B2, ρ2, M2, e2, en2, w2, iv⟩
    obtain ⟨stop, go⟩ := ok B2 M2 H' e2 w2 i
    by_cases hlt : i < it.length
    · have hd0 : it[i]? = some it[i] := List.getElem?_eq_getElem hlt
      obtain ⟨g1, g2⟩ := go _ hd0
      refine .inr ⟨g1, fun σ3 H3 => ∃ B3 ρ3 M3, Same B1 B3 ∧ En K B3 ρ3 σ3 ∧ Wd K M3 B3 H3 ∧ Iv (i + 1) ρ3 M3, ?_, ?_⟩
      · rintro σ3 H3 ⟨B3, ρ3, M3, e3, en3, w3, q3⟩
        exact ⟨it.length - (i + 1), by omega, rfl, hlt, B3, ρ3, M3, e3, en3, w3, q3⟩
      · intro x H3 hy
        obtain ⟨B3, e3, w3, sx⟩ := g2 x H3 hy
        refine hs i _ ρ2 M2 hd0 iv B3 x σ' H3 sx (en2.mono e3) w3 _ fun B4 σ4 H4 ρ4 M4 e4 en4 w4 q4 => ?_
        have e14 : Same B1 B4 := (e2.trans e3).trans e4
        refine q4 B4 σ4 H4 en4 w4 _ ⟨?_, ?_, ?_, ?_⟩
        · intro B5 σ5 H5 ρ5 M5 e5 en5 w5 q5
          exact ⟨B5, ρ5, M5, e14.trans e5, en5, w5, q5⟩
        · intro B5 v H5 r M5 e5 w5 s5 q5
          exact s.rt B5 v H5 r M5 ((e1.trans e14).trans e5) w5 s5 q5
        · intro B5 σ5 H5 ρ5 M5 e5 en5 w5 q5
          exact s.nx B5 σ5 H5 ρ5 M5 ((e1.trans e14).trans e5) en5 w5 q5
        · intro B5 σ5 H5 ρ5 M5 e5 en5 w5 q5
          exact ⟨B5, ρ5, M5, e14.trans e5, en5, w5, q5⟩
    · have e : i = it.length := by omega
      subst e
      exact .inl ⟨stop (Nat.le_refl _), s.nx B2 σ' H' ρ2 M2 (e1.trans e2) en2 w2 (hd ρ2 M2 iv)⟩

/-! comprehensions -/
def wipeS (ρ : List Sl) : List Nat → List Sl
  | [] => ρ
  | i :: vs => (wipeS ρ vs).set i .un
theorem En.wipe {ρ : List Sl} {σ : L2.St} (h : En K B ρ σ) : ∀ vs : List Nat, En K B (wipeS ρ vs) (wipe σ vs)
  | [] => h
  | i :: vs => (En.wipe h vs).wipe1 i none
theorem wipe_set {σ : L2.St} {i : Nat} {o : Option V} : ∀ {vs : List Nat}, i ∈ vs → wipe (σ.set i o) vs = wipe σ vs
  | j :: vs, h => by
    unfold wipe
    by_cases e : i = j
    · subst e
      by_cases hm : i ∈ vs
      · rw [wipe_set hm]
      · have aux : ∀ {ws : List Nat}, i ∉ ws → wipe (σ.set i o) ws = (wipe σ ws).set i o := by
          intro ws
          induction ws with
          | nil => intro _; rfl
          | cons k ws ih =>
            intro hk
            have h1 : i ≠ k := fun z => hk (by rw [z]; exact List.mem_cons_self)
            unfold wipe
            rw [ih fun z => hk (List.mem_cons_of_mem _ z), List.set_comm _ _ h1]
        rw [aux hm, List.set_set]
    · have hm : i ∈ vs := by
        rcases List.mem_cons.mp h with z | z
        · exact absurd z e
        · exact z
      rw [wipe_set hm]
/-- a target that stores nothing but the names vs -/
def GW (g : TG) (vs : List Nat) : Prop := ∀ v σ H Q, g v σ H Q → g v σ H fun σ2 H2 => wipe σ2 vs = wipe σ vs ∧ Q σ2 H2
def GWs (g : TGs) (vs : List Nat) : Prop := ∀ v σ H Q, g v σ H Q → g v σ H fun σ2 H2 => wipe σ2 vs = wipe σ vs ∧ Q σ2 H2
theorem gw_name {i : Nat} {vs : List Nat} (h : i ∈ vs) : GW (gName i) vs := fun v σ H Q q => ⟨wipe_set h, q⟩
theorem gws_nil {vs : List Nat} : GWs gNil vs := fun v σ H Q q => ⟨q.1, rfl, q.2⟩
theorem gws_cons {tg : TG} {tgs : TGs} {vs : List Nat} (mono1 : ∀ v σ H (Q Q' : L2.St → Hp → Prop), (∀ σ H, Q σ H → Q' σ H) → tg v σ H Q → tg v σ H Q') (mono2 : ∀ v σ H (Q Q' : L2.St → Hp → Prop), (∀ σ H, Q σ H → Q' σ H) → tgs v σ H Q → tgs v σ H Q') (h1 : GW tg vs) (h2 : GWs tgs vs) : GWs (gCons tg tgs) vs := fun ws σ H Q q => by
  obtain ⟨v, r, e, q⟩ := q
  refine ⟨v, r, e, mono1 _ _ _ _ _ ?_ (h1 _ _ _ _ q)⟩
  rintro σ1 H1 ⟨e1, q1⟩
  refine mono2 _ _ _ _ _ ?_ (h2 _ _ _ _ q1)
  rintro σ2 H2 ⟨e2, q2⟩
  exact ⟨e2.trans e1, q2⟩
def GM (tg : TG) : Prop := ∀ v σ H (Q Q' : L2.St → Hp → Prop), (∀ σ H, Q σ H → Q' σ H) → tg v σ H Q → tg v σ H Q'
def GMs (tg : TGs) : Prop := ∀ v σ H (Q Q' : L2.St → Hp → Prop), (∀ σ H, Q σ H → Q' σ H) → tg v σ H Q → tg v σ H Q'
theorem gm_name {i : Nat} : GM (gName i) := fun _ _ _ _ _ h q => h _ _ q
theorem gms_nil : GMs gNil := fun _ _ _ _ _ h q => ⟨q.1, h _ _ q.2⟩
theorem gms_cons {tg : TG} {tgs : TGs} (h1 : GM tg) (h2 : GMs tgs) : GMs (gCons tg tgs) := fun _ _ _ _ _ h ⟨v, r, e, q⟩ => ⟨v, r, e, h1 _ _ _ _ _ (fun _ _ q => h2 _ _ _ _ _ h q) q⟩
theorem gm_tup {n : Nat} {tg : TGs} (h1 : GMs tg) : GM (gTup K n tg) := fun _ _ _ _ _ h ⟨a, xs, e, hs, hn, q⟩ => ⟨a, xs, e, hs, hn, h1 _ _ _ _ _ h q⟩
theorem gw_tup {n : Nat} {tg : TGs} {vs : List Nat} (h1 : GWs tg vs) : GW (gTup K n tg) vs := fun _ _ _ _ ⟨a, xs, e, hs, hn, q⟩ => ⟨a, xs, e, hs, hn, h1 _ _ _ _ q⟩

/-- [e for .. in .. if ..]: L is where the new list stands meanwhile -/
theorem ev_lc {wi : TI} {vs : List Nat} (gw : GW g vs) (gm : GM g)
    (h : EvI K wi ρ M fun it M1 => ∀ L, M1 L = none → ∃ Iv : Nat → List PyData → MH → Prop, Iv 0 [] (setM M1 L (.lst [])) ∧
      (∀ i d acc M', it[i]? = some d → Iv i acc M' → M' L = some (.lst (dats acc)) ∧ Gd K g (.dat d) (wipeS ρ vs) M' fun ρ2 M2 => EvT K tt ρ2 M2 fun b M3 =>
        (b = true → Ev K te ρ2 M3 fun y M4 => ∃ d, y = .dat d ∧ M4 L = some (.lst (dats acc)) ∧ acc.length < sizeLine ∧ Iv (i + 1) (acc ++ [d]) (setM M4 L (.lst (dats (acc ++ [d]))))) ∧ (b = false → Iv (i + 1) acc M3)) ∧
      (∀ acc M', Iv it.length acc M' → M' L = some (.lst (dats acc)) ∧ R (.dat (.list acc)) (delM M' L))) : Ev K (tLc wi g tt te vs) ρ M R := fun B σ H he hw Q k =>
  h B σ H he hw _ fun B1 J H1 it M1 e1 w1 ok q L hL => by
    obtain ⟨Iv, h0, hs, hd⟩ := q L (w1.freeM hL)
    refine ⟨fun i m H' => m = it.length - i ∧ i ≤ it.length ∧ ∃ B' acc M', Same B1 B' ∧ Wd K M' B' H' ∧ Iv i acc M', ⟨it.length, by simp, Nat.zero_le _, B1, [], _, Same.r B1, w1.newM hL (m := .lst []) (show MoOk K B1 (.lst []) (.lst []) from .nil), h0⟩, ?_⟩
    rintro i m H' ⟨rfl, hi, B2, acc, M2, e2, w2, iv⟩
    obtain ⟨stop, go⟩ := ok B2 M2 H' e2 w2 i
    by_cases hlt : i < it.length
    · have hd0 : it[i]? = some it[i] := List.getElem?_eq_getElem hlt
      obtain ⟨g1, g2⟩ := go _ hd0
      refine .inr ⟨g1, fun H3 => ∃ B3 acc3 M3, Same B1 B3 ∧ Wd K M3 B3 H3 ∧ Iv (i + 1) acc3 M3, ?_, ?_⟩
      · rintro H3 ⟨B3, acc3, M3, e3, w3, q3⟩
        exact ⟨it.length - (i + 1), by omega, rfl, hlt, B3, acc3, M3, e3, w3, q3⟩
      · intro x H3 hy
        obtain ⟨B3, e3, w3, sx⟩ := g2 x H3 hy
        have hst := (hs i _ acc M2 hd0 iv).2 B3 x (wipe σ vs) H3 sx ((he.mono ((e1.trans e2).trans e3)).wipe vs) w3 _ fun B4 σ4 H4 ρ4 M4 e4 en4 w4 q4 =>
          q4 B4 σ4 H4 en4 w4 (fun b H3 => if b = true then te σ4 H3 fun y H4 => ∃ acc, H4 L = some (.lst acc) ∧ acc.length < sizeLine ∧ (fun H3 => ∃ B3 acc3 M3, Same B1 B3 ∧ Wd K M3 B3 H3 ∧ Iv (i + 1) acc3 M3) (upd H4 L (.lst (acc ++ [y]))) else (fun H3 => ∃ B3 acc3 M3, Same B1 B3 ∧ Wd K M3 B3 H3 ∧ Iv (i + 1) acc3 M3) H3) ?_
        · refine gm _ _ _ _ _ ?_ (gw _ _ _ _ hst)
          rintro σ4 H4 ⟨ew, q4⟩
          refine ⟨?_, q4⟩
          rw [ew]
          have idem : ∀ {ws : List Nat}, wipe (wipe σ ws) ws = wipe σ ws := by
            intro ws
            induction ws with
            | nil => rfl
            | cons k ws ih =>
              show wipe (((wipe σ ws)).set k none) (k :: ws) = _
              rw [wipe_set List.mem_cons_self]
              unfold wipe
              rw [ih]
          exact idem
        · have e14 : Same B1 B4 := (e2.trans e3).trans e4
          intro B5 b H5 M5 e5 w5 q5
          cases b with
          | true =>
            rw [if_pos rfl]
            refine q5.1 rfl B5 σ4 H5 (en4.mono e5) w5 _ fun B6 v H6 r M6 e6 w6 s6 q6 => ?_
            obtain ⟨d, rfl, hM, hz, q6⟩ := q6
            obtain ⟨o, ho, hmo⟩ := w6.mo L _ hM
            cases o with
            | lst ws =>
              refine ⟨ws, ho, ?_, B6, _, _, (e14.trans e5).trans e6, w6.put hM (m := .lst (dats (acc ++ [d]))) ?_, q6⟩
              · have := pr_len (show Paired (SlOk K B6) (dats acc) ws from hmo)
                unfold dats at this
                rw [List.length_map] at this
                omega
              · show Paired (SlOk K B6) (dats (acc ++ [d])) (ws ++ [v])
                unfold dats
                rw [List.map_append]
                exact pr_app (show Paired (SlOk K B6) (dats acc) ws from hmo) (.cons s6 .nil)
            | _ => exact hmo.elim
          | false =>
            rw [if_neg Bool.false_ne_true]
            exact ⟨B5, acc, M5, e14.trans e5, w5, q5.2 rfl⟩
    · have e : i = it.length := by omega
      subst e
      obtain ⟨hM, hR⟩ := hd acc M2 iv
      obtain ⟨o, ho, hmo⟩ := w2.mo L _ hM
      cases o with
      | lst ws =>
        obtain ⟨w3, s3⟩ := w2.freeze hM ho
        refine .inl ⟨stop (Nat.le_refl _), k _ _ _ (.dat (.list acc)) _ ((e1.trans e2).trans s3) w3 (.lst upd_same ((rpAll_of (show Paired (SlOk K B2) (dats acc) ws from hmo)).mono s3)) hR⟩
      | _ => exact hmo.elim
end
end DL
set_option Elab.async false
set_option linter.all false
set_option maxRecDepth 100000
set_option maxHeartbeats 4000000
namespace DL
open PySem PySem.Spec PyProof.Rows L2

/-! ### operators of several kinds in one -/
def rAddU (K : PySem.W.Frag) : R2 := fun x y H Q => rI0 (fun i j => .int (i + j)) x y H Q ∨
  ((∃ i j, x = .str i ∧ y = .str j ∧ i.length + j.length ≤ sizeLine ∧ Q (.str (i ++ j)) H) ∨ (rCat x y H Q ∨ rCatA K x y H Q))
def rMulU : R2 := fun x y H Q => rI CMulW (fun i j => .int (i * j)) x y H Q ∨ rRep x y H Q
def rLtU : R2 := fun x y H Q => rI0 (fun i j => .bl (decide (i < j))) x y H Q ∨ ∃ i j, x = .str i ∧ y = .str j ∧ Q (.bl (decide (i.cps.toList < j.cps.toList))) H
def rLeU : R2 := fun x y H Q => rI0 (fun i j => .bl (decide (i ≤ j))) x y H Q ∨ ∃ i j, x = .str i ∧ y = .str j ∧ Q (.bl (!decide (j.cps.toList < i.cps.toList))) H
def CDivA (_ j : Int) : Prop := j ≠ 0 ∧ j.natAbs.log2 < 9000
def rSlU (K : PySem.W.Frag) : V → Option Int → Option Int → Hp → VK → Prop := fun x lo hi H Q => rSlL K x lo hi H Q ∨ (rSlA K x lo hi H Q ∨ rSlS x lo hi H Q)
section
variable {X : Cx}
theorem op_addU : OpR X (binaryOp .Add) (rAddU X.K) := OpR.or op_add (OpR.or op_add_str (OpR.or op_cat op_catA))
theorem op_mulU : OpR X (binaryOp .Mult) rMulU := OpR.or op_mulW op_rep
theorem op_ltU : OpR X (compareOp .Lt) rLtU := OpR.or op_lt op_lt_str
theorem op_leU : OpR X (compareOp .LtE) rLeU := OpR.or op_le op_le_str
theorem op_fdivA : OpR X (binaryOp .FloorDiv) (rI CDivA fun i j => .int (i.fdiv j)) := opI fun i j _ _ _ _ _ hc q => floordiv_int hc.1 q (.inl (PyProof.noPylong_of_log2 hc.2))
theorem sl_U : SlR X (rSlU X.K) := SlR.or sl_list (SlR.or sl_tupA sl_str)
end
/-! what is walked: a list, a tuple or a text -/
def iSeq (K : PySem.W.Frag) (tl : TE) : TI := fun σ H R => tl σ H fun x H1 =>
  (∃ a, x = .ref a ∧ (∃ xs, SqL K H1 a xs) ∧ R (Itl K a) H1) ∨ ((∃ a, x = .ref a ∧ (∃ xs, SqT K H1 a xs) ∧ R (Itt K a) H1) ∨ ∃ z, x = .str z ∧ R (Its z) H1)
theorem pi_seq {X : Cx} {tg l : Expr} {tl : TE} (hl : PE X l tl) : PI X tg l (iSeq X.K tl) := by
  refine ⟨fun pins s σ H R I h => ?_⟩
  refine thn (hl.run pins s σ H _ I h) ?_
  rintro v s1 ⟨x, H1, I1, r1, q1⟩
  have pl : PE X l (fun _ _ Q => Q x H1) → True := fun _ => trivial
  rcases q1 with ⟨a, e, hq, q⟩ | ⟨a, e, hq, q⟩ | ⟨z, e, q⟩
  · subst e
    cases r1
    obtain ⟨xs, hq⟩ := hq
    obtain ⟨its, rv, p, hz⟩ := I1.list hq
    refine wpAny_pyIter_list p.isList ?_
    refine ⟨s1.heap.objs.size, [s1.heap.objs.size], _, _, H1, rfl, I1.kept (t' := s1.toks) fun b o e => Heap.get?_push_of_some _ e, turn_list a _, ⟨_, Heap.get?_push_size _ rfl, rfl, rfl⟩, fun b hb => ?_, q⟩
    obtain rfl : b = s1.heap.objs.size := by simpa using hb
    exact I1.fpOk (Nat.le_refl _) (I1.hok.fresh (Nat.le_refl _))
  · subst e
    cases r1
    obtain ⟨xs, hq⟩ := hq
    obtain ⟨its, rv, p, hz⟩ := I1.tuple hq
    refine wpAny_pyIter_tuple (show s1.heap.IsTuple a its.toArray from p) ?_
    refine ⟨s1.heap.objs.size, [s1.heap.objs.size], _, _, H1, rfl, I1.kept (t' := s1.toks) fun b o e => Heap.get?_push_of_some _ e, turn_tuple a _, ⟨_, Heap.get?_push_size _ rfl, rfl, rfl⟩, fun b hb => ?_, q⟩
    obtain rfl : b = s1.heap.objs.size := by simpa using hb
    exact I1.fpOk (Nat.le_refl _) (I1.hok.fresh (Nat.le_refl _))
  · subst e
    obtain ⟨t, rfl⟩ := r1
    cases ha : z.cps.all (· < 128)
    · exact wpAny_pyIter_wide ha (pi_one (tk := s1.toks) I1 _ (turn_str _ z t "str_iterator" (.inr rfl)) ⟨_, Heap.get?_push_size _ rfl, rfl, rfl⟩ q)
    · exact wpAny_pyIter_ascii ha (pi_one (tk := s1.toks) I1 _ (turn_str _ z t "str_ascii_iterator" (.inl rfl)) ⟨_, Heap.get?_push_size _ rfl, rfl, rfl⟩ q)

section
variable {K : PySem.W.Frag} {B B' H H' : Hp} {M : MH} {ρ : List Sl} {R : Sl → MH → Prop} {te ta tb tc td ty tv : TE} {tt tu : TT} {t u ts : TS} {x y z r : Sl} {D : DE} {g : TG}

mutual
theorem Rp.dp (e : Same B H) : ∀ {v : V} {d : PyData}, d.hasDict = false → Rp K B v d → Dp K H v d
  | _, _, _, .non => .non
  | _, _, _, .bl b => .bl b
  | _, _, _, .int i => .int i
  | _, _, _, .str x => .str x
  | _, _, hd, .lst h r => .lst (SqL.of (e _ _ h)) (RpAll.dp e (by simpa only [PyData.hasDict] using hd) r)
  | _, _, hd, .tup h r => .tup (sqT_mono e h) (RpAll.dp e (by simpa only [PyData.hasDict] using hd) r)
  | _, _, hd, .dic h r => by simp only [PyData.hasDict] at hd; cases hd
theorem RpAll.dp (e : Same B H) : ∀ {vs : List V} {ds : List PyData}, PyData.hasDictAll ds = false → RpAll K B vs ds → DpAll K H vs ds
  | _, _, _, .nil => .nil
  | _, _, hd, .cons h r => by
    simp only [PyData.hasDictAll, Bool.or_eq_false_iff] at hd
    exact .cons (Rp.dp e hd.1 h) (RpAll.dp e hd.2 r)
end

/-! ### the operators -/
theorem rd_addI {i j : Int} (q : R (.dat (.int (i + j))) M) : RD K (rAddU K) (.dat (.int i)) (.dat (.int j)) M R := fun B vx vy H sx sy hw Q k => by
  cases sx; cases sy
  exact .inl ⟨i, j, rfl, rfl, k B _ H (.dat (.int (i + j))) M (Same.r B) hw (Rp.int _) q⟩
theorem rd_addS {i j : Str} (hz : i.length + j.length ≤ sizeLine) (q : R (.dat (.str (i ++ j))) M) : RD K (rAddU K) (.dat (.str i)) (.dat (.str j)) M R := fun B vx vy H sx sy hw Q k => by
  cases sx; cases sy
  exact .inr (.inl ⟨i, j, rfl, rfl, hz, k B _ H (.dat (.str (i ++ j))) M (Same.r B) hw (Rp.str _) q⟩)
theorem rd_addL {ds es : List PyData} (hz : ds.length + es.length ≤ sizeLine) (q : R (.dat (.list (ds ++ es))) M) : RD K (rAddU K) (.dat (.list ds)) (.dat (.list es)) M R := fun B vx vy H sx sy hw Q k => by
  cases sx with
  | lst hx rx =>
    cases sy with
    | lst hy ry =>
      refine .inr (.inr (.inl ⟨_, _, _, _, rfl, rfl, hw.ex _ _ hx, hw.ex _ _ hy, by rw [rx.length, ry.length]; exact hz, fun p hp => ?_⟩))
      exact k _ _ _ (.dat (.list (ds ++ es))) M (same_new (hw.freeB hp)) (hw.newB hp) (Rp.lst upd_same ((rx.app ry).mono (same_new (hw.freeB hp)))) q
theorem rd_addT {ds es : List PyData} (hz : ds.length + es.length ≤ sizeLine) (q : R (.dat (.tuple (ds ++ es))) M) : RD K (rAddU K) (.dat (.tuple ds)) (.dat (.tuple es)) M R := fun B vx vy H sx sy hw Q k => by
  cases sx with
  | tup hx rx =>
    rename_i a xs
    cases sy with
    | tup hy ry =>
      rename_i b ys
      refine .inr (.inr (.inr ⟨a, b, xs, ys, rfl, rfl, sqT_mono hw.ex hx, sqT_mono hw.ex hy, by rw [rx.length, ry.length]; exact hz, fun e => ?_, fun e1 e => ?_, fun _ _ p hp => ?_⟩))
      · subst e
        cases rx
        exact k _ _ _ (.dat (.tuple es)) M (Same.r B) hw (Rp.tup hy ry) q
      · subst e
        cases ry
        rw [List.append_nil] at q
        exact k _ _ _ (.dat (.tuple ds)) M (Same.r B) hw (Rp.tup hx rx) q
      · have s2 := same_new (o := .tup (xs ++ ys)) (hw.freeB hp)
        exact k _ _ _ (.dat (.tuple (ds ++ es))) M s2 (hw.newB hp) (Rp.tup (SqT.of upd_same) ((rx.app ry).mono s2)) q
theorem rd_int0 {g : Int → Int → Int} {i j : Int} (q : R (.dat (.int (g i j))) M) : RD K (rI0 fun i j => .int (g i j)) (.dat (.int i)) (.dat (.int j)) M R := fun B vx vy H sx sy hw Q k => by
  cases sx; cases sy
  exact ⟨i, j, rfl, rfl, k B _ H (.dat (.int (g i j))) M (Same.r B) hw (Rp.int _) q⟩
theorem rd_bl0 {g : Int → Int → Bool} {i j : Int} (q : R (.dat (.bool (g i j))) M) : RD K (rI0 fun i j => .bl (g i j)) (.dat (.int i)) (.dat (.int j)) M R := fun B vx vy H sx sy hw Q k => by
  cases sx; cases sy
  exact ⟨i, j, rfl, rfl, k B _ H (.dat (.bool (g i j))) M (Same.r B) hw (Rp.bl _) q⟩
theorem rd_intC {C : Int → Int → Prop} {g : Int → Int → Int} {i j : Int} (hc : C i j) (q : R (.dat (.int (g i j))) M) : RD K (rI C fun i j => .int (g i j)) (.dat (.int i)) (.dat (.int j)) M R := fun B vx vy H sx sy hw Q k => by
  cases sx; cases sy
  exact ⟨i, j, rfl, rfl, hc, k B _ H (.dat (.int (g i j))) M (Same.r B) hw (Rp.int _) q⟩
theorem rd_mulI {i j : Int} (hc : CMulW i j) (q : R (.dat (.int (i * j))) M) : RD K rMulU (.dat (.int i)) (.dat (.int j)) M R := fun B vx vy H sx sy hw Q k => by
  cases sx; cases sy
  exact .inl ⟨i, j, rfl, rfl, hc, k B _ H (.dat (.int (i * j))) M (Same.r B) hw (Rp.int _) q⟩
theorem rpAll_repeat {vs : List V} {ds : List PyData} (h : RpAll K B vs ds) : ∀ n : Nat, RpAll K B (List.replicate n vs).flatten (List.replicate n ds).flatten
  | 0 => .nil
  | n + 1 => by
    rw [List.replicate_succ, List.replicate_succ, List.flatten_cons, List.flatten_cons]
    exact h.app (rpAll_repeat h n)
theorem rd_ltI {i j : Int} (q : R (.dat (.bool (decide (i < j)))) M) : RD K rLtU (.dat (.int i)) (.dat (.int j)) M R := fun B vx vy H sx sy hw Q k => by
  cases sx; cases sy
  exact .inl ⟨i, j, rfl, rfl, k B _ H (.dat (.bool (decide (i < j)))) M (Same.r B) hw (Rp.bl _) q⟩
theorem rd_leI {i j : Int} (q : R (.dat (.bool (decide (i ≤ j)))) M) : RD K rLeU (.dat (.int i)) (.dat (.int j)) M R := fun B vx vy H sx sy hw Q k => by
  cases sx; cases sy
  exact .inl ⟨i, j, rfl, rfl, k B _ H (.dat (.bool (decide (i ≤ j)))) M (Same.r B) hw (Rp.bl _) q⟩
theorem rd_ltS {i j : Str} (q : R (.dat (.bool (decide (i.cps.toList < j.cps.toList)))) M) : RD K rLtU (.dat (.str i)) (.dat (.str j)) M R := fun B vx vy H sx sy hw Q k => by
  cases sx; cases sy
  exact .inr ⟨i, j, rfl, rfl, k B _ H (.dat (.bool (decide (i.cps.toList < j.cps.toList)))) M (Same.r B) hw (Rp.bl _) q⟩
theorem rd_leS {i j : Str} (q : R (.dat (.bool (!decide (j.cps.toList < i.cps.toList)))) M) : RD K rLeU (.dat (.str i)) (.dat (.str j)) M R := fun B vx vy H sx sy hw Q k => by
  cases sx; cases sy
  exact .inr ⟨i, j, rfl, rfl, k B _ H (.dat (.bool (!decide (j.cps.toList < i.cps.toList)))) M (Same.r B) hw (Rp.bl _) q⟩
theorem rd_eq {d e : PyData} (h1 : SeqAt.shaped d = true) (h2 : SeqAt.shaped e = true) (q : R (.dat (.bool (PyData.eqv d e))) M) : RD K (rEqD K) (.dat d) (.dat e) M R := fun B vx vy H sx sy hw Q k => by
  have f : ∀ {d : PyData}, SeqAt.shaped d = true → d.hasDict = false := fun {d} h => PyData.hasDict_of_canLay d (by unfold SeqAt.shaped at h; simp only [Bool.and_eq_true] at h; exact h.1)
  exact ⟨d, e, Rp.dp hw.ex (f h1) sx, Rp.dp hw.ex (f h2) sy, h1, h2, k B _ H (.dat (.bool (PyData.eqv d e))) M (Same.r B) hw (Rp.bl _) q⟩
theorem rd_ne {d e : PyData} (h1 : SeqAt.shaped d = true) (h2 : SeqAt.shaped e = true) (q : R (.dat (.bool (!PyData.eqv d e))) M) : RD K (rNeD K) (.dat d) (.dat e) M R := fun B vx vy H sx sy hw Q k => by
  have f : ∀ {d : PyData}, SeqAt.shaped d = true → d.hasDict = false := fun {d} h => PyData.hasDict_of_canLay d (by unfold SeqAt.shaped at h; simp only [Bool.and_eq_true] at h; exact h.1)
  exact ⟨d, e, Rp.dp hw.ex (f h1) sx, Rp.dp hw.ex (f h2) sy, h1, h2, k B _ H (.dat (.bool (!PyData.eqv d e))) M (Same.r B) hw (Rp.bl _) q⟩
/-- a list that may change, against data -/
theorem rd_neM {l : Addr} {ds : List PyData} {e : PyData} (hM : M l = some (.lst (dats ds))) (h1 : SeqAt.shaped (.list ds) = true) (h2 : SeqAt.shaped e = true) (q : R (.dat (.bool (!PyData.eqv (.list ds) e))) M) : RD K (rNeD K) (.raw (.ref l)) (.dat e) M R := fun B vx vy H sx sy hw Q k => by
  have f : ∀ {d : PyData}, SeqAt.shaped d = true → d.hasDict = false := fun {d} h => PyData.hasDict_of_canLay d (by unfold SeqAt.shaped at h; simp only [Bool.and_eq_true] at h; exact h.1)
  cases (show vx = .ref l from sx)
  obtain ⟨o, ho, hmo⟩ := hw.mo l _ hM
  cases o with
  | lst ws =>
    have hr := rpAll_of (show Paired (SlOk K B) (dats ds) ws from hmo)
    have f1 := f h1
    simp only [PyData.hasDict] at f1
    exact ⟨.list ds, e, .lst (SqL.of ho) (RpAll.dp hw.ex f1 hr), Rp.dp hw.ex (f h2) sy, h1, h2, k B _ H (.dat (.bool (!PyData.eqv (.list ds) e))) M (Same.r B) hw (Rp.bl _) q⟩
  | _ => exact hmo.elim
theorem ixN_lt {n : Nat} {i : Int} {j : Nat} (h : ixN n i = some j) : j < n := by
  unfold ixN at h
  split at h
  · split at h
    · cases h; omega
    · cases h
  · split at h
    · cases h; omega
    · cases h
theorem atI_rp {xs : List V} {ds : List PyData} {i : Int} {d : PyData} (hr : RpAll K B xs ds) (h : atI ds i = some d) : ∃ v, atI xs i = some v ∧ Rp K B v d := by
  unfold atI at h ⊢
  rw [hr.length]
  cases e : ixN ds.length i with
  | none => rw [e] at h; cases h
  | some j =>
    rw [e] at h
    exact hr.get h
theorem rd_ixT {ds : List PyData} {i : Int} {d : PyData} (h : atI ds i = some d) (q : R (.dat d) M) : RD K (rIx K) (.dat (.tuple ds)) (.dat (.int i)) M R := fun B vx vy H sx sy hw Q k => by
  cases sx with
  | tup hx rx =>
    cases sy
    obtain ⟨v, h1, h2⟩ := atI_rp rx h
    exact .inr (.inl ⟨_, _, i, v, rfl, rfl, sqT_mono hw.ex hx, h1, k B v H (.dat d) M (Same.r B) hw h2 q⟩)
theorem rd_ixL {ds : List PyData} {i : Int} {d : PyData} (h : atI ds i = some d) (q : R (.dat d) M) : RD K (rIx K) (.dat (.list ds)) (.dat (.int i)) M R := fun B vx vy H sx sy hw Q k => by
  cases sx with
  | lst hx rx =>
    cases sy
    obtain ⟨v, h1, h2⟩ := atI_rp rx h
    exact .inl ⟨_, _, i, v, rfl, rfl, SqL.of (hw.ex _ _ hx), h1, k B v H (.dat d) M (Same.r B) hw h2 q⟩
theorem rd_ixS {z : Str} {i : Int} {c : Nat} (hz : z.length ≤ sizeLine) (h : atI z.cps.toList i = some c) (q : R (.dat (.str ⟨#[c]⟩)) M) : RD K (rIx K) (.dat (.str z)) (.dat (.int i)) M R := fun B vx vy H sx sy hw Q k => by
  cases sx; cases sy
  exact .inr (.inr ⟨z, i, c, rfl, rfl, hz, h, k B _ H (.dat (.str ⟨#[c]⟩)) M (Same.r B) hw (Rp.str _) q⟩)
theorem ru_neg {i : Int} (q : R (.dat (.int (-i))) M) : RU K (rU fun i => .int (-i)) (.dat (.int i)) M R := fun B vx H sx hw Q k => by
  cases sx
  exact ⟨i, rfl, k B _ H (.dat (.int (-i))) M (Same.r B) hw (Rp.int _) q⟩
end
end DL
set_option Elab.async false
set_option linter.all false
set_option maxRecDepth 100000
set_option maxHeartbeats 4000000
namespace DL
open PySem PySem.Spec PyProof.Rows L2

section
variable {K : PySem.W.Frag} {B B' H H' : Hp} {M : MH} {ρ : List Sl} {R : Sl → MH → Prop} {te ta tb tc td ty tv to : TE} {tt tu : TT} {t u ts : TS} {x y z r : Sl} {D : DE} {g : TG}

/-! ### built-ins -/
theorem rc_abs {i : Int} (q : R (.dat (.int (i.natAbs : Int))) M) : RC K (fun xs H Q => ∃ i, xs = [.int i] ∧ Q (.int (if i < 0 then -i else i)) H) [.dat (.int i)] M R := fun B vs H sv hw Q k => by
  cases sv with
  | cons h1 h2 =>
    cases h1; cases h2
    refine ⟨i, rfl, ?_⟩
    have e : (if i < 0 then -i else i) = (i.natAbs : Int) := by split <;> omega
    rw [e]
    exact k B _ H (.dat (.int (i.natAbs : Int))) M (Same.r B) hw (Rp.int _) q
theorem rc_len {n : Nat} {d : PyData} (h : (∃ ds, (d = .list ds ∨ d = .tuple ds) ∧ n = ds.length) ∨ ∃ z : Str, d = .str z ∧ z.length ≤ sizeLine ∧ n = z.length) (q : R (.dat (.int (n : Int))) M) :
    RC K (fun xs H Q => ∃ x n, xs = [x] ∧ LenV K x H n ∧ Q (.int n) H) [.dat d] M R := fun B vs H sv hw Q k => by
  cases sv with
  | cons h1 h2 =>
    cases h2
    refine ⟨_, n, rfl, ?_, k B _ H (.dat (.int (n : Int))) M (Same.r B) hw (Rp.int _) q⟩
    rcases h with ⟨ds, rfl | rfl, hn⟩ | ⟨z, rfl, hz, hn⟩
    · cases h1 with
      | lst hx rx => exact .inl ⟨_, SqL.of (hw.ex _ _ hx), by rw [rx.length]; exact hn⟩
    · cases h1 with
      | tup hx rx => exact .inr ⟨_, sqT_mono hw.ex hx, by rw [rx.length]; exact hn⟩
    · cases h1
      exact ⟨hz, hn⟩
theorem rc_lenScr {ns : List Int} (q : R (.dat (.int (ns.length : Int))) M) : RC K (fun xs H Q => ∃ x n, xs = [x] ∧ LenV K x H n ∧ Q (.int n) H) [.scr ns] M R := fun B vs H sv hw Q k => by
  cases sv with
  | cons h1 h2 =>
    cases h2
    obtain ⟨a, rfl, hs⟩ := h1
    exact ⟨_, ns.length, rfl, .inl ⟨_, sqL_mono hw.ex hs, by rw [List.length_map]⟩, k B _ H (.dat (.int (ns.length : Int))) M (Same.r B) hw (Rp.int _) q⟩
theorem rc_intI {i : Int} (q : R (.dat (.int i)) M) : RC K (fun xs H Q => (∃ i, xs = [.int i] ∧ Q (.int i) H) ∨ ∃ k, xs = [.bl k] ∧ Q (.int (if k then 1 else 0)) H) [.dat (.int i)] M R := fun B vs H sv hw Q k => by
  cases sv with
  | cons h1 h2 =>
    cases h1; cases h2
    exact .inl ⟨i, rfl, k B _ H (.dat (.int i)) M (Same.r B) hw (Rp.int _) q⟩
theorem rc_intB {b : Bool} (q : R (.dat (.int (if b then 1 else 0))) M) : RC K (fun xs H Q => (∃ i, xs = [.int i] ∧ Q (.int i) H) ∨ ∃ k, xs = [.bl k] ∧ Q (.int (if k then 1 else 0)) H) [.dat (.bool b)] M R := fun B vs H sv hw Q k => by
  cases sv with
  | cons h1 h2 =>
    cases h1; cases h2
    exact .inr ⟨b, rfl, k B _ H (.dat (.int (if b then 1 else 0))) M (Same.r B) hw (Rp.int _) q⟩
theorem rc_str {i : Int} (hz : i.natAbs.log2 < 1920) (q : R (.dat (.str (toString i))) M) : RC K (fun xs H Q => ∃ i, xs = [.int i] ∧ i.natAbs.log2 < 1920 ∧ Q (.str (toString i)) H) [.dat (.int i)] M R := fun B vs H sv hw Q k => by
  cases sv with
  | cons h1 h2 =>
    cases h1; cases h2
    exact ⟨i, rfl, hz, k B _ H (.dat (.str (toString i))) M (Same.r B) hw (Rp.str _) q⟩
/-- the built-in class of a datum -/
def tyN : PyData → String
  | .none => "NoneType" | .bool _ => "bool" | .int _ => "int" | .str _ => "str" | .list _ => "list" | .tuple _ => "tuple" | .dict _ => "dict"
theorem rp_ty (e : Same B H) {v : V} {d : PyData} (h : Rp K B v d) : TyX K H v (.type (tyN d)) := by
  cases h with
  | non => exact .base .non
  | bl b => exact .base (.bl b)
  | int i => exact .base (.int i)
  | str x => exact .base (.str x)
  | lst h r => exact .base (.lst (e _ _ h))
  | tup h r =>
    rcases sqT_mono e h with (h | ⟨o, h⟩) | ⟨o, its, n, hk, hc, _⟩
    · exact .base (.tup h)
    · exact .fTuple h
    · exact .kTuple hk hc
  | dic h r => exact .base (.dK (e _ _ h))
theorem rc_isi {d : PyData} {n : String} {b : Bool} (h : kitB (tyN d) n = some b) (q : R (.dat (.bool b)) M) : RC K (rIsi K) [.dat d, .raw (.ty n)] M R := fun B vs H sv hw Q k => by
  cases sv with
  | cons h1 h2 =>
    cases h2 with
    | cons h2 h3 =>
      cases h3
      cases (show _ = V.ty n from h2)
      exact ⟨_, _, _, _, b, rfl, .ty n, rp_ty hw.ex h1, kit_ty h, k B _ H (.dat (.bool b)) M (Same.r B) hw (Rp.bl _) q⟩
/-- list(x) -/
theorem rc_list {d : PyData} {ds : List PyData} (h : d = .list ds ∨ d = .tuple ds) (q : R (.dat (.list ds)) M) : RC K (fun xs H Q => ∃ p ys, xs = [.ref p] ∧ (SqL K H p ys ∨ SqT K H p ys) ∧ ∀ l, H l = none → Q (.ref l) (upd H l (.lst ys))) [.dat d] M R := fun B vs H sv hw Q k => by
  cases sv with
  | cons h1 h2 =>
    cases h2
    rcases h with rfl | rfl
    · cases h1 with
      | lst hx rx => exact ⟨_, _, rfl, .inl (SqL.of (hw.ex _ _ hx)), fun p hp => k _ _ _ (.dat (.list ds)) M (same_new (hw.freeB hp)) (hw.newB hp) (Rp.lst upd_same (rx.mono (same_new (hw.freeB hp)))) q⟩
    · cases h1 with
      | tup hx rx => exact ⟨_, _, rfl, .inr (sqT_mono hw.ex hx), fun p hp => k _ _ _ (.dat (.list ds)) M (same_new (hw.freeB hp)) (hw.newB hp) (Rp.lst upd_same (rx.mono (same_new (hw.freeB hp)))) q⟩
theorem rc_tupleL {ds : List PyData} (q : R (.dat (.tuple ds)) M) : RC K (fun xs H Q => ∃ p ys, xs = [.ref p] ∧ ((SqL K H p ys ∧ ∀ l, H l = none → Q (.ref l) (upd H l (.tup ys))) ∨ (SqT K H p ys ∧ Q (.ref p) H))) [.dat (.list ds)] M R := fun B vs H sv hw Q k => by
  cases sv with
  | cons h1 h2 =>
    cases h2
    cases h1 with
    | lst hx rx => exact ⟨_, _, rfl, .inl ⟨SqL.of (hw.ex _ _ hx), fun p hp => k _ _ _ (.dat (.tuple ds)) M (same_new (hw.freeB hp)) (hw.newB hp) (Rp.tup (SqT.of upd_same) (rx.mono (same_new (hw.freeB hp)))) q⟩⟩
theorem rc_all {bs : List Bool} (q : R (.dat (.bool (bs.all id))) M) : RC K (rAll K) [.dat (.list (bs.map .bool))] M R := fun B vs H sv hw Q k => by
  cases sv with
  | cons h1 h2 =>
    cases h2
    cases h1 with
    | lst hx rx =>
      rw [bools_of rx] at hx
      exact ⟨_, bs, rfl, SqL.of (hw.ex _ _ hx), k B _ H (.dat (.bool (bs.all id))) M (Same.r B) hw (Rp.bl _) q⟩
theorem rc_any {bs : List Bool} (q : R (.dat (.bool (bs.any id))) M) : RC K (rAny K) [.dat (.list (bs.map .bool))] M R := fun B vs H sv hw Q k => by
  cases sv with
  | cons h1 h2 =>
    cases h2
    cases h1 with
    | lst hx rx =>
      rw [bools_of rx] at hx
      exact ⟨_, bs, rfl, SqL.of (hw.ex _ _ hx), k B _ H (.dat (.bool (bs.any id))) M (Same.r B) hw (Rp.bl _) q⟩

/-! ### slices -/
def RS (K : PySem.W.Frag) (r : V → Option Int → Option Int → Hp → VK → Prop) (x : Sl) (lo hi : Option Int) (M : MH) (R : Sl → MH → Prop) : Prop :=
  ∀ B vx H, SlOk K B x vx → Wd K M B H → ∀ Q : VK, (∀ B' v H' r M', Same B B' → Wd K M' B' H' → SlOk K B' r v → R r M' → Q v H') → r vx lo hi H Q
theorem ev_sl {r : V → Option Int → Option Int → Hp → VK → Prop} {tl th : TO} (h : Ev K ta ρ M fun x M1 => EvO K tl ρ M1 fun lo M2 => EvO K th ρ M2 fun hi M3 => RS K r x lo hi M3 R) : Ev K (tSl r ta tl th) ρ M R := fun B σ H he hw Q k =>
  h B σ H he hw _ fun B1 v1 H1 r1 M1 e1 w1 s1 h1 => h1 B1 σ H1 (he.mono e1) w1 _ fun B2 lo H2 M2 e2 w2 h2 => h2 B2 σ H2 (he.mono (e1.trans e2)) w2 _ fun B3 hi H3 M3 e3 w3 h3 =>
    h3 B3 v1 H3 (s1.mono (e2.trans e3)) w3 Q fun B4 v H4 r M4 e4 w4 s4 q => k B4 v H4 r M4 (((e1.trans e2).trans e3).trans e4) w4 s4 q
/-- what is cut out -/
def cutD {α : Type} (xs : List α) (lo hi : Option Int) : List α := (xs.drop (HT.sIx xs.length 0 lo)).take (HT.sIx xs.length xs.length hi - HT.sIx xs.length 0 lo)
theorem cut_rp {xs : List V} {ds : List PyData} (h : RpAll K B xs ds) (lo hi : Option Int) : RpAll K B (cutV xs lo hi) (cutD ds lo hi) := by
  unfold cutV cutD
  rw [h.length]
  exact (h.drop _).take _
theorem cut_all {α : Type} {xs : List α} {lo hi : Option Int} (h : HT.sIx xs.length 0 lo = 0 ∧ HT.sIx xs.length xs.length hi = xs.length) : cutD xs lo hi = xs := by
  unfold cutD
  rw [h.1, h.2]
  simp
theorem rs_list {ds : List PyData} {lo hi : Option Int} (q : R (.dat (.list (cutD ds lo hi))) M) : RS K (rSlU K) (.dat (.list ds)) lo hi M R := fun B vx H sx hw Q k => by
  cases sx with
  | lst hx rx => exact .inl ⟨_, _, rfl, SqL.of (hw.ex _ _ hx), fun p hp => k _ _ _ (.dat (.list (cutD ds lo hi))) M (same_new (hw.freeB hp)) (hw.newB hp) (Rp.lst upd_same ((cut_rp rx lo hi).mono (same_new (hw.freeB hp)))) q⟩
theorem rs_scr {ns : List Int} {lo hi : Option Int} (q : R (.dat (.list (cutD (ns.map .int) lo hi))) M) : RS K (rSlU K) (.scr ns) lo hi M R := fun B vx H sx hw Q k => by
  obtain ⟨a, rfl, hs⟩ := sx
  exact .inl ⟨_, _, rfl, sqL_mono hw.ex hs, fun p hp => k _ _ _ (.dat (.list (cutD (ns.map .int) lo hi))) M (same_new (hw.freeB hp)) (hw.newB hp) (Rp.lst upd_same ((cut_rp (rpAll_ints ns) lo hi).mono (same_new (hw.freeB hp)))) q⟩
theorem rs_tup {ds : List PyData} {lo hi : Option Int} (q : R (.dat (.tuple (cutD ds lo hi))) M) : RS K (rSlU K) (.dat (.tuple ds)) lo hi M R := fun B vx H sx hw Q k => by
  cases sx with
  | tup hx rx =>
    rename_i a xs
    refine .inr (.inl ⟨a, xs, rfl, sqT_mono hw.ex hx, fun e => ?_, fun _ p hp => k _ _ _ (.dat (.tuple (cutD ds lo hi))) M (same_new (hw.freeB hp)) (hw.newB hp) (Rp.tup (SqT.of upd_same) ((cut_rp rx lo hi).mono (same_new (hw.freeB hp)))) q⟩)
    rw [rx.length] at e
    rw [cut_all e] at q
    exact k _ _ _ (.dat (.tuple ds)) M (Same.r B) hw (Rp.tup hx rx) q
theorem rs_str {z : Str} {lo hi : Option Int} (hz : z.length ≤ sizeLine) (q : R (.dat (.str (cutS z lo hi))) M) : RS K (rSlU K) (.dat (.str z)) lo hi M R := fun B vx H sx hw Q k => by
  cases sx
  exact .inr (.inr ⟨z, rfl, hz, k B _ H (.dat (.str (cutS z lo hi))) M (Same.r B) hw (Rp.str _) q⟩)
theorem ev_rev (h : Ev K ta ρ M fun x M1 => ∃ ds, x = .dat (.list ds) ∧ R (.dat (.list ds.reverse)) M1) : Ev K (tRevL K ta) ρ M R := fun B σ H he hw Q k =>
  h B σ H he hw _ fun B1 v1 H1 r1 M1 e1 w1 s1 ⟨ds, ex, q⟩ => by
    subst ex
    cases s1 with
    | lst hx rx => exact ⟨_, _, rfl, SqL.of (w1.ex _ _ hx), fun p hp => k _ _ _ (.dat (.list ds.reverse)) M1 (e1.trans (same_new (w1.freeB hp))) (w1.newB hp) (Rp.lst upd_same (rx.rev.mono (same_new (w1.freeB hp)))) q⟩
/-- xs[::-1], a new list that will change -/
theorem ev_revM (h : Ev K ta ρ M fun x M1 => ∃ ds, x = .dat (.list ds) ∧ ∀ p, M1 p = none → R (.raw (.ref p)) (setM M1 p (.lst (dats ds.reverse)))) : Ev K (tRevL K ta) ρ M R := fun B σ H he hw Q k =>
  h B σ H he hw _ fun B1 v1 H1 r1 M1 e1 w1 s1 ⟨ds, ex, q⟩ => by
    subst ex
    cases s1 with
    | lst hx rx => exact ⟨_, _, rfl, SqL.of (w1.ex _ _ hx), fun p hp => k _ _ _ (.raw (.ref p)) _ e1 (w1.newM hp (m := .lst (dats ds.reverse)) (of_rpAll rx.rev)) rfl (q p (w1.freeM hp))⟩

/-! ### what is walked -/
theorem ei_seq {R : List PyData → MH → Prop} (h : Ev K ta ρ M fun x M1 => ∃ ds, (x = .dat (.list ds) ∨ x = .dat (.tuple ds) ∨ (∃ ns, x = .scr ns ∧ ds = ns.map .int) ∨ ∃ z : Str, x = .dat (.str z) ∧ ds = z.cps.toList.map fun c => .str ⟨#[c]⟩) ∧ R ds M1) : EvI K (iSeq K ta) ρ M R := fun B σ H he hw Rc k =>
  h B σ H he hw _ fun B1 v1 H1 r1 M1 e1 w1 s1 ⟨ds, ex, q⟩ => by
    have lst : ∀ a xs, (∀ B2 H2 M2, Same B1 B2 → Wd K M2 B2 H2 → SqL K H2 a xs) → RpAll K B1 xs ds → ItOk K B1 (Itl K a) ds := by
      intro a xs hx rx B2 M2 H2 e2 w2 i
      have hs : SqL K H2 a xs := hx B2 H2 M2 e2 w2
      refine ⟨fun hn => ⟨xs, hs, by rw [rx.length]; exact hn⟩, fun d hd => ?_⟩
      obtain ⟨v, h1, h2⟩ := rx.get hd
      refine ⟨⟨xs, v, hs, h1⟩, ?_⟩
      rintro x H3 ⟨rfl, hy⟩
      have := hy xs hs
      rw [h1] at this
      cases this
      exact ⟨B2, Same.r B2, w2, h2.mono e2⟩
    rcases ex with rfl | rfl | ⟨ns, rfl, rfl⟩ | ⟨z, rfl, rfl⟩
    · cases s1 with
      | lst hx rx =>
        rename_i a xs
        exact .inl ⟨a, rfl, ⟨xs, SqL.of (w1.ex _ _ hx)⟩, k B1 _ H1 ds M1 e1 w1 (lst a xs (fun B2 H2 M2 e2 w2 => SqL.of (w2.ex _ _ (e2 _ _ hx))) rx) q⟩
    · cases s1 with
      | tup hx rx =>
        rename_i a xs
        refine .inr (.inl ⟨a, rfl, ⟨xs, sqT_mono w1.ex hx⟩, k B1 _ H1 ds M1 e1 w1 ?_ q⟩)
        intro B2 M2 H2 e2 w2 i
        have hs : SqT K H2 a xs := sqT_mono w2.ex (sqT_mono e2 hx)
        refine ⟨fun hn => ⟨xs, hs, by rw [rx.length]; exact hn⟩, fun d hd => ?_⟩
        obtain ⟨v, h1, h2⟩ := rx.get hd
        refine ⟨⟨xs, v, hs, h1⟩, ?_⟩
        rintro x H3 ⟨rfl, hy⟩
        have := hy xs hs
        rw [h1] at this
        cases this
        exact ⟨B2, Same.r B2, w2, h2.mono e2⟩
    · obtain ⟨a, rfl, hs⟩ := s1
      exact .inl ⟨a, rfl, ⟨_, sqL_mono w1.ex hs⟩, k B1 _ H1 _ M1 e1 w1 (lst a _ (fun B2 H2 M2 e2 w2 => sqL_mono w2.ex (sqL_mono e2 hs)) (rpAll_ints ns)) q⟩
    · cases s1
      refine .inr (.inr ⟨z, rfl, k B1 _ H1 _ M1 e1 w1 ?_ q⟩)
      intro B2 M2 H2 e2 w2 i
      refine ⟨fun hn => by rw [List.length_map, Array.length_toList] at hn; exact hn, fun d hd => ?_⟩
      rw [List.getElem?_map] at hd
      cases ec : z.cps.toList[i]? with
      | none => rw [ec] at hd; cases hd
      | some c =>
        rw [ec] at hd
        obtain rfl : PyData.str ⟨#[c]⟩ = d := Option.some.inj hd
        have ec' : z.cps[i]? = some c := by rw [← Array.getElem?_toList]; exact ec
        refine ⟨?_, ?_⟩
        · exact (Array.getElem?_eq_some_iff.mp ec').1
        · rintro x H3 ⟨rfl, c', hc', rfl⟩
          rw [ec'] at hc'
          cases hc'
          exact ⟨B2, Same.r B2, w2, .str _⟩
def rangeD (lo : Int) (n : Nat) : List PyData := (List.range n).map fun i : Nat => .int (lo + (i : Int))
theorem itr_ok {lo : Int} {n : Nat} : ItOk K B (Itr lo n) (rangeD lo n) := by
  intro B2 M2 H2 e2 w2 i
  refine ⟨fun hn => by unfold rangeD at hn; rw [List.length_map, List.length_range] at hn; exact hn, fun d hd => ?_⟩
  unfold rangeD at hd
  rw [List.getElem?_map] at hd
  by_cases hi : i < n
  · rw [List.getElem?_range hi] at hd
    obtain rfl : PyData.int (lo + (i : Int)) = d := Option.some.inj hd
    refine ⟨hi, ?_⟩
    rintro x H3 ⟨rfl, rfl⟩
    exact ⟨B2, Same.r B2, w2, .int _⟩
  · rw [List.getElem?_eq_none (by rw [List.length_range]; omega)] at hd
    cases hd
theorem ei_range1 {t : TA} {R : List PyData → MH → Prop} (h : EvA K t ρ M fun xs M1 => ∃ n : Int, xs = [.dat (.int n)] ∧ (-(2 ^ 62) ≤ n ∧ n < 2 ^ 62) ∧ R (rangeD 0 n.toNat) M1) : EvI K (iRng1 t) ρ M R := fun B σ H he hw Rc k =>
  h B σ H he hw _ fun B1 vs H1 rs M1 e1 w1 s1 ⟨n, ex, hn, q⟩ => by
    subst ex
    cases s1 with
    | cons a b =>
      cases a; cases b
      exact ⟨n, rfl, hn.1, hn.2, k B1 _ H1 _ M1 e1 w1 itr_ok q⟩
theorem ei_range2 {t : TA} {R : List PyData → MH → Prop} (h : EvA K t ρ M fun xs M1 => ∃ m n : Int, xs = [.dat (.int m), .dat (.int n)] ∧ (-(2 ^ 62) ≤ m ∧ m < 2 ^ 62 ∧ -(2 ^ 62) ≤ n ∧ n < 2 ^ 62) ∧ R (rangeD m (n - m).toNat) M1) : EvI K (iRng2 t) ρ M R := fun B σ H he hw Rc k =>
  h B σ H he hw _ fun B1 vs H1 rs M1 e1 w1 s1 ⟨m, n, ex, hn, q⟩ => by
    subst ex
    cases s1 with
    | cons a b =>
      cases a
      cases b with
      | cons a b =>
        cases a; cases b
        exact ⟨m, n, rfl, hn, k B1 _ H1 _ M1 e1 w1 itr_ok q⟩
def zipD (xs ys : List PyData) : List PyData := List.zipWith (fun x y => .tuple [x, y]) xs ys
theorem ei_zip {t : TA} {R : List PyData → MH → Prop} (h : EvA K t ρ M fun xs M1 => ∃ ds es, xs = [.dat (.list ds), .dat (.list es)] ∧ R (zipD ds es) M1) : EvI K (iZip K t) ρ M R := fun B σ H he hw Rc k =>
  h B σ H he hw _ fun B1 vs H1 rs M1 e1 w1 s1 ⟨ds, es, ex, q⟩ => by
    subst ex
    cases s1 with
    | cons a b =>
      cases a with
      | lst ha ra =>
        rename_i a xs
        cases b with
        | cons c d =>
          cases d
          cases c with
          | lst hb rb =>
            rename_i b ys
            refine ⟨a, b, xs, ys, rfl, SqL.of (w1.ex _ _ ha), SqL.of (w1.ex _ _ hb), k B1 _ H1 _ M1 e1 w1 ?_ q⟩
            intro B2 M2 H2 e2 w2 i
            have h1 : SqL K H2 a xs := SqL.of (w2.ex _ _ (e2 _ _ ha))
            have h2 : SqL K H2 b ys := SqL.of (w2.ex _ _ (e2 _ _ hb))
            refine ⟨fun hn => ⟨xs, ys, h1, h2, ?_⟩, fun dd hd => ?_⟩
            · unfold zipD at hn
              rw [List.length_zipWith] at hn
              rw [ra.length, rb.length]
              omega
            · unfold zipD at hd
              rw [List.getElem?_zipWith] at hd
              cases e3 : ds[i]? with
              | none => rw [e3] at hd; simp at hd
              | some d1 =>
                cases e4 : es[i]? with
                | none => rw [e3, e4] at hd; simp at hd
                | some d2 =>
                  rw [e3, e4] at hd
                  obtain rfl : PyData.tuple [d1, d2] = dd := by simpa using hd
                  obtain ⟨v1, a1, b1⟩ := ra.get e3
                  obtain ⟨v2, a2, b2⟩ := rb.get e4
                  refine ⟨⟨xs, ys, v1, v2, h1, h2, a1, a2⟩, ?_⟩
                  rintro x H3 ⟨T, x1, x2, rfl, nT, rfl, f1, f2⟩
                  have g1 := f1 _ h1
                  have g2 := f2 _ h2
                  rw [a1] at g1; rw [a2] at g2
                  cases g1; cases g2
                  have s2 := same_new (o := .tup [v1, v2]) (w2.freeB nT)
                  exact ⟨_, s2, w2.newB nT, .tup (SqT.of upd_same) (.cons (b1.mono (e2.trans s2)) (.cons (b2.mono (e2.trans s2)) .nil))⟩
end
end DL
set_option Elab.async false
set_option linter.all false
set_option maxRecDepth 100000
set_option maxHeartbeats 4000000
namespace DL
open PySem PySem.Spec PyProof.Rows L2

/-! ### repr of data -/
mutual
def hasList : PyData → Bool
  | .none | .bool _ | .int _ | .str _ => false
  | .list _ => true
  | .tuple xs => hasListAll xs
  | .dict kvs => hasListKv kvs
def hasListAll : List PyData → Bool
  | [] => false
  | x :: xs => hasList x || hasListAll xs
def hasListKv : List (PyData × PyData) → Bool
  | [] => false
  | (_, v) :: r => hasList v || hasListKv r
end
section
variable {X : Cx} {pins : List (Addr × Obj)} {σ : L2.St} {H : Hp} {s : Shared}
mutual
theorem Rp.reads (I : Inv X pins σ H s) : ∀ (d : PyData) (v : V) (u : Value), Rp X.K H v d → RelV v u → ∃ as, Reads s.heap u d as ∧ (hasList d = false → sysModules ∉ as)
  | .none, _, _, h, r => by cases h; cases r; exact ⟨_, Reads.none, fun _ h => by cases h⟩
  | .bool b, _, _, h, r => by cases h; cases r; exact ⟨_, Reads.bool b, fun _ h => by cases h⟩
  | .int i, _, _, h, r => by cases h; obtain ⟨t, rfl⟩ := r; exact ⟨_, Reads.int i t, fun _ h => by cases h⟩
  | .str x, _, _, h, r => by cases h; obtain ⟨t, rfl⟩ := r; exact ⟨_, Reads.str x t, fun _ h => by cases h⟩
  | .list ds, _, _, h, r => by
    cases h with
    | lst hs ha =>
      cases r
      obtain ⟨its, rv, ⟨o, n, ho, hc, _, hd⟩, _⟩ := I.list (SqL.of hs)
      obtain ⟨as, hr, _⟩ := Rp.readsAll I ds _ its ha rv
      exact ⟨_, Reads.list ho hc hd hr, fun h => by simp only [hasList] at h; cases h⟩
  | .tuple ds, _, _, h, r => by
    cases h with
    | tup hs ha =>
      cases r
      obtain ⟨its, rv, ⟨o, ho, hc, n, hd⟩, _⟩ := I.tuple hs
      obtain ⟨as, hr, hn⟩ := Rp.readsAll I ds _ its ha rv
      exact ⟨_, Reads.tuple ho hc hd hr, fun h => hn (by simpa only [hasList] using h)⟩
  | .dict es, _, _, h, r => by
    cases h with
    | dic hs ha =>
      cases r
      obtain ⟨_, hsys, vs, kv, o, des, ep, ho, hex, hd, hk, hp, _⟩ := dk_of I.hok hs
      obtain ⟨as, bs, r1, r2, n1, n2⟩ := Rp.readsKv I es _ vs des.toList ha kv hp
      refine ⟨_, Reads.dict ho hex.1 hd r1 r2, fun h => ?_⟩
      simp only [hasList] at h
      intro hm
      rcases List.mem_cons.mp (by simpa only [List.cons_append] using hm) with e | hm
      · rw [← e] at hsys
        simp at hsys
      · rcases List.mem_append.mp hm with hm | hm
        · exact n1 hm
        · exact n2 h hm
theorem Rp.readsAll (I : Inv X pins σ H s) : ∀ (ds : List PyData) (vs : List V) (us : List Value), RpAll X.K H vs ds → Vals vs us → ∃ as, ReadsAll s.heap us ds as ∧ (hasListAll ds = false → sysModules ∉ as)
  | [], _, _, h, r => by cases h; cases r; exact ⟨_, ReadsAll.nil, fun _ h => by cases h⟩
  | d :: ds, _, _, h, r => by
    cases h with
    | cons h1 h2 =>
      cases r with
      | cons r1 r2 =>
        obtain ⟨as, q1, n1⟩ := Rp.reads I d _ _ h1 r1
        obtain ⟨bs, q2, n2⟩ := Rp.readsAll I ds _ _ h2 r2
        refine ⟨_, ReadsAll.cons q1 q2, fun h => ?_⟩
        simp only [hasListAll, Bool.or_eq_false_iff] at h
        intro hm
        rcases List.mem_append.mp hm with hm | hm
        · exact n1 h.1 hm
        · exact n2 h.2 hm
theorem Rp.readsKv (I : Inv X pins σ H s) : ∀ (es : List (PyData × PyData)) (kvs : List (Key × V)) (vs : List (Key × Value)) (des : List DictEntry), RpKv X.K H kvs es → KV kvs vs → Pairs (mixKind X.prog X.w) des vs →
    ∃ as bs, ReadsAll s.heap (des.map (·.key)) (es.map (·.1)) as ∧ ReadsAll s.heap (des.map (·.val)) (es.map (·.2)) bs ∧ sysModules ∉ as ∧ (hasListKv es = false → sysModules ∉ bs)
  | [], _, _, _, h, r, p => by
    cases h
    cases r
    cases p
    exact ⟨_, _, ReadsAll.nil, ReadsAll.nil, (fun h => by cases h), fun _ h => by cases h⟩
  | (k, d) :: es, _, _, _, h, r, p => by
    cases h with
    | @cons key v kvs _ _ h1 h2 =>
      cases r with
      | @cons _ q _ vs2 r1 r2 =>
        cases p with
        | @cons de _ des2 _ p0 p1 p2 =>
          obtain ⟨as, bs, a1, a2, n1, n2⟩ := Rp.readsKv I es _ _ _ h2 r2 p2
          obtain ⟨q1, q2⟩ := q
          obtain ⟨re, r1⟩ := r1
          have re : key = q1 := re
          subst re
          have p1 : de.val = q2 := p1
          obtain ⟨cs, c1, c2⟩ := Rp.reads I d _ _ h1 r1
          have hk : ∃ t, Reads s.heap de.key (kD key) t ∧ t = [] := by
            rcases keyIs_shape (show keyIs key de.key = true from p0) with ⟨i, t, e1, e2⟩ | ⟨x, t, e1, e2⟩
            · rw [e1, e2]; exact ⟨_, Reads.int i t, rfl⟩
            · rw [e1, e2]; exact ⟨_, Reads.str x t, rfl⟩
          obtain ⟨t, ht, et⟩ := hk
          subst et
          rw [← p1] at c1
          refine ⟨_, _, ReadsAll.cons ht a1, ReadsAll.cons c1 a2, n1, fun h => ?_⟩
          simp only [hasListKv, Bool.or_eq_false_iff] at h
          intro hm
          rcases List.mem_append.mp hm with hm | hm
          · exact c2 h.1 hm
          · exact n2 h.2 hm
end
theorem rp_depth0 {d : PyData} (h : d.depth ≤ 60) : d.depth + 1 ≤ 61 := by omega
/-- repr of a datum -/
theorem call_reprD (hg : X.A.guards = some []) (hu : X.A.units + 64 < cLine) : CallR X (.builtin "repr") (fun xs H Q => ∃ v d, xs = [v] ∧ Rp X.K H v d ∧ d.showable = true ∧ (d.hasDict = false ∨ hasList d = false) ∧ d.shown.length ≤ sizeLine ∧ d.depth ≤ 60 ∧ Q (.str d.shown) H) := by
  intro pins s σ H xs us Q I r h
  obtain ⟨v, d, rfl, hr, hs, hl, hz, hd, q⟩ := h
  obtain ⟨u, rfl, ru⟩ := vals1 r
  obtain ⟨as, rd, hn⟩ := Rp.reads I d v u hr ru
  have hsm : d.hasDict = true → sysModules ∉ as := fun h => by
    rcases hl with h2 | h2
    · rw [h] at h2; cases h2
    · exact hn h2
  cases hr with
  | non => cases ru; exact PySem.P.repr_of_none ⟨.str _, H, I.tok _, ⟨_, rfl⟩, by simpa only [PyData.shown] using q⟩
  | bl b => cases ru; exact PySem.P.repr_of_bool ⟨.str _, H, I.tok _, ⟨_, rfl⟩, by simpa only [PyData.shown] using q⟩
  | int i =>
    obtain ⟨t, rfl⟩ := ru
    exact PySem.P.repr_of_int (by simpa [PyData.showable] using hs) ⟨.str _, H, I.tok _, ⟨_, rfl⟩, by simpa only [PyData.shown] using q⟩
  | str x =>
    obtain ⟨t, rfl⟩ := ru
    exact PySem.P.repr_of_str ⟨.str _, H, I.tok _, ⟨_, rfl⟩, by simpa only [PyData.shown] using q⟩ (by simpa only [PyData.shown] using hz)
  | lst a b =>
    cases ru
    exact repr_of_reads' rd hs hsm hg (by omega) (fun _ _ e => e) (fun h' u tk hk => ⟨.str _, H, I.kept hk, ⟨_, rfl⟩, q⟩) hz
  | tup a b =>
    cases ru
    exact repr_of_reads' rd hs hsm hg (by omega) (fun _ _ e => e) (fun h' u tk hk => ⟨.str _, H, I.kept hk, ⟨_, rfl⟩, q⟩) hz
  | dic a b =>
    cases ru
    exact repr_of_reads' rd hs hsm hg (by omega) (fun _ _ e => e) (fun h' u tk hk => ⟨.str _, H, I.kept hk, ⟨_, rfl⟩, q⟩) hz
end
end DL
set_option Elab.async false
set_option linter.all false
set_option maxRecDepth 100000
set_option maxHeartbeats 4000000
namespace DL
open PySem PySem.Spec PyProof.Rows L2

section
variable {K : PySem.W.Frag} {B B' H H' : Hp} {M : MH} {ρ : List Sl} {R : Sl → MH → Prop} {te ta tb tc td ty tv to : TE} {tt tu : TT} {t u ts : TS} {x y z r : Sl} {D : DE} {g : TG}

def rReprD (K : PySem.W.Frag) : List V → Hp → VK → Prop := fun xs H Q => ∃ v d, xs = [v] ∧ Rp K H v d ∧ d.showable = true ∧ (d.hasDict = false ∨ hasList d = false) ∧ d.shown.length ≤ sizeLine ∧ d.depth ≤ 60 ∧ Q (.str d.shown) H
theorem call_repr' {X : Cx} {k : Nat} (hr : Rm k X.A) : CallR X (.builtin "repr") (rReprD X.K) := call_reprD hr.g hr.units0
/-- what repr asks of a datum -/
structure Sho (d : PyData) : Prop where
  s : d.showable = true
  l : d.hasDict = false ∨ hasList d = false
  z : d.shown.length ≤ sizeLine
  p : d.depth ≤ 60
theorem rc_repr {d : PyData} (h : Sho d) (q : R (.dat (.str d.shown)) M) : RC K (rReprD K) [.dat d] M R := fun B vs H sv hw Q k => by
  cases sv with
  | cons h1 h2 =>
    cases h2
    exact ⟨_, d, rfl, Rp.mono hw.ex h1, h.s, h.l, h.z, h.p, k B _ H (.dat (.str d.shown)) M (Same.r B) hw (Rp.str _) q⟩

/-! ### c in a text, join -/
def rInC : R2 := fun x y H Q => ∃ (c : Nat) (z : Str), x = .str ⟨#[c]⟩ ∧ y = .str z ∧ Q (.bl (decide (c ∈ z.cps.toList))) H
theorem op_inC {X : Cx} : OpR X (compareOp .In) rInC := op_in_sign
theorem rd_inC {c : Nat} {z : Str} (q : R (.dat (.bool (decide (c ∈ z.cps.toList)))) M) : RD K rInC (.dat (.str ⟨#[c]⟩)) (.dat (.str z)) M R := fun B vx vy H sx sy hw Q k => by
  cases sx; cases sy
  exact ⟨c, z, rfl, rfl, k B _ H (.dat (.bool (decide (c ∈ z.cps.toList)))) M (Same.r B) hw (Rp.bl _) q⟩
theorem ev_join {ys : List Str} (h : Ev K ta ρ M fun x M1 => ∃ a, x = .dat (.str a) ∧ Ev K tb ρ M1 fun y M2 => ∃ ys : List Str, y = .dat (.list (ys.map .str)) ∧ (ys.map (·.length)).sum + ys.length * a.length ≤ 16777216 ∧ R (.dat (.str (Txt.join a ys))) M2) :
    Ev K (tM1 (fun x xs H Q => ∃ a p, ∃ ys : List Str, x = .str a ∧ xs = [.ref p] ∧ (SqL K H p (ys.map V.str) ∨ SqT K H p (ys.map V.str)) ∧ (ys.map (·.length)).sum + ys.length * a.length ≤ 16777216 ∧ Q (.str (Txt.join a ys)) H) ta tb) ρ M R := fun B σ H he hw Q k =>
  h B σ H he hw _ fun B1 v1 H1 r1 M1 e1 w1 s1 ⟨a, ex, h1⟩ => by
    subst ex
    cases s1
    refine ⟨⟨a, rfl⟩, h1 B1 σ H1 (he.mono e1) w1 _ fun B2 v2 H2 r2 M2 e2 w2 s2 q => ?_⟩
    obtain ⟨ys, ey, hz, q⟩ := q
    subst ey
    cases s2 with
    | lst hx rx =>
      rename_i p xs
      rw [strs_of rx] at hx
      exact ⟨a, p, ys, rfl, rfl, .inl (SqL.of (w2.ex _ _ hx)), hz, k B2 _ H2 (.dat (.str (Txt.join a ys))) M2 (e1.trans e2) w2 (Rp.str _) q⟩

/-! ### dicts that may change -/
def valS {κ : Type} [DecidableEq κ] (kvs : List (κ × Sl)) (k : κ) : Option Sl := (kvs.find? fun kv => decide (kv.1 = k)).map (·.2)
def putS {κ : Type} [DecidableEq κ] (kvs : List (κ × Sl)) (k : κ) (v : Sl) : List (κ × Sl) :=
  if (kvs.any fun kv => decide (kv.1 = k)) = true then kvs.map (fun kv => if kv.1 = k then (kv.1, v) else kv) else kvs ++ [(k, v)]
abbrev PKv {κ : Type} (K : PySem.W.Frag) (B : Hp) : List (κ × Sl) → List (κ × V) → Prop := Paired (fun p q => p.1 = q.1 ∧ SlOk K B p.2 q.2)
theorem val_rel {κ : Type} [DecidableEq κ] {k : κ} {r : Sl} : ∀ {ks : List (κ × Sl)} {vs : List (κ × V)}, PKv K B ks vs → valS ks k = some r → ∃ v, valV vs k = some v ∧ SlOk K B r v
  | _, _, .nil, e => by cases e
  | p :: ks, q :: vs, .cons h t, e => by
    unfold valS at e
    rw [List.find?_cons] at e
    by_cases h1 : p.1 = k
    · rw [decide_eq_true h1] at e
      obtain rfl : p.2 = r := Option.some.inj e
      exact ⟨q.2, valV_pos (by rw [← h.1]; exact h1), h.2⟩
    · rw [decide_eq_false h1] at e
      obtain ⟨v, e1, e2⟩ := val_rel (ks := ks) t e
      exact ⟨v, by rw [valV_neg (by rw [← h.1]; exact h1)]; exact e1, e2⟩
theorem any_rel {κ : Type} [DecidableEq κ] {k : κ} : ∀ {ks : List (κ × Sl)} {vs : List (κ × V)}, PKv K B ks vs → (ks.any fun kv => decide (kv.1 = k)) = (vs.any fun kv => decide (kv.1 = k))
  | _, _, .nil => rfl
  | p :: ks, q :: vs, .cons h t => by rw [List.any_cons, List.any_cons, h.1, any_rel (ks := ks) t]
theorem put_map {κ : Type} [DecidableEq κ] {k : κ} {r : Sl} {v : V} (hr : SlOk K B r v) : ∀ {ks : List (κ × Sl)} {vs : List (κ × V)}, PKv K B ks vs → PKv K B (ks.map fun kv => if kv.1 = k then (kv.1, r) else kv) (vs.map fun kv => if kv.1 = k then (kv.1, v) else kv)
  | _, _, .nil => .nil
  | p :: ks, q :: vs, .cons h t => by
    rw [List.map_cons, List.map_cons]
    refine .cons ?_ (put_map hr t)
    rw [h.1]
    by_cases e : q.1 = k
    · rw [if_pos e, if_pos e]; exact ⟨rfl, hr⟩
    · rw [if_neg e, if_neg e]; exact ⟨h.1, h.2⟩
theorem put_rel {κ : Type} [DecidableEq κ] {k : κ} {r : Sl} {v : V} (hr : SlOk K B r v) {ks : List (κ × Sl)} {vs : List (κ × V)} (h : PKv K B ks vs) : PKv K B (putS ks k r) (putK vs k v) := by
  unfold putS putK
  rw [any_rel h]
  split
  · exact put_map hr h
  · exact pr_app h (.cons ⟨rfl, hr⟩ .nil)
/-- the key that a datum is -/
def keyD : PyData → Option Key
  | .int i => some (.inl i)
  | .str x => some (.inr x)
  | _ => none
theorem key_rp {d : PyData} {k : Key} {v : V} (h : keyD d = some k) (r : Rp K B v d) : v = kV k := by
  cases r <;> first
    | (cases h; rfl)
    | cases h
theorem ev_dget (h : Ev K td ρ M fun x M1 => ∃ p, x = .raw (.ref p) ∧ Ev K ty ρ M1 fun y M2 => ∃ d k kvs r, y = .dat d ∧ keyD d = some k ∧ M2 p = some (.dK kvs) ∧ valS kvs k = some r ∧ R r M2) : Ev K (tDGet td ty) ρ M R := fun B σ H he hw Q k =>
  h B σ H he hw _ fun B1 v1 H1 r1 M1 e1 w1 s1 ⟨p, ex, h1⟩ => by
    subst ex
    cases (show v1 = .ref p from s1)
    refine h1 B1 σ H1 (he.mono e1) w1 _ fun B2 v2 H2 r2 M2 e2 w2 s2 q => ?_
    obtain ⟨d, kk, kvs, r, ey, hk, hM, hv, q⟩ := q
    subst ey
    cases key_rp hk s2
    obtain ⟨o, ho, hmo⟩ := w2.mo p _ hM
    cases o with
    | dK vs =>
      obtain ⟨v, hv2, sv⟩ := val_rel (show PKv K B2 kvs vs from hmo) hv
      exact ⟨p, v, rfl, by rw [← hv2]; exact DGet.k ho, k B2 v H2 r M2 (e1.trans e2) w2 sv q⟩
    | _ => exact hmo.elim
theorem x_dput (h : Ev K tv ρ M fun r M1 => Ev K td ρ M1 fun x M2 => ∃ p, x = .raw (.ref p) ∧ Ev K ty ρ M2 fun y M3 => ∃ d k kvs, y = .dat d ∧ keyD d = some k ∧ M3 p = some (.dK kvs) ∧ kvs.length < sizeLine ∧ D.nx ρ (setM M3 p (.dK (putS kvs k r)))) :
    Xs K (sDPut td ty tv) ρ M D := fun B σ H he hw Dc s =>
  h B σ H he hw _ fun B1 v1 H1 r1 M1 e1 w1 s1 h1 => h1 B1 σ H1 (he.mono e1) w1 _ fun B2 v2 H2 r2 M2 e2 w2 s2 ⟨p, ex, h2⟩ => by
    subst ex
    cases (show v2 = .ref p from s2)
    refine h2 B2 σ H2 (he.mono (e1.trans e2)) w2 _ fun B3 v3 H3 r3 M3 e3 w3 s3 q => ?_
    obtain ⟨d, kk, kvs, ey, hk, hM, hz, q⟩ := q
    subst ey
    cases key_rp hk s3
    obtain ⟨o, ho, hmo⟩ := w3.mo p _ hM
    cases o with
    | dK vs =>
      have hp : PKv K B3 kvs vs := hmo
      refine ⟨p, _, rfl, DPut.k ho (by rw [← pr_len hp]; exact hz), s.nx B3 σ _ ρ _ ((e1.trans e2).trans e3) (he.mono ((e1.trans e2).trans e3)) (w3.put hM (m := .dK (putS kvs kk r1)) (put_rel (s1.mono (e2.trans e3)) hp)) q⟩
    | _ => exact hmo.elim
/-- a display of pairs -/
def EvP (K : PySem.W.Frag) : List (TE × TE) → List Sl → MH → (List (Sl × Sl) → MH → Prop) → Prop
  | [], _, M, R => R [] M
  | (tk, tv) :: trs, ρ, M, R => Ev K tk ρ M fun a M1 => Ev K tv ρ M1 fun b M2 => EvP K trs ρ M2 fun ps M3 => R ((a, b) :: ps) M3
theorem evp_run : ∀ {trs : List (TE × TE)} {ρ : List Sl} {M : MH} {R : List (Sl × Sl) → MH → Prop}, EvP K trs ρ M R → ∀ B σ H, En K B ρ σ → Wd K M B H → ∀ Q : List (V × V) → Hp → Prop,
    (∀ B' vs H' rs M', Same B B' → Wd K M' B' H' → Paired (fun (p : Sl × Sl) (q : V × V) => SlOk K B' p.1 q.1 ∧ SlOk K B' p.2 q.2) rs vs → R rs M' → Q vs H') → tPairs trs σ H Q
  | [], _, _, _, h, B, σ, H, he, hw, Q, k => k B [] H [] _ (Same.r B) hw .nil h
  | (tk, tv) :: trs, _, _, _, h, B, σ, H, he, hw, Q, k => by
    show tk σ H fun x H1 => tv σ H1 fun y H2 => tPairs trs σ H2 fun ps H3 => Q ((x, y) :: ps) H3
    refine h B σ H he hw _ fun B1 v1 H1 r1 M1 e1 w1 s1 h1 => h1 B1 σ H1 (he.mono e1) w1 _ fun B2 v2 H2 r2 M2 e2 w2 s2 h2 => ?_
    refine evp_run h2 B2 σ H2 (he.mono (e1.trans e2)) w2 _ fun B3 vs H3 rs M3 e3 w3 s3 q => ?_
    exact k B3 _ H3 _ M3 ((e1.trans e2).trans e3) w3 (.cons ⟨s1.mono (e2.trans e3), s2.mono e3⟩ s3) q
def mergeS (kvs more : List (Key × Sl)) : List (Key × Sl) := more.foldl (fun acc kv => putS acc kv.1 kv.2) kvs
theorem merge_rel : ∀ {more : List (Key × Sl)} {mv : List (Key × V)} {ks : List (Key × Sl)} {vs : List (Key × V)}, PKv K B more mv → PKv K B ks vs → PKv K B (mergeS ks more) (mergeK vs mv)
  | _, _, _, _, .nil, h => h
  | p :: more, q :: mv, ks, vs, .cons h t, h2 => by
    show PKv K B (mergeS (putS ks p.1 p.2) more) (mergeK (putK vs q.1 q.2) mv)
    refine merge_rel t ?_
    rw [h.1]
    exact put_rel h.2 h2
theorem disp_keys : ∀ {kvs : List (Key × Sl)} {vs : List (V × V)}, Paired (fun (p : Sl × Sl) (q : V × V) => SlOk K B p.1 q.1 ∧ SlOk K B p.2 q.2) (kvs.map fun kv => (Sl.dat (kD kv.1), kv.2)) vs →
    ∃ kws : List (Key × V), vs = kws.map (fun kv => (kV kv.1, kv.2)) ∧ PKv K B kvs kws
  | [], _, h => by
    rw [List.map_nil] at h
    cases h
    exact ⟨[], rfl, .nil⟩
  | (k, r) :: kvs, _, h => by
    rw [List.map_cons] at h
    cases h with
    | @cons _ q _ vs h t =>
      obtain ⟨kws, e, hp⟩ := disp_keys t
      obtain ⟨a, b⟩ := q
      have hk : a = kV k := by
        have h1 : Rp K B a (kD k) := h.1
        cases k with
        | inl i => cases h1; rfl
        | inr s => cases h1; rfl
      subst hk
      exact ⟨(k, b) :: kws, by rw [List.map_cons, e], .cons ⟨rfl, h.2⟩ hp⟩
theorem ev_disp {trs : List (TE × TE)} (h : ∀ p, M p = none → EvP K trs ρ (setM M p (.dK [])) fun ps M1 => M1 p = some (.dK []) ∧ ∃ kvs : List (Key × Sl), ps = kvs.map (fun kv => (Sl.dat (kD kv.1), kv.2)) ∧ kvs.length ≤ 15 ∧ R (.raw (.ref p)) (setM M1 p (.dK (mergeS [] kvs)))) :
    Ev K (tDisp trs) ρ M R := fun B σ H he hw Q k p hp => by
  have h1 := h p (hw.freeM hp)
  have w1 := hw.newM hp (m := .dK []) (o := .dK []) (show MoOk K B (.dK []) (.dK []) from .nil)
  refine evp_run h1 B σ _ he w1 _ fun B2 vs H2 rs M2 e2 w2 s2 q => ?_
  obtain ⟨hM, kvs, ep, hz, q⟩ := q
  subst ep
  obtain ⟨kws, e, hp2⟩ := disp_keys s2
  obtain ⟨o, ho, hmo⟩ := w2.mo p _ hM
  cases o with
  | dK ws =>
    cases (show PKv K B2 [] ws from hmo)
    refine ⟨ho, kws, e, by rw [← pr_len hp2]; exact hz, k B2 _ _ (.raw (.ref p)) _ e2 (w2.put hM (m := .dK (mergeS [] kvs)) (merge_rel hp2 .nil)) rfl q⟩
  | _ => exact hmo.elim
/-- {} as a datum; {k: v} as a datum -/
theorem ev_dnewD (q : R (.dat (.dict [])) M) : Ev K tDNewK ρ M R := fun B σ H he hw Q k p hp =>
  k _ _ _ (.dat (.dict [])) M (same_new (hw.freeB hp)) (hw.newB hp) (Rp.dic upd_same .nil) q
theorem rpKv_of : ∀ {es : List (Key × PyData)} {vs : List (Key × V)}, PKv K B (es.map fun e => (e.1, Sl.dat e.2)) vs → RpKv K B vs (es.map fun e => (kD e.1, e.2))
  | [], _, h => by
    rw [List.map_nil] at h
    cases h
    exact .nil
  | (k, d) :: es, _, h => by
    rw [List.map_cons] at h
    cases h with
    | @cons _ q _ vs h t =>
      obtain ⟨a, b⟩ := q
      obtain ⟨h1, h2⟩ := h
      have h1 : k = a := h1
      subst h1
      exact .cons h2 (rpKv_of t)
theorem ev_freeze (h : Ev K te ρ M fun r M1 => ∃ p, r = .raw (.ref p) ∧ ((∃ ds, M1 p = some (.lst (dats ds)) ∧ R (.dat (.list ds)) (delM M1 p)) ∨ ∃ es : List (Key × PyData), M1 p = some (.dK (es.map fun e => (e.1, Sl.dat e.2))) ∧ R (.dat (.dict (es.map fun e => (kD e.1, e.2)))) (delM M1 p))) : Ev K te ρ M R := fun B σ H he hw Q k =>
  h B σ H he hw Q fun B1 v1 H1 r1 M1 e1 w1 s1 ⟨p, ex, h1⟩ => by
    subst ex
    cases (show v1 = .ref p from s1)
    rcases h1 with ⟨ds, hM, q⟩ | ⟨es, hM, q⟩
    · obtain ⟨o, ho, hmo⟩ := w1.mo p _ hM
      cases o with
      | lst ws =>
        obtain ⟨w2, e2⟩ := w1.freeze hM ho
        exact k _ _ H1 (.dat (.list ds)) _ (e1.trans e2) w2 (Rp.lst upd_same ((rpAll_of (show Paired (SlOk K B1) (dats ds) ws from hmo)).mono e2)) q
      | _ => exact hmo.elim
    · obtain ⟨o, ho, hmo⟩ := w1.mo p _ hM
      cases o with
      | dK ws =>
        obtain ⟨w2, e2⟩ := w1.freeze hM ho
        exact k _ _ H1 (.dat (.dict (es.map fun e => (kD e.1, e.2)))) _ (e1.trans e2) w2 (Rp.dic upd_same ((rpKv_of (show PKv K B1 _ ws from hmo)).mono e2)) q
      | _ => exact hmo.elim

/-! ### methods of a list that may change -/
theorem pr_drop {α β : Type} {F : α → β → Prop} : ∀ {xs : List α} {ys : List β}, Paired F xs ys → Paired F xs.dropLast ys.dropLast
  | _, _, .nil => .nil
  | _, _, .cons _ .nil => .nil
  | _, _, .cons h (.cons h2 t) => .cons h (pr_drop (.cons h2 t))
theorem ev_pop (h : Ev K to ρ M fun x M1 => ∃ l rs r, x = .raw (.ref l) ∧ M1 l = some (.lst rs) ∧ rs[rs.length - 1]? = some r ∧ R r (setM M1 l (.lst rs.dropLast))) : Ev K (tBM0 K "list" rPop to) ρ M R := fun B σ H he hw Q k =>
  h B σ H he hw _ fun B1 v1 H1 r1 M1 e1 w1 s1 ⟨l, rs, r, ex, hM, hl, q⟩ => by
    subst ex
    cases (show v1 = .ref l from s1)
    obtain ⟨o, ho, hmo⟩ := w1.mo l _ hM
    cases o with
    | lst ws =>
      have hp : Paired (SlOk K B1) rs ws := hmo
      obtain ⟨v, hv, sv⟩ := pr_get hp hl
      refine ⟨.inl ⟨rfl, _, SqL.of ho⟩, l, ws, v, rfl, rfl, ho, by rw [← pr_len hp]; exact hv, k B1 v _ r _ e1 (w1.put hM (m := .lst rs.dropLast) ?_) sv q⟩
      exact pr_drop hp
    | _ => exact hmo.elim
theorem ev_append (h : Ev K to ρ M fun x M1 => ∃ l, x = .raw (.ref l) ∧ (∃ rs, M1 l = some (.lst rs)) ∧ Ev K te ρ M1 fun r M2 => ∃ rs, M2 l = some (.lst rs) ∧ rs.length < sizeLine ∧ R (.dat .none) (setM M2 l (.lst (rs ++ [r])))) :
    Ev K (tBM K "list" rAppend to (tCons te tNil)) ρ M R := fun B σ H he hw Q k =>
  h B σ H he hw _ fun B1 v1 H1 r1 M1 e1 w1 s1 ⟨l, ex, ⟨rs0, hM0⟩, h1⟩ => by
    subst ex
    cases (show v1 = .ref l from s1)
    obtain ⟨o, ho, hmo⟩ := w1.mo l _ hM0
    cases o with
    | lst ws =>
      refine ⟨.inl ⟨rfl, _, SqL.of ho⟩, h1 B1 σ H1 (he.mono e1) w1 _ fun B2 v2 H2 r2 M2 e2 w2 s2 q => ?_⟩
      obtain ⟨rs, hM, hz, q⟩ := q
      obtain ⟨o2, ho2, hmo2⟩ := w2.mo l _ hM
      cases o2 with
      | lst ws2 =>
        have hp : Paired (SlOk K B2) rs ws2 := hmo2
        exact ⟨l, ws2, v2, rfl, rfl, ho2, by rw [← pr_len hp]; exact hz, k B2 .non _ (.dat .none) _ (e1.trans e2) (w2.put hM (m := .lst (rs ++ [r2])) (pr_app hp (.cons s2 .nil))) Rp.non q⟩
      | _ => exact hmo2.elim
    | _ => exact hmo.elim

/-! ### comprehensions that change nothing -/
theorem dats_inj : ∀ {a b : List PyData}, dats a = dats b → a = b
  | [], [], _ => rfl
  | x :: a, y :: b, h => by
    have h1 : Sl.dat x = Sl.dat y ∧ dats a = dats b := by
      have := List.cons.inj (show Sl.dat x :: dats a = Sl.dat y :: dats b from h)
      exact this
    rw [Sl.dat.inj h1.1, dats_inj h1.2]
  | [], _ :: _, h => by cases h
  | _ :: _, [], h => by cases h
theorem ev_lcP {wi : TI} {vs : List Nat} (p : PyData → Bool) (f : PyData → PyData) (gw : GW g vs) (gm : GM g)
    (h : EvI K wi ρ M fun it M1 => it.length < sizeLine ∧ (∀ d M', d ∈ it → (∀ a m, M1 a = some m → M' a = some m) → Gd K g (.dat d) (wipeS ρ vs) M' fun ρ2 M2 => EvT K tt ρ2 M2 fun b M3 => b = p d ∧ M3 = M' ∧ (p d = true → Ev K te ρ2 M3 fun y M4 => y = .dat (f d) ∧ M4 = M')) ∧
      R (.dat (.list ((it.filter p).map f))) M1) : Ev K (tLc wi g tt te vs) ρ M R := by
  refine ev_lc gw gm ?_
  intro B σ H he hw Rc k
  refine h B σ H he hw Rc fun B' J H' it M1 e w ok hq => k B' J H' it M1 e w ok ?_
  obtain ⟨hz, hs, q⟩ := hq
  intro L hL
  refine ⟨fun i acc M' => acc = ((it.take i).filter p).map f ∧ M' = setM M1 L (.lst (dats acc)), ⟨rfl, rfl⟩, ?_, ?_⟩
  · rintro i d acc M' hd ⟨rfl, rfl⟩
    refine ⟨setM_same, ?_⟩
    have hm : d ∈ it := List.mem_of_getElem? hd
    have htake : it.take (i + 1) = it.take i ++ [d] := by rw [List.take_add_one, hd]; rfl
    intro B1 v σ1 H1 sv he1 hw1 Q1 k1
    refine hs d _ hm (fun a m e => ?_) B1 v σ1 H1 sv he1 hw1 Q1 fun B2 σ2 H2 ρ2 M2 e2 en2 w2 q2 => k1 B2 σ2 H2 ρ2 M2 e2 en2 w2 ?_
    · have : a ≠ L := fun z => by rw [z, hL] at e; cases e
      rw [setM_ne this]; exact e
    · intro B3 σ3 H3 he3 hw3 Q3 k3
      refine q2 B3 σ3 H3 he3 hw3 Q3 fun B4 b H4 M4 e4 w4 hb => k3 B4 b H4 M4 e4 w4 ?_
      obtain ⟨rfl, rfl, hev⟩ := hb
      refine ⟨fun hp => ?_, fun hp => ⟨?_, rfl⟩⟩
      · intro B5 σ5 H5 he5 hw5 Q5 k5
        refine hev hp B5 σ5 H5 he5 hw5 Q5 fun B6 y H6 r6 M6 e6 w6 s6 hy => k5 B6 y H6 r6 M6 e6 w6 s6 ?_
        obtain ⟨rfl, rfl⟩ := hy
        refine ⟨f d, rfl, setM_same, ?_, ?_, setM_setM⟩
        · have h1 : (((it.take i).filter p).map f).length ≤ it.length := by
            rw [List.length_map]
            exact Nat.le_trans (List.length_filter_le _ _) (by rw [List.length_take]; exact Nat.min_le_right _ _)
          omega
        · rw [htake, List.filter_append, List.map_append, List.filter_cons, if_pos hp]
          rfl
      · rw [htake, List.filter_append, List.map_append, List.filter_cons, if_neg (by rw [hp]; exact Bool.false_ne_true)]
        simp
  · rintro acc M' ⟨rfl, rfl⟩
    refine ⟨setM_same, ?_⟩
    rw [List.take_length, delM_setM hL]
    exact q
theorem et_yes {R : Bool → MH → Prop} (q : R true M) : EvT K tYes ρ M R := fun B σ H he hw Q k => k B true H M (Same.r B) hw q
end
end DL
set_option Elab.async false
set_option linter.all false
set_option maxRecDepth 100000
set_option maxHeartbeats 4000000
namespace DL
open PySem PySem.Spec PyProof.Rows L2

/-! ### a def by its body, at the level of data -/
section
variable {P : Program} {w : World} {K : PySem.W.Frag} {mg : Str → Option Value} {base : Heap} {x qual : Str} {params : Arguments} {body : List Stmt} {scope : Scope} {dvs : List V} {kws : List (Str × V)} {f : Addr} {fd : FuncData}
theorem okG (F : FunD K x qual params body scope dvs kws f fd) {N ps : List Str} {k : Nat} {Sp : Spc} (S : FnScope N ps scope)
    (hb : ∀ (cdv : Value) (A : Around) (outer : List Env) (s : Shared) (H : Hp) (E : XK), Rm k (A.deeper (envOfC qual scope s.heap.objs.size f cdv)) →
      ∃ t, PSs (cxOf CX0 P w K mg base N qual scope f cdv A outer s H E).nox body t ∧
        ∀ rs M R, rs.length = ps.length → Sp rs M R → Xs K t (rs ++ List.replicate (N.length - ps.length) .un) M { nx := fun _ M' => R (.dat .none) M', rt := R }) :
    FnG P w K mg base CX0 (k + 1) f fd ps (spD K ps.length Sp) := by
  obtain ⟨oc, od, dV, kV, doc, pm, an, cdv, ct, osl, rfl, lk, hcd, _, _⟩ := F.ex
  refine fng_of lk hcd S (fun vs H Q E h => spD_len h) fun A outer s H vs Q E hr hsp => ?_
  obtain ⟨t, h1, h2⟩ := hb cdv A outer s H E hr
  exact ⟨t, h1.nox, body_of hsp h2⟩
/-! ### how the written values come to the parameters -/
def pick {α : Type} (idx : List Nat) (l : List α) : List α := idx.filterMap fun i => l[i]?
theorem pick_rel {α β : Type} (F : α → β → Prop) {l : List α} {l' : List β} (h : Paired F l l') : ∀ idx : List Nat, Paired F (pick idx l) (pick idx l')
  | [] => .nil
  | i :: idx => by
    have ih := pick_rel F h idx
    unfold pick at ih ⊢
    rw [List.filterMap_cons, List.filterMap_cons]
    cases e : l[i]? with
    | none =>
      have e2 : l'[i]? = none := by
        have h1 := List.getElem?_eq_none_iff.mp e
        exact List.getElem?_eq_none_iff.mpr (by rw [← pr_len h]; exact h1)
      rw [e2]
      exact ih
    | some a =>
      obtain ⟨b, e2, hab⟩ := pr_get h e
      rw [e2]
      exact .cons hab ih
def putP (idx : List Nat) : Put := fun d a c => pick idx (a ++ (c ++ d))
theorem putP_rel (idx : List Nat) {α β : Type} (F : α → β → Prop) {a b c : List α} {a' b' c' : List β} (h1 : Paired F a a') (h2 : Paired F b b') (h3 : Paired F c c') : Paired F (putP idx a b c) (putP idx a' b' c') :=
  pick_rel F (pr_app h2 (pr_app h3 h1)) idx
theorem cb_of (F : FunD K x qual params body scope [] kws f fd) {ps ks : List Str} {n : Nat} (idx : List Nat)
    (h : ∀ (kV doc pm : Value) (an : Option Addr) (cdv ct : Value) (us ws : List Value), us.length = n → ws.length = ks.length →
      bindArgs (PySem.W.fnOf x qual params body scope .none kV doc pm an cdv ct) ⟨us, ks.zip ws⟩ = pure (ps.zip (pick idx (us ++ (ws ++ []))))) : CB K fd ps n ks (putP idx) [] := by
  obtain ⟨oc, od, dV, kV, doc, pm, an, cdv, ct, osl, rfl, lk, hcd, hD, hK⟩ := F.ex
  refine ⟨⟨[], .nil, fun s us ws _ h1 h2 => ?_⟩, fun F => putP_rel idx F⟩
  rcases hD with ⟨_, rfl⟩ | ⟨e, _⟩
  · exact .of_eq (h kV doc pm an cdv ct us ws h1 h2)
  · exact absurd rfl e
/-- with defaults (all of them may be taken) -/
theorem cb_ofD (F : FunD K x qual params body scope dvs kws f fd) {ps ks : List Str} {n : Nat} (idx : List Nat) (hd : dvs ≠ [])
    (h : ∀ (T : Addr) (kV doc pm : Value) (an : Option Addr) (cdv ct : Value) (us ws its : List Value), us.length = n → ws.length = ks.length → its.length = dvs.length →
      ∃ k, bindArgs (PySem.W.fnOf x qual params body scope (.ref T) kV doc pm an cdv ct) ⟨us, ks.zip ws⟩ = seqItems? (.ref T) >>= k ∧ k (some its.toArray) = pure (ps.zip (pick idx (us ++ (ws ++ its))))) : CB K fd ps n ks (putP idx) dvs := by
  obtain ⟨oc, od, dV, kV, doc, pm, an, cdv, ct, osl, rfl, lk, hcd, hD, hK⟩ := F.ex
  rcases hD with ⟨e, _⟩ | ⟨_, T, o, its, m, rfl, lT, oT, rT⟩
  · exact absurd e hd
  · refine ⟨⟨its, rT, fun s us ws X h1 h2 => ?_⟩, fun F => putP_rel idx F⟩
    obtain ⟨k, e1, e2⟩ := h T kV doc pm an cdv ct us ws its h1 h2 rT.length.symm
    refine BindsTo.of_looks fun M => ?_
    rw [e1]
    exact looks_items X lT oT (.of_pure e2)
end

/-! ### the law's own call -/
theorem lawG {P : Program} {w : World} {K : PySem.W.Frag} {mg mb : Str → Option Value} {k : Nat} {fa a : Addr} {fd : FuncData} {x : Str} {S : Spc} {s₁ : Shared} {vs : List Value} {ns : List Int}
    (KX : K.In s₁.heap) (hns : s₁.heap.Ns mainGlobals mg) (hb : s₁.heap.Ns builtinsNs mb) (hbb : ∀ x : Str, x ≠ "__name__" → mb x = bootBuiltins x) (hlim : s₁.heap.NoLimit) (hg : s₁.gens = #[])
    (ha : s₁.heap.get? a = some { cls := .type "list", data := .seq vs.toArray }) (hi : IntsAre vs ns) (hl : ns.length ≤ sizeLine) (hr : Rm k callerA)
    (F : ∀ base : Heap, K.In base → base.Ns mainGlobals mg → FnG P w K mg base CX0 k fa fd [x] (spD K 1 S)) (hbind : ∀ (s : Shared) (u : Value), BindsTo s fd ⟨[u], []⟩ [(x, u)])
    (hsp : S [.scr ns] (fun _ => none) fun r _ => r = .dat (.bool true)) :
    codeAny (model P w) callerA (.call (.ref fa) ⟨[.ref a], []⟩) (fun r s' => r = .ok (.ret (.bool true)) ∧ OldK s₁.heap s'.heap ∧ s'.os = s₁.os ∧ AllBare s'.gens) s₁ := by
  have rv := vals_ints hi
  have lenV := hi.length
  -- H: an abstract heap that tracks the script at most
  suffices core : ∀ H : Hp, Only H → SqL K H a (ns.map V.int) → HOk P w H s₁.heap → (∀ b, H b ≠ none → b = a) → (H a ≠ none → K.lookup a = none) →
      codeAny (model P w) callerA (.call (.ref fa) ⟨[.ref a], []⟩) (fun r s' => r = .ok (.ret (.bool true)) ∧ OldK s₁.heap s'.heap ∧ s'.os = s₁.os ∧ AllBare s'.gens) s₁ by
    cases hk : K.lookup a with
    | some o =>
      have e := KX a o hk
      rw [ha] at e
      cases e
      refine core (fun _ => none) (fun _ => .inl rfl) (.inr ⟨_, vs.toArray, _, hk, rfl, rfl, rfl, by rw [List.size_toArray, lenV]; exact hl, by simpa using rv⟩) ?_ (fun b z => absurd rfl z) fun z => absurd rfl z
      intro b u z
      have z' : (none : Option HO) = some u := z
      cases z'
    | none =>
      let fo : HO := .frz { cls := .type "list", data := .seq vs.toArray } (.lst (ns.map V.int))
      refine core (fun b => if b = a then some fo else none) (fun b => ?_) (.inl (.inr ⟨{ cls := .type "list", data := .seq vs.toArray }, if_pos rfl⟩)) (fun b u z => ?_) (fun b z => ?_) fun _ => hk
      · by_cases e : b = a
        · exact .inr ⟨_, _, if_pos e⟩
        · exact .inl (if_neg e)
      · by_cases e : b = a
        · have z' := (if_pos e).symm.trans z
          cases z'
          subst e
          exact ⟨ha, by rw [List.length_map]; exact hl, vs, _, rv, ha⟩
        · have z' := (if_neg e).symm.trans z
          cases z'
      · by_cases e : b = a
        · exact e
        · exact absurd (if_neg e) z
  intro H hO hS hok hA hK
  have down : ∀ {b : Addr} {o : Obj}, s₁.heap.get? b = some o → H b = none → (hidT s₁.heap H).get? b = some o := fun e n => hidT_get e n
  have noD : ∀ {b : Addr} {o : Obj} {es : Array DictEntry} {ep : Nat}, s₁.heap.get? b = some o → o.data = .dict es ep → H b = none := by
    intro b o es ep e d
    cases q : H b with
    | none => rfl
    | some u =>
      obtain rfl : b = a := hA b (by rw [q]; simp)
      rw [ha] at e
      cases e
      cases (show Data.seq vs.toArray _ = Data.dict es ep from d)
  have nsD : ∀ {b : Addr} {m : Str → Option Value}, s₁.heap.Ns b m → (hidT s₁.heap H).Ns b m := by
    rintro b m ⟨o, es, ep, e, d, r⟩
    exact ⟨o, es, ep, down e (noD e d), d, r⟩
  have KB : K.In (hidT s₁.heap H) := by
    intro b o e
    refine down (KX b o e) ?_
    cases q : H b with
    | none => rfl
    | some u =>
      obtain rfl : b = a := hA b (by rw [q]; simp)
      rw [hK (by rw [q]; simp)] at e
      cases e
  obtain ⟨mc, hc1, hc2⟩ := hlim
  have e0 : Env0 P w K mg (hidT s₁.heap H) callerA [] s₁ H :=
    ⟨rfl, ⟨KB, nsD hns, ⟨mb, nsD hb, hbb⟩, ⟨mc, nsD hc1, hc2⟩⟩, fun b o e => of_hidT e, Nat.le_of_eq (hidT_size _ _), trivial, fun b hb => absurd (show b ∈ ([] : List Addr) from hb) (by simp), hok, .of_eq hg⟩
  have sp : spD K 1 S [.ref a] H (fun v _ => v = .bl true) (fun _ _ _ => False) := by
    refine ⟨H, fun _ => none, [.scr ns], _, rfl, .cons ⟨a, rfl, hS⟩ .nil, ⟨Same.refl H, (fun a m e => by cases e), fun a m e => by cases e⟩, hsp, ?_⟩
    rintro B' v H' r M' _ _ s3 rfl
    cases s3
    rfl
  refine codeAny_mono ((F _ KB (nsD hns) callerA hr).run [] s₁ H ⟨[.ref a], []⟩ [.ref a] [.ref a] _ _ e0 (hbind s₁ (.ref a)) (.cons rfl .nil) sp) ?_
  intro r s' h
  cases r with
  | error e => exact (show False from h).elim
  | ok fl =>
    cases fl with
    | next => exact h.elim
    | brk => exact h.elim
    | cont => exact h.elim
    | ret u =>
      obtain ⟨v, H', os, bare, un, hok', r', q⟩ := h
      obtain rfl : v = .bl true := q
      obtain rfl : u = Value.bool true := r'
      refine ⟨rfl, OldK.of_keep ?_, os, bare⟩
      intro b o e
      cases q : H b with
      | none => exact un.keep b o e q (by intro z; exact absurd (show b ∈ ([] : List Addr) from z) (by simp)) (by simp)
      | some u =>
        rcases hO b with z | ⟨ob, xs, z⟩
        · rw [q] at z; cases z
        · obtain ⟨e1, _⟩ := hok b _ z
          obtain ⟨e2, _⟩ := hok' b _ (un.frzs b ob _ z)
          rw [e] at e1
          cases e1
          exact e2
theorem rm_top : Rm 200 callerA := ⟨⟨rfl, by decide, by decide⟩, rfl⟩
/-- the goal that the head leaves -/
theorem walkG {l : PySem.W.OpenLaw} {n k : Nat} {q : Program} {loose : List Str} {XP : (Str → Option Value) → Heap → Prop} {YP : World → Heap → Prop} {d : DefRec} {K : Params → PySem.W.Frag} {x : Str} {S : Spc}
    (hn : l.most = some n) (hn2 : n ≤ sizeLine) (hdf : d.params.defaults = []) (hr : k ≤ 200) (hY : ∀ (w : World) (h : Heap), YP w h → (K w.params).In h)
    (F : ∀ (w : World) (mg : Str → Option Value) (fa : Addr) (h : Heap), (K w.params).In h → h.Ns mainGlobals mg → mg d.name = some (.ref fa) →
      ∃ fd : FuncData, (∀ (s : Shared) (u : Value), BindsTo s fd ⟨[u], []⟩ [(x, u)]) ∧
        ∀ base : Heap, (K w.params).In base → base.Ns mainGlobals mg → FnG l.prog w (K w.params) mg base CX0 k fa fd [x] (spD (K w.params) 1 S))
    (hsp : ∀ ns : List Int, ns.length ≤ n → (∀ z ∈ ns, Builtin.Int.intBits z ≤ 1048576) → S [.scr ns] (fun _ => none) fun r _ => r = .dat (.bool true)) :
    PySem.W.WalkO q loose XP YP l.row.toRowW d [] (fun f vs => PySem.call f vs) := by
  refine Att.attach_callB hn hdf ?_
  intro w s₀ s₁ mg mb fa o pm cd doc a vs ns G Y ho hd hcd hmg hobj hints hlen hbits hg
  have KX := hY w _ Y
  obtain ⟨fd, hb, hF⟩ := F w mg fa _ KX G.T.g hmg
  exact lawG KX G.T.g G.T.b G.T.builtins G.T.nolimit hg hobj hints (Nat.le_trans hlen hn2) (rm_top.mono hr) hF hb (hsp ns hlen hbits)
end DL
set_option Elab.async false
set_option linter.all false
set_option maxRecDepth 100000
set_option maxHeartbeats 4000000
namespace DL
open PySem PySem.Spec PyProof.Rows L2

/-! ### the rules with the written part named (K: X's own) -/
def rEqU (K : PySem.W.Frag) : R2 := fun x y H Q => rEq x y H Q ∨ rEqD K x y H Q
def rNeU (K : PySem.W.Frag) : R2 := fun x y H Q => rNe x y H Q ∨ rNeD K x y H Q
def rLenD (K : PySem.W.Frag) : List V → Hp → VK → Prop := fun xs H Q => ∃ x n, xs = [x] ∧ LenV K x H n ∧ Q (.int n) H
def rAbsD : List V → Hp → VK → Prop := fun xs H Q => ∃ i, xs = [.int i] ∧ Q (.int (if i < 0 then -i else i)) H
def rIntD : List V → Hp → VK → Prop := fun xs H Q => (∃ i, xs = [.int i] ∧ Q (.int i) H) ∨ ∃ k, xs = [.bl k] ∧ Q (.int (if k then 1 else 0)) H
def rStrD : List V → Hp → VK → Prop := fun xs H Q => ∃ i, xs = [.int i] ∧ i.natAbs.log2 < 1920 ∧ Q (.str (toString i)) H
def rListD (K : PySem.W.Frag) : List V → Hp → VK → Prop := fun xs H Q => ∃ p ys, xs = [.ref p] ∧ (SqL K H p ys ∨ SqT K H p ys) ∧ ∀ l, H l = none → Q (.ref l) (upd H l (.lst ys))
def rTupD (K : PySem.W.Frag) : List V → Hp → VK → Prop := fun xs H Q => ∃ p ys, xs = [.ref p] ∧ ((SqL K H p ys ∧ ∀ l, H l = none → Q (.ref l) (upd H l (.tup ys))) ∨ (SqT K H p ys ∧ Q (.ref p) H))
def tJoinD (K : PySem.W.Frag) (ta tb : TE) : TE := tM1 (fun x xs H Q => ∃ a p, ∃ ys : List Str, x = .str a ∧ xs = [.ref p] ∧ (SqL K H p (ys.map V.str) ∨ SqT K H p (ys.map V.str)) ∧ (ys.map (·.length)).sum + ys.length * a.length ≤ 16777216 ∧ Q (.str (Txt.join a ys)) H) ta tb
section
variable {X : Cx} {K : PySem.W.Frag}
theorem pi_seqK (hK : X.K = K) {tg l : Expr} {tl : TE} (hl : PE X l tl) : PI X tg l (iSeq K tl) := by subst hK; exact pi_seq hl
theorem pi_zipK (hK : X.K = K) {e e2 : Expr} {ta : TA} {p pos tpos : Pos} {elts : List Expr} {kk : Nat} (hg : Gl X "zip") (hm : X.mg "zip" = none) (ha : PA X [e, e2] ta)
    (hs : starEach [e, e2] X.env = (false, eval e X.env) :: starEach [e2] X.env := by rfl) (hpl : (backTo pos (starEach [e2] X.env)).any (·.1) = false := by rfl) :
    PI X (.Tuple elts kk tpos) (.Call (.Name "zip" p) [e, e2] [] pos) (iZip K ta) := by subst hK; exact pi_zip hg hm ha hs hpl
theorem pg_tupK (hK : X.K = K) {es : List Expr} {k : Nat} {pos : Pos} {n : Nat} {t : TGs} (hc : X.calm = true) (h : PGs X es t) (hn : (assignEach es X.env).length = n := by rfl) (hst : (assignEach es X.env).findIdx? (·.1) = none := by rfl) :
    PG X (.Tuple es k pos) (gTup K n t) := by subst hK; exact pg_tup hc h hn hst
theorem pe_revLK (hK : X.K = K) {e : Expr} {te : TE} {k : Nat} {p1 p2 p3 pos : Pos} (he : PE X e te) : PE X (.Subscript e (.Slice none none (some (.UnaryOp .USub (.Constant (.int 1) k p1) p2)) p3) pos) (tRevL K te) := by subst hK; exact pe_revL he
theorem pe_joinK (hK : X.K = K) {o e : Expr} {to te : TE} {apos pos : Pos} (ho : PE X o to) (he : PE X e te) (hs : starEach [e] X.env = [(false, eval e X.env)] := by rfl) (hbase : attributeBase o "join" X.env (eval o X.env) = eval o X.env := by rfl) (hline : (apos.endLine == pos.line) = true := by rfl) :
    PE X (.Call (.Attribute o "join" apos) [e] [] pos) (tJoinD K to te) := by subst hK; exact pe_join ho he hs hbase hline
theorem pe_popK (hK : X.K = K) {o : Expr} {to : TE} {apos cpos : Pos} (ho : PE X o to) (hbase : attributeBase o "pop" X.env (eval o X.env) = eval o X.env := by rfl) (hline : (apos.endLine == cpos.line) = true := by rfl) :
    PE X (.Call (.Attribute o "pop" apos) [] [] cpos) (tBM0 K "list" rPop to) := by subst hK; exact pe_bm0 PySem.F.plainAttrs_list PySem.F.slot_list_pop PySem.F.type_list_pop mt_pop ho hbase hline
theorem pe_appendK (hK : X.K = K) {o e : Expr} {to te : TE} {apos cpos : Pos} (ho : PE X o to) (he : PE X e te) (hbase : attributeBase o "append" X.env (eval o X.env) = eval o X.env := by rfl)
    (hfew : ((backTo cpos (starEach [e] X.env)).all (fun x => !x.1) && (backToKw cpos (keywordEach [] X.env)).all (fun x => x.1.isSome) && decide (([e] : List Expr).length + ([] : List Keyword).length + (if ([] : List Keyword).isEmpty then 0 else 1) < 30)) = true := by rfl)
    (hline : (apos.endLine == cpos.line) = true := by rfl) (hs : starEach [e] X.env = (false, eval e X.env) :: starEach [] X.env := by rfl) (hpl : (backTo cpos (starEach [] X.env)).any (·.1) = false := by rfl) :
    PE X (.Call (.Attribute o "append" apos) [e] [] cpos) (tBM K "list" rAppend to (tCons te tNil)) := by
  subst hK
  exact pe_bm PySem.F.plainAttrs_list PySem.F.slot_list_append PySem.F.type_list_append mt_append ho (pa_cons he pa_nil hs) hbase hfew hline hs hpl
theorem op_eqK (hK : X.K = K) (hu : X.A.units + 64 < cLine) : OpR X (compareOp .Eq) (rEqU K) := by subst hK; exact OpR.or op_eq (op_eqD hu)
theorem op_neK (hK : X.K = K) (hu : X.A.units + 64 < cLine) : OpR X (compareOp .NotEq) (rNeU K) := by subst hK; exact OpR.or op_ne (op_neD hu)
theorem op_addK (hK : X.K = K) : OpR X (binaryOp .Add) (rAddU K) := by subst hK; exact op_addU
theorem ix_K (hK : X.K = K) : IxR X (rIx K) := by subst hK; exact ix_seq
theorem sl_K (hK : X.K = K) : SlR X (rSlU K) := by subst hK; exact sl_U
theorem call_isiK2 (hK : X.K = K) : CallR X (.builtin "isinstance") (rIsi K) := by subst hK; exact call_isi
theorem call_lenK (hK : X.K = K) : CallR X (.builtin "len") (rLenD K) := by subst hK; exact call_len
theorem call_absK : CallR X (.builtin "abs") rAbsD := call_abs
theorem call_intK : CallR X (.type "int") rIntD := call_int1
theorem call_strK : CallR X (.type "str") rStrD := call_str_int
theorem call_listK (hK : X.K = K) : CallR X (.type "list") (rListD K) := by subst hK; exact call_list_of
theorem call_tupleK (hK : X.K = K) : CallR X (.type "tuple") (rTupD K) := by subst hK; exact call_tuple_of
theorem call_reprK {k : Nat} (hK : X.K = K) (hr : Rm k X.A) : CallR X (.builtin "repr") (rReprD K) := by subst hK; exact call_repr' hr
theorem call_allK (hK : X.K = K) (hc : X.calm = true := by rfl) : CallR X (.builtin "all") (rAll K) := by subst hK; exact cr_all hc
theorem call_anyK (hK : X.K = K) (hc : X.calm = true := by rfl) : CallR X (.builtin "any") (rAny K) := by subst hK; exact cr_any hc
end
end DL
set_option Elab.async false
set_option linter.all false
set_option maxRecDepth 100000
set_option maxHeartbeats 4000000
namespace DL
open PySem PySem.Spec PyProof.Rows L2

section
variable {K : PySem.W.Frag} {B B' H H' : Hp} {M : MH} {ρ ρ' : List Sl} {R : Sl → MH → Prop} {te ta tb tc td ty tv to : TE} {tt tu : TT} {t u ts : TS} {x y z r : Sl} {D : DE} {g : TG}
theorem ev_var {i : Nat} (h : ρ[i]? = some r) (hn : r ≠ .un) (q : R r M) : Ev K (tVar i) ρ M R := by
  cases r with
  | un => exact absurd rfl hn
  | raw v => exact ev_raw h q
  | dat d => exact ev_dat h q
  | scr ns => exact ev_scr h q
theorem g_name' {i : Nat} {R : List Sl → MH → Prop} (h : ρ.set i r = ρ') (q : R ρ' M) : Gd K (gName i) r ρ M R := g_name (by rw [h]; exact q)
theorem rc_len' {n : Nat} {d : PyData} (h : (∃ ds, (d = .list ds ∨ d = .tuple ds) ∧ n = ds.length) ∨ ∃ z : Str, d = .str z ∧ z.length ≤ sizeLine ∧ n = z.length) (q : R (.dat (.int (n : Int))) M) : RC K (rLenD K) [.dat d] M R := rc_len h q
theorem rc_lenT {ds : List PyData} (q : R (.dat (.int (ds.length : Int))) M) : RC K (rLenD K) [.dat (.tuple ds)] M R := rc_len (.inl ⟨ds, .inr rfl, rfl⟩) q
theorem rc_lenL {ds : List PyData} (q : R (.dat (.int (ds.length : Int))) M) : RC K (rLenD K) [.dat (.list ds)] M R := rc_len (.inl ⟨ds, .inl rfl, rfl⟩) q
theorem rc_lenS {z : Str} (hz : z.length ≤ sizeLine) (q : R (.dat (.int (z.length : Int))) M) : RC K (rLenD K) [.dat (.str z)] M R := rc_len (.inr ⟨z, rfl, hz, rfl⟩) q
theorem rc_lenC {ns : List Int} (q : R (.dat (.int (ns.length : Int))) M) : RC K (rLenD K) [.scr ns] M R := rc_lenScr q
theorem rc_abs' {i : Int} (q : R (.dat (.int (i.natAbs : Int))) M) : RC K rAbsD [.dat (.int i)] M R := rc_abs q
theorem rc_intI' {i : Int} (q : R (.dat (.int i)) M) : RC K rIntD [.dat (.int i)] M R := rc_intI q
theorem rc_intB' {b : Bool} (q : R (.dat (.int (if b then 1 else 0))) M) : RC K rIntD [.dat (.bool b)] M R := rc_intB q
theorem rc_str' {i : Int} (hz : i.natAbs.log2 < 1920) (q : R (.dat (.str (toString i))) M) : RC K rStrD [.dat (.int i)] M R := rc_str hz q
theorem rc_listL {ds : List PyData} (q : R (.dat (.list ds)) M) : RC K (rListD K) [.dat (.list ds)] M R := rc_list (.inl rfl) q
theorem rc_listT {ds : List PyData} (q : R (.dat (.list ds)) M) : RC K (rListD K) [.dat (.tuple ds)] M R := rc_list (.inr rfl) q
theorem rc_tupL {ds : List PyData} (q : R (.dat (.tuple ds)) M) : RC K (rTupD K) [.dat (.list ds)] M R := rc_tupleL q
theorem ev_join' (h : Ev K ta ρ M fun x M1 => ∃ a, x = .dat (.str a) ∧ Ev K tb ρ M1 fun y M2 => ∃ ys : List Str, y = .dat (.list (ys.map .str)) ∧ (ys.map (·.length)).sum + ys.length * a.length ≤ 16777216 ∧ R (.dat (.str (Txt.join a ys))) M2) :
    Ev K (tJoinD K ta tb) ρ M R := ev_join (ys := []) h
theorem rd_mod {i j : Int} (hc : 0 < j) (q : R (.dat (.int (i % j))) M) : RD K (rI (fun _ j => 0 < j) fun i j => .int (i % j)) (.dat (.int i)) (.dat (.int j)) M R := rd_intC hc q
theorem rd_div {i j : Int} (hc : CDivA i j) (q : R (.dat (.int (i.fdiv j))) M) : RD K (rI CDivA fun i j => .int (i.fdiv j)) (.dat (.int i)) (.dat (.int j)) M R := rd_intC hc q
theorem rd_pow {i j : Int} (hc : CPow i j) (q : R (.dat (.int (i ^ j.toNat))) M) : RD K (rI CPow fun i j => .int (i ^ j.toNat)) (.dat (.int i)) (.dat (.int j)) M R := rd_intC hc q
theorem rd_sub {i j : Int} (q : R (.dat (.int (i - j))) M) : RD K (rI0 fun i j => .int (i - j)) (.dat (.int i)) (.dat (.int j)) M R := rd_int0 q
theorem rd_gt {i j : Int} (q : R (.dat (.bool (decide (j < i)))) M) : RD K (rI0 fun i j => .bl (decide (j < i))) (.dat (.int i)) (.dat (.int j)) M R := rd_bl0 q
theorem rd_ge {i j : Int} (q : R (.dat (.bool (decide (j ≤ i)))) M) : RD K (rI0 fun i j => .bl (decide (j ≤ i))) (.dat (.int i)) (.dat (.int j)) M R := rd_bl0 q
/-- a small factor -/
theorem cmulw_l {i j : Int} {b : Nat} (h : i.natAbs < 2 ^ 64) (hj : j.natAbs < 2 ^ b) (h0 : 0 < b) (hb : b ≤ 900000) : CMulW i j := wide_mul (a := 64) (b := b) h hj (by decide) h0 (by omega)
theorem cmulw_s {i j : Int} (h : i.natAbs < 2 ^ 64) (hj : j.natAbs < 2 ^ 64) : CMulW i j := wide_mul h hj (by decide) (by decide) (by decide)
theorem cdiva {i j : Int} {b : Nat} (h : 0 < j) (hb : j.natAbs < 2 ^ b) (h0 : 0 < b) (h9 : b ≤ 9000) : CDivA i j := by
  obtain ⟨h1, h2⟩ := wide_div (i := i) h hb h0 h9
  exact ⟨by omega, h2⟩
end
end DL
namespace DL
open PySem PySem.Spec PyProof.Rows L2
/-! isinstance against a built-in class -/
def isTyInt : PyData → Bool
  | .int _ | .bool _ => true
  | _ => false
def isTyBool : PyData → Bool
  | .bool _ => true
  | _ => false
def isTyStr : PyData → Bool
  | .str _ => true
  | _ => false
def isTyTup : PyData → Bool
  | .tuple _ => true
  | _ => false
section
variable {K : PySem.W.Frag} {M : MH} {R : Sl → MH → Prop} {d : PyData}
theorem kit_int : kitB (tyN d) "int" = some (isTyInt d) := by cases d <;> (simp only [tyN, isTyInt, isTyBool, isTyStr, isTyTup]; decide +kernel)
theorem kit_bool : kitB (tyN d) "bool" = some (isTyBool d) := by cases d <;> (simp only [tyN, isTyInt, isTyBool, isTyStr, isTyTup]; decide +kernel)
theorem kit_str : kitB (tyN d) "str" = some (isTyStr d) := by cases d <;> (simp only [tyN, isTyInt, isTyBool, isTyStr, isTyTup]; decide +kernel)
theorem kit_tup : kitB (tyN d) "tuple" = some (isTyTup d) := by cases d <;> (simp only [tyN, isTyInt, isTyBool, isTyStr, isTyTup]; decide +kernel)
theorem rc_isInt (q : R (.dat (.bool (isTyInt d))) M) : RC K (rIsi K) [.dat d, .raw (.ty "int")] M R := rc_isi kit_int q
theorem rc_isBool (q : R (.dat (.bool (isTyBool d))) M) : RC K (rIsi K) [.dat d, .raw (.ty "bool")] M R := rc_isi kit_bool q
theorem rc_isStr (q : R (.dat (.bool (isTyStr d))) M) : RC K (rIsi K) [.dat d, .raw (.ty "str")] M R := rc_isi kit_str q
theorem rc_isTup (q : R (.dat (.bool (isTyTup d))) M) : RC K (rIsi K) [.dat d, .raw (.ty "tuple")] M R := rc_isi kit_tup q
end
end DL
set_option Elab.async false
set_option linter.all false
set_option maxRecDepth 100000
set_option maxHeartbeats 4000000
namespace DL
open PySem PySem.Spec PyProof.Rows L2

/-! ### == of data -/
section
variable {K : PySem.W.Frag} {M : MH} {R : Sl → MH → Prop}
theorem rd_eqI {i j : Int} (q : R (.dat (.bool (decide (i = j)))) M) : RD K (rEqU K) (.dat (.int i)) (.dat (.int j)) M R := fun B vx vy H sx sy hw Q k => by
  cases sx; cases sy
  have e : decide (V.int i = V.int j) = decide (i = j) := by simp
  exact .inl ⟨rfl, by rw [e]; exact k B _ H (.dat (.bool (decide (i = j)))) M (Same.r B) hw (Rp.bl _) q⟩
theorem rd_neI {i j : Int} (q : R (.dat (.bool (!decide (i = j)))) M) : RD K (rNeU K) (.dat (.int i)) (.dat (.int j)) M R := fun B vx vy H sx sy hw Q k => by
  cases sx; cases sy
  have e : decide (V.int i = V.int j) = decide (i = j) := by simp
  exact .inl ⟨rfl, by rw [e]; exact k B _ H (.dat (.bool (!decide (i = j)))) M (Same.r B) hw (Rp.bl _) q⟩
theorem rd_eqS {i j : Str} (q : R (.dat (.bool (decide (i = j)))) M) : RD K (rEqU K) (.dat (.str i)) (.dat (.str j)) M R := fun B vx vy H sx sy hw Q k => by
  cases sx; cases sy
  have e : decide (V.str i = V.str j) = decide (i = j) := by simp
  exact .inl ⟨rfl, by rw [e]; exact k B _ H (.dat (.bool (decide (i = j)))) M (Same.r B) hw (Rp.bl _) q⟩
theorem rd_neS {i j : Str} (q : R (.dat (.bool (!decide (i = j)))) M) : RD K (rNeU K) (.dat (.str i)) (.dat (.str j)) M R := fun B vx vy H sx sy hw Q k => by
  cases sx; cases sy
  have e : decide (V.str i = V.str j) = decide (i = j) := by simp
  exact .inl ⟨rfl, by rw [e]; exact k B _ H (.dat (.bool (!decide (i = j)))) M (Same.r B) hw (Rp.bl _) q⟩
theorem rd_eqD {d e : PyData} (h1 : SeqAt.shaped d = true) (h2 : SeqAt.shaped e = true) (q : R (.dat (.bool (PyData.eqv d e))) M) : RD K (rEqU K) (.dat d) (.dat e) M R := fun B vx vy H sx sy hw Q k => .inr (rd_eq h1 h2 q B vx vy H sx sy hw Q k)
theorem rd_neD {d e : PyData} (h1 : SeqAt.shaped d = true) (h2 : SeqAt.shaped e = true) (q : R (.dat (.bool (!PyData.eqv d e))) M) : RD K (rNeU K) (.dat d) (.dat e) M R := fun B vx vy H sx sy hw Q k => .inr (rd_ne h1 h2 q B vx vy H sx sy hw Q k)
theorem eqv_nil (ds : List PyData) : PyData.eqv (.list ds) (.list []) = ds.isEmpty := by
  cases ds with
  | nil => simp only [PyData.eqv, PyData.eqvAll]; rfl
  | cons d ds => simp only [PyData.eqv, PyData.eqvAll]; rfl
theorem shaped_nil : SeqAt.shaped (.list []) = true := by decide
theorem rd_eqNil {ds : List PyData} (h1 : SeqAt.shaped (.list ds) = true) (q : R (.dat (.bool ds.isEmpty)) M) : RD K (rEqU K) (.dat (.list ds)) (.dat (.list [])) M R := rd_eqD h1 shaped_nil (by rw [eqv_nil]; exact q)
theorem rd_neNil {ds : List PyData} (h1 : SeqAt.shaped (.list ds) = true) (q : R (.dat (.bool (!ds.isEmpty))) M) : RD K (rNeU K) (.dat (.list ds)) (.dat (.list [])) M R := rd_neD h1 shaped_nil (by rw [eqv_nil]; exact q)
theorem rd_neMNil {l : Addr} {ds : List PyData} (hM : M l = some (.lst (dats ds))) (h1 : SeqAt.shaped (.list ds) = true) (q : R (.dat (.bool (!ds.isEmpty))) M) : RD K (rNeU K) (.raw (.ref l)) (.dat (.list [])) M R := fun B vx vy H sx sy hw Q k =>
  .inr (rd_neM hM h1 shaped_nil (by rw [eqv_nil]; exact q) B vx vy H sx sy hw Q k)
end
/-- data without dicts, of little depth, with texts that are fine -/
structure Shp (m : Nat) (d : PyData) : Prop where
  c : d.canLay0 = true
  p : d.depth ≤ m
theorem Shp.shaped {m : Nat} {d : PyData} (h : Shp m d) (hm : m ≤ 64 := by decide) : SeqAt.shaped d = true := by
  unfold SeqAt.shaped
  rw [h.c, Bool.true_and]
  exact decide_eq_true (Nat.le_trans h.p hm)
theorem shp_all {m : Nat} : ∀ {ds : List PyData}, (∀ d ∈ ds, Shp m d) → PyData.canLayAll0 ds = true ∧ PyData.depthAll ds ≤ m
  | [], _ => ⟨rfl, Nat.zero_le _⟩
  | d :: ds, h => by
    obtain ⟨a, b⟩ := shp_all (ds := ds) fun x hx => h x (List.mem_cons_of_mem _ hx)
    have hd := h d List.mem_cons_self
    refine ⟨?_, ?_⟩
    · simp only [PyData.canLayAll0, hd.c, a, Bool.and_self]
    · simp only [PyData.depthAll]
      exact Nat.max_le.mpr ⟨hd.p, b⟩
theorem Shp.list {m : Nat} {ds : List PyData} (h : ∀ d ∈ ds, Shp m d) : Shp (m + 1) (.list ds) := by
  obtain ⟨a, b⟩ := shp_all h
  exact ⟨by simpa only [PyData.canLay0] using a, by simp only [PyData.depth]; omega⟩
theorem Shp.tup {m : Nat} {ds : List PyData} (h : ∀ d ∈ ds, Shp m d) : Shp (m + 1) (.tuple ds) := by
  obtain ⟨a, b⟩ := shp_all h
  exact ⟨by simpa only [PyData.canLay0] using a, by simp only [PyData.depth]; omega⟩
theorem Shp.int (i : Int) : Shp 0 (.int i) := ⟨by simp only [PyData.canLay0], by simp only [PyData.depth]; omega⟩
theorem Shp.bool (i : Bool) : Shp 0 (.bool i) := ⟨by simp only [PyData.canLay0], by simp only [PyData.depth]; omega⟩
theorem Shp.str {x : Str} (h : PyData.strOk x = true) : Shp 0 (.str x) := ⟨by simpa only [PyData.canLay0] using h, by simp only [PyData.depth]; omega⟩
theorem Shp.ints (ns : List Int) : Shp 1 (.list (ns.map .int)) := Shp.list fun d hd => by
  obtain ⟨n, _, rfl⟩ := List.mem_map.mp hd
  exact Shp.int n

/-! ### what repr writes -/
structure Sh (n m : Nat) (d : PyData) : Prop where
  s : d.showable = true
  z : d.shown.length ≤ n
  p : d.depth ≤ m
  l : hasList d = false ∨ d.hasDict = false
theorem Sh.sho {n m : Nat} {d : PyData} (h : Sh n m d) (hn : n ≤ 16777216 := by decide) (hm : m ≤ 60 := by decide) : Sho d :=
  ⟨h.s, h.l.symm, by rw [sizeLine_eq]; exact Nat.le_trans h.z hn, Nat.le_trans h.p hm⟩
theorem Sh.mono {n m n' m' : Nat} {d : PyData} (h : Sh n m d) (hn : n ≤ n' := by decide) (hm : m ≤ m' := by decide) : Sh n' m' d := ⟨h.s, Nat.le_trans h.z hn, Nat.le_trans h.p hm, h.l⟩
theorem Sh.none : Sh 5 0 .none := ⟨rfl, by decide +kernel, by simp only [PyData.depth]; omega, .inl rfl⟩
theorem Sh.bool (b : Bool) : Sh 5 0 (.bool b) := ⟨rfl, by cases b <;> decide +kernel, by simp only [PyData.depth]; omega, .inl rfl⟩
theorem Sh.int {i : Int} (h : i.natAbs.log2 < 1920) : Sh 1921 0 (.int i) := by
  refine ⟨by simpa only [PyData.showable] using decide_eq_true h, ?_, by simp only [PyData.depth]; omega, .inl rfl⟩
  have e := int_text_length_le (a := i) (k := 1920) (by decide) h
  show (Str.ofString (toString i)).length ≤ 1921
  rw [PySem.ofString_length]
  exact e
theorem Sh.intB {i : Int} {b : Nat} (h : i.natAbs < 2 ^ b) (h0 : 0 < b) (hb : b ≤ 1920) : Sh 1921 0 (.int i) := Sh.int (Nat.lt_of_lt_of_le (PySem.Flt.log2_lt_of h0 h) hb)
theorem Sh.str {x : Str} {n : Nat} (h : ∀ c ∈ x.cps.toList, c < 16 ^ 8) (hn : x.length ≤ n) : Sh (10 * n + 2) 0 (.str x) := by
  refine ⟨rfl, ?_, by simp only [PyData.depth]; omega, .inl rfl⟩
  have e := PySem.StrLaws.reprText_len x h
  show (reprText x).length ≤ _
  omega
theorem sh_all {n m : Nat} : ∀ {ds : List PyData}, (∀ d ∈ ds, Sh n m d) → PyData.showableAll ds = true ∧ ((PyData.shownAll ds).map (·.length)).sum ≤ n * ds.length ∧ PyData.depthAll ds ≤ m ∧ (PyData.shownAll ds).length = ds.length
  | [], _ => ⟨rfl, Nat.zero_le _, Nat.zero_le _, rfl⟩
  | d :: ds, h => by
    obtain ⟨a, b, c, e⟩ := sh_all (ds := ds) fun x hx => h x (List.mem_cons_of_mem _ hx)
    have hd := h d List.mem_cons_self
    refine ⟨?_, ?_, ?_, ?_⟩
    · simp only [PyData.showableAll, hd.s, a, Bool.and_self]
    · simp only [PyData.shownAll, List.map_cons, List.sum_cons, List.length_cons]
      have := hd.z
      rw [Nat.mul_add, Nat.mul_one]
      omega
    · simp only [PyData.depthAll]
      exact Nat.max_le.mpr ⟨hd.p, c⟩
    · simp only [PyData.shownAll, List.length_cons, e]
theorem noDict_all {ds : List PyData} (h : ∀ d ∈ ds, d.hasDict = false) : PyData.hasDictAll ds = false := by
  induction ds with
  | nil => rfl
  | cons d ds ih =>
    simp only [PyData.hasDictAll, h d List.mem_cons_self, Bool.false_or]
    exact ih fun x hx => h x (List.mem_cons_of_mem _ hx)
theorem noList_all {ds : List PyData} (h : ∀ d ∈ ds, hasList d = false) : hasListAll ds = false := by
  induction ds with
  | nil => rfl
  | cons d ds ih =>
    simp only [hasListAll, h d List.mem_cons_self, Bool.false_or]
    exact ih fun x hx => h x (List.mem_cons_of_mem _ hx)
theorem Sh.list {n m k : Nat} {ds : List PyData} (h : ∀ d ∈ ds, Sh n m d) (hd : ∀ d ∈ ds, d.hasDict = false) (hk : ds.length ≤ k) : Sh (n * k + 2 * k + 3) (m + 1) (.list ds) := by
  obtain ⟨a, b, c, e⟩ := sh_all h
  refine ⟨by simpa only [PyData.showable] using a, ?_, by simp only [PyData.depth]; omega, .inr (by simpa only [PyData.hasDict] using noDict_all hd)⟩
  have e1 := listText_len_le (PyData.shownAll ds)
  simp only [PyData.shown]
  have e2 : n * ds.length ≤ n * k := Nat.mul_le_mul_left n hk
  omega
theorem Sh.tup {n m k : Nat} {ds : List PyData} (h : ∀ d ∈ ds, Sh n m d) (hd : (∀ d ∈ ds, d.hasDict = false) ∨ ∀ d ∈ ds, hasList d = false) (hk : ds.length ≤ k) : Sh (n * k + 2 * k + 3) (m + 1) (.tuple ds) := by
  obtain ⟨a, b, c, e⟩ := sh_all h
  refine ⟨by simpa only [PyData.showable] using a, ?_, by simp only [PyData.depth]; omega, ?_⟩
  · have e1 := tupleText_len_le (PyData.shownAll ds)
    simp only [PyData.shown]
    have e2 : n * ds.length ≤ n * k := Nat.mul_le_mul_left n hk
    omega
  · rcases hd with hd | hd
    · exact .inr (by simpa only [PyData.hasDict] using noDict_all hd)
    · exact .inl (by simpa only [hasList] using noList_all hd)
theorem Sh.tup1 {n m : Nat} {a : PyData} (h : Sh n m a) (hd : a.hasDict = false) : Sh (n * 1 + 2 * 1 + 3) (m + 1) (.tuple [a]) :=
  Sh.tup (fun d hm => by rcases List.mem_singleton.mp hm with rfl; exact h) (.inl fun d hm => by rcases List.mem_singleton.mp hm with rfl; exact hd) (Nat.le_refl _)
theorem Sh.dict1 {n m : Nat} {i : Int} {v : PyData} (h : Sh n m (.int i)) (hv : Sh n m v) (hl : hasList v = false) : Sh (2 * n + 10) (m + 1) (.dict [(.int i, v)]) := by
  refine ⟨by simp only [PyData.showable, PyData.showableKv, hv.s, Bool.and_true]; exact h.s, ?_, ?_, .inl (by simp only [hasList, hasListKv, hl, Bool.or_self])⟩
  · have e1 := dictText_len_le (PyData.shownKv [(.int i, v)])
    have e2 : (PyData.shownKv [(.int i, v)]) = [PyData.shown (.int i) ++ ": " ++ PyData.shown v] := by simp only [PyData.shownKv]
    simp only [PyData.shown]
    rw [e2] at e1 ⊢
    simp only [List.map_cons, List.map_nil, List.sum_cons, List.sum_nil, List.length_cons, List.length_nil, strLen_append] at e1
    have h1 := h.z
    have h2 := hv.z
    have h3 : (Str.ofString ": ").length = 2 := by decide +kernel
    rw [h3] at e1
    omega
  · have h1 := h.p
    have h2 := hv.p
    simp only [PyData.depth, PyData.depthKv]
    simp only [PyData.depth] at h1 h2
    omega
end DL
set_option Elab.async false
set_option linter.all false
set_option maxRecDepth 100000
set_option maxHeartbeats 4000000
namespace DL
open PySem PySem.Spec PyProof.Rows L2

/-! ### the deck of draws: a dict at p, its list of items at l, at most c draws so far -/
abbrev sItems : Key := .inr "items"
abbrev sSeed : Key := .inr "seed"
abbrev sDraws : Key := .inr "draws"
abbrev deckKv (l : Addr) (sd dr : Int) : List (Key × Sl) := [(sItems, .raw (.ref l)), (sSeed, .dat (.int sd)), (sDraws, .dat (.int dr))]
structure Deck (M : MH) (p l : Addr) (c : Nat) : Prop where
  ne : p ≠ l
  mp : ∃ sd dr : Int, 0 ≤ sd ∧ sd < 2147483629 ∧ 0 ≤ dr ∧ dr ≤ c ∧ M p = some (.dK (deckKv l sd dr))
  ml : ∃ ns : List Int, ns.length ≤ 63 ∧ M l = some (.lst (dats (ns.map .int)))
theorem Deck.mono {M : MH} {p l : Addr} {c c' : Nat} (h : Deck M p l c) (hc : c ≤ c') : Deck M p l c' := by
  obtain ⟨a, ⟨sd, dr, h1, h2, h3, h4, h5⟩, b⟩ := h
  exact ⟨a, ⟨sd, dr, h1, h2, h3, by omega, h5⟩, b⟩
/-- all but the deck stands as it stood -/
def Fr (p l : Addr) (M M' : MH) : Prop := ∀ a m, a ≠ p → a ≠ l → M a = some m → M' a = some m
theorem Fr.refl {p l : Addr} {M : MH} : Fr p l M M := fun _ _ _ _ h => h
theorem Fr.trans {p l : Addr} {M M1 M2 : MH} (a : Fr p l M M1) (b : Fr p l M1 M2) : Fr p l M M2 := fun x m h1 h2 h => b x m h1 h2 (a x m h1 h2 h)
theorem Deck.out {M : MH} {p l L : Addr} {c : Nat} {m : Mo} (h : Deck M p l c) (hL : M L = none) : Deck (setM M L m) p l c ∧ L ≠ p ∧ L ≠ l := by
  obtain ⟨a, ⟨sd, dr, h1, h2, h3, h4, h5⟩, ⟨ns, h6, h7⟩⟩ := h
  have e1 : L ≠ p := fun z => by rw [z, h5] at hL; cases hL
  have e2 : L ≠ l := fun z => by rw [z, h7] at hL; cases hL
  exact ⟨⟨a, ⟨sd, dr, h1, h2, h3, h4, by rw [setM_ne (Ne.symm e1)]; exact h5⟩, ⟨ns, h6, by rw [setM_ne (Ne.symm e2)]; exact h7⟩⟩, e1, e2⟩
theorem Deck.set {M : MH} {p l L : Addr} {c : Nat} {m : Mo} (h : Deck M p l c) (e1 : L ≠ p) (e2 : L ≠ l) : Deck (setM M L m) p l c := by
  obtain ⟨a, ⟨sd, dr, h1, h2, h3, h4, h5⟩, ⟨ns, h6, h7⟩⟩ := h
  exact ⟨a, ⟨sd, dr, h1, h2, h3, h4, by rw [setM_ne (Ne.symm e1)]; exact h5⟩, ⟨ns, h6, by rw [setM_ne (Ne.symm e2)]; exact h7⟩⟩
theorem Deck.del {M : MH} {p l L : Addr} {c : Nat} (h : Deck M p l c) (e1 : L ≠ p) (e2 : L ≠ l) : Deck (delM M L) p l c := by
  obtain ⟨a, ⟨sd, dr, h1, h2, h3, h4, h5⟩, ⟨ns, h6, h7⟩⟩ := h
  refine ⟨a, ⟨sd, dr, h1, h2, h3, h4, ?_⟩, ⟨ns, h6, ?_⟩⟩
  · unfold delM; rw [if_neg (Ne.symm e1)]; exact h5
  · unfold delM; rw [if_neg (Ne.symm e2)]; exact h7
theorem Fr.setD {p l L : Addr} {M M' : MH} {m : Mo} (h : Fr p l (setM M L m) M') (hL : M L = none) : Fr p l M (delM M' L) := by
  intro a x e1 e2 e
  have ne : a ≠ L := fun z => by rw [z, hL] at e; cases e
  unfold delM
  rw [if_neg ne]
  exact h a x e1 e2 (by rw [setM_ne ne]; exact e)
theorem Fr.set {p l L : Addr} {M M' : MH} {m m' : Mo} (h : Fr p l (setM M L m) M') : Fr p l (setM M L m') (setM M' L m') := by
  intro a x e1 e2 e
  by_cases ne : a = L
  · subst ne; rw [setM_same] at e ⊢; exact e
  · rw [setM_ne ne] at e ⊢
    exact h a x e1 e2 (by rw [setM_ne ne]; exact e)
theorem valS_cons {κ : Type} [DecidableEq κ] {k j : κ} {r : Sl} {ks : List (κ × Sl)} : valS ((j, r) :: ks) k = if j = k then some r else valS ks k := by
  unfold valS
  rw [List.find?_cons]
  by_cases h : j = k
  · rw [decide_eq_true h, if_pos h]; rfl
  · rw [decide_eq_false h, if_neg h]
theorem valS_items {l : Addr} {sd dr : Int} : valS (deckKv l sd dr) sItems = some (.raw (.ref l)) := by rw [valS_cons, if_pos rfl]
theorem kne1 : ¬ sItems = sSeed := by decide +kernel
theorem kne2 : ¬ sItems = sDraws := by decide +kernel
theorem kne3 : ¬ sSeed = sDraws := by decide +kernel
theorem kne3' : ¬ sDraws = sSeed := by decide +kernel
theorem kne2' : ¬ sDraws = sItems := by decide +kernel
theorem kne1' : ¬ sSeed = sItems := by decide +kernel
theorem valS_seed {l : Addr} {sd dr : Int} : valS (deckKv l sd dr) sSeed = some (.dat (.int sd)) := by rw [valS_cons, if_neg kne1, valS_cons, if_pos rfl]
theorem valS_draws {l : Addr} {sd dr : Int} : valS (deckKv l sd dr) sDraws = some (.dat (.int dr)) := by rw [valS_cons, if_neg kne2, valS_cons, if_neg kne3, valS_cons, if_pos rfl]
theorem putS_draws {l : Addr} {sd dr d2 : Int} : putS (deckKv l sd dr) sDraws (.dat (.int d2)) = deckKv l sd d2 := by
  unfold putS deckKv
  rw [if_pos (by rw [List.any_cons, List.any_cons, List.any_cons]; simp)]
  rw [List.map_cons, List.map_cons, List.map_cons, List.map_nil, if_neg (show ¬ (sItems, (Sl.raw (.ref l))).1 = sDraws from kne2), if_neg (show ¬ (sSeed, (Sl.dat (.int sd))).1 = sDraws from kne3), if_pos rfl]
theorem merge_deck {l : Addr} {sd dr : Int} : mergeS [] (deckKv l sd dr) = deckKv l sd dr := by
  unfold mergeS deckKv
  rw [List.foldl_cons, List.foldl_cons, List.foldl_cons, List.foldl_nil]
  have e1 : putS ([] : List (Key × Sl)) sItems (.raw (.ref l)) = [(sItems, .raw (.ref l))] := rfl
  have e2 : putS [(sItems, Sl.raw (.ref l))] sSeed (.dat (.int sd)) = [(sItems, .raw (.ref l)), (sSeed, .dat (.int sd))] := by
    unfold putS
    rw [if_neg (by rw [List.any_cons, List.any_nil, decide_eq_false (show ¬ (sItems, (Sl.raw (.ref l))).1 = sSeed from kne1)]; simp)]
    rfl
  have e3 : putS [(sItems, Sl.raw (.ref l)), (sSeed, .dat (.int sd))] sDraws (.dat (.int dr)) = [(sItems, .raw (.ref l)), (sSeed, .dat (.int sd)), (sDraws, .dat (.int dr))] := by
    unfold putS
    rw [if_neg (by rw [List.any_cons, List.any_cons, List.any_nil, decide_eq_false (show ¬ (sItems, (Sl.raw (.ref l))).1 = sDraws from kne2), decide_eq_false (show ¬ (sSeed, (Sl.dat (.int sd))).1 = sDraws from kne3)]; simp)]
    rfl
  show putS (putS (putS [] sItems (.raw (.ref l))) sSeed (.dat (.int sd))) sDraws (.dat (.int dr)) = _
  rw [e1, e2, e3]
/-- arithmetic of the draws -/
theorem mixed_lt (a : Int) : 0 ≤ a % 2147483647 ∧ a % 2147483647 < 2147483647 := ⟨Int.emod_nonneg _ (by decide), Int.emod_lt_of_pos _ (by decide)⟩
theorem gcd_step {x y : Int} (hx : 0 ≤ x) (hy : 0 < y) : Int.gcd y (x % y) = Int.gcd x y := by
  obtain ⟨a, rfl⟩ := Int.eq_ofNat_of_zero_le hx
  obtain ⟨b, rfl⟩ := Int.eq_ofNat_of_zero_le (Int.le_of_lt hy)
  have e : ((a : Int) % (b : Int)) = ((a % b : Nat) : Int) := by rw [Int.natCast_emod]
  rw [e]
  show Nat.gcd b (a % b) = Nat.gcd a b
  rw [Nat.gcd_comm a b, Nat.gcd_rec b a, Nat.gcd_comm]
theorem gcd_zero {x : Int} (hx : 0 ≤ x) : ((Int.gcd x 0 : Nat) : Int) = x := by
  obtain ⟨a, rfl⟩ := Int.eq_ofNat_of_zero_le hx
  show ((Nat.gcd a 0 : Nat) : Int) = a
  rw [Nat.gcd_zero_right]
end DL
namespace DL
open PySem PySem.Spec PyProof.Rows L2
/-! calls whose values come in the parameters' order -/
section
variable {K : PySem.W.Frag} {x qual : Str} {params : Arguments} {body : List Stmt} {scope : Scope} {f : Addr} {fd : FuncData}
theorem cb_pos (F : FunD K x qual params body scope [] [] f fd) {ps : List Str} {n : Nat}
    (h : ∀ (kV doc pm : Value) (an : Option Addr) (cdv ct : Value) (us : List Value), us.length = n → bindArgs (PySem.W.fnOf x qual params body scope .none kV doc pm an cdv ct) ⟨us, []⟩ = pure (ps.zip us)) : CB K fd ps n [] (fun _ a _ => a) [] := by
  obtain ⟨oc, od, dV, kV, doc, pm, an, cdv, ct, osl, rfl, lk, hcd, hD, hK⟩ := F.ex
  refine ⟨⟨[], .nil, fun s us ws _ h1 h2 => ?_⟩, fun F a b c a' b' c' _ h _ => h⟩
  cases ws with
  | cons _ _ => cases h2
  | nil =>
    rcases hD with ⟨_, rfl⟩ | ⟨e, _⟩
    · exact .of_eq (h kV doc pm an cdv ct us h1)
    · exact absurd rfl e
theorem cb_kw (F : FunD K x qual params body scope [] [] f fd) {ps ks : List Str}
    (h : ∀ (kV doc pm : Value) (an : Option Addr) (cdv ct : Value) (ws : List Value), ws.length = ks.length → bindArgs (PySem.W.fnOf x qual params body scope .none kV doc pm an cdv ct) ⟨[], ks.zip ws⟩ = pure (ps.zip ws)) : CB K fd ps 0 ks (fun _ _ c => c) [] := by
  obtain ⟨oc, od, dV, kV, doc, pm, an, cdv, ct, osl, rfl, lk, hcd, hD, hK⟩ := F.ex
  refine ⟨⟨[], .nil, fun s us ws _ h1 h2 => ?_⟩, fun F a b c a' b' c' _ _ h => h⟩
  cases us with
  | cons _ _ => cases h1
  | nil =>
    rcases hD with ⟨_, rfl⟩ | ⟨e, _⟩
    · exact .of_eq (h kV doc pm an cdv ct ws h2)
    · exact absurd rfl e
variable {M : MH} {ρ : List Sl} {R : Sl → MH → Prop} {S : Spc} {n m N : Nat} {t tk : TA} {E : XK} {ks : List Str}
theorem ev_callP (h : EvA K t ρ M fun rs M1 => rs.length = n ∧ rs.length = N ∧ S rs M1 R) : Ev K (tCallG (spD K N S) (fun _ a _ => a) n 0 [] E t tNil) ρ M R :=
  ev_callG (dS := []) (fun _ => .nil) (fun F a b c a' b' c' _ h _ => h) (fun B σ H he hw Q k => h B σ H he hw Q fun B' vs H' rs M' e w s ⟨h1, h2, h3⟩ => k B' vs H' rs M' e w s (ea_nil ⟨h1, rfl, h2, h3⟩))
theorem ev_callW (h : EvA K tk ρ M fun rs M1 => rs.length = m ∧ rs.length = N ∧ S rs M1 R) : Ev K (tCallG (spD K N S) (fun _ _ c => c) 0 m [] E tNil tk) ρ M R :=
  ev_callG (dS := []) (fun _ => .nil) (fun F a b c a' b' c' _ _ h => h) (ea_nil fun B σ H he hw Q k => h B σ H he hw Q fun B' vs H' rs M' e w s ⟨h1, h2, h3⟩ => k B' vs H' rs M' e w s ⟨rfl, h1, h2, h3⟩)
end
end DL
namespace DL
open PySem PySem.Spec PyProof.Rows L2
section
variable {K : PySem.W.Frag} {M : MH} {ρ : List Sl} {R : List Sl → MH → Prop} {tg : TG} {tgs : TGs} {d : PyData} {ds : List PyData}
theorem gs_consD (q : Gd K tg (.dat d) ρ M fun ρ1 M1 => Gds K tgs (dats ds) ρ1 M1 R) : Gds K (gCons tg tgs) (dats (d :: ds)) ρ M R := gs_cons q
theorem gs_nilD (q : R ρ M) : Gds K gNil (dats []) ρ M R := gs_nil q
variable {td tv : TE} {k : Str} {D : DE} {Q : Sl → MH → Prop}
theorem ev_dgetS (h : Ev K td ρ M fun x M1 => ∃ p, x = .raw (.ref p) ∧ ∃ kvs r, M1 p = some (.dK kvs) ∧ valS kvs (.inr k) = some r ∧ Q r M1) : Ev K (tDGet td (tC (.str k))) ρ M Q :=
  ev_dget fun B σ H he hw Q1 k1 => h B σ H he hw Q1 fun B1 v1 H1 r1 M1 e1 w1 s1 ⟨p, ex, kvs, r, h1, h2, q⟩ => k1 B1 v1 H1 r1 M1 e1 w1 s1 ⟨p, ex, ev_str ⟨_, _, kvs, r, rfl, rfl, h1, h2, q⟩⟩
theorem x_dputS (h : Ev K tv ρ M fun r M1 => Ev K td ρ M1 fun x M2 => ∃ p, x = .raw (.ref p) ∧ ∃ kvs, M2 p = some (.dK kvs) ∧ kvs.length < sizeLine ∧ D.nx ρ (setM M2 p (.dK (putS kvs (.inr k) r)))) : Xs K (sDPut td (tC (.str k)) tv) ρ M D :=
  x_dput fun B σ H he hw Q1 k1 => h B σ H he hw Q1 fun B1 v1 H1 r1 M1 e1 w1 s1 h1 => k1 B1 v1 H1 r1 M1 e1 w1 s1 fun B σ H he hw Q2 k2 => h1 B σ H he hw Q2 fun B2 v2 H2 r2 M2 e2 w2 s2 ⟨p, ex, kvs, h3, h4, q⟩ => k2 B2 v2 H2 r2 M2 e2 w2 s2 ⟨p, ex, ev_str ⟨_, _, kvs, rfl, rfl, h3, h4, q⟩⟩
theorem filter_yes {α : Type} (l : List α) : l.filter (fun _ => true) = l := List.filter_eq_self.mpr fun _ _ => rfl
theorem cut_map {α β : Type} (f : α → β) (xs : List α) (lo hi : Option Int) : cutD (xs.map f) lo hi = (cutD xs lo hi).map f := by
  unfold cutD
  rw [List.length_map, List.map_take, List.map_drop]
theorem cut_le {α : Type} (xs : List α) (k : Nat) : (cutD xs none (some (k : Int))).length ≤ k := by
  unfold cutD HT.sIx
  rw [List.length_take]
  simp only [] at *
  refine Nat.le_trans (Nat.min_le_left _ _) ?_
  split <;> omega
theorem evp_nil {R : List (Sl × Sl) → MH → Prop} (h : R [] M) : EvP K [] ρ M R := h
theorem evp_cons {tk tv : TE} {trs : List (TE × TE)} {R : List (Sl × Sl) → MH → Prop} (h : Ev K tk ρ M fun a M1 => Ev K tv ρ M1 fun b M2 => EvP K trs ρ M2 fun ps M3 => R ((a, b) :: ps) M3) : EvP K ((tk, tv) :: trs) ρ M R := h
theorem snoc_of {α : Type} {l : List α} (h : l ≠ []) : ∃ i z, l = i ++ [z] := ⟨l.dropLast, l.getLast h, (List.dropLast_concat_getLast h).symm⟩
theorem dats_snoc (ds : List PyData) (d : PyData) : dats ds ++ [Sl.dat d] = dats (ds ++ [d]) := by unfold dats; rw [List.map_append]; rfl
inductive Dl : List Sl → List PyData → Nat → Prop
  | nil : Dl [] [] 0
  | cons {d : PyData} {xs : List Sl} {ds : List PyData} {n : Nat} : Dl xs ds n → Dl (.dat d :: xs) (d :: ds) (n + 1)
theorem Dl.eq : ∀ {xs : List Sl} {ds : List PyData} {n : Nat}, Dl xs ds n → xs = dats ds ∧ ds.length = n
  | _, _, _, .nil => ⟨rfl, rfl⟩
  | _, _, _, .cons h => by
    obtain ⟨a, b⟩ := h.eq
    rw [a, ← b]
    exact ⟨rfl, rfl⟩
class DlC (xs : List Sl) (ds : outParam (List PyData)) (n : outParam Nat) : Prop where
  h : Dl xs ds n
instance : DlC [] [] 0 := ⟨.nil⟩
instance {d : PyData} {xs : List Sl} {ds : List PyData} {n : Nat} [a : DlC xs ds n] : DlC (.dat d :: xs) (d :: ds) (n + 1) := ⟨.cons a.h⟩
theorem ex_dats {xs : List Sl} {ds : List PyData} {n : Nat} [a : DlC xs ds n] {R : List PyData → Prop} (hn : n ≤ sizeLine) (q : R ds) : ∃ ds, xs = dats ds ∧ ds.length ≤ sizeLine ∧ R ds := by
  obtain ⟨a, b⟩ := a.h.eq
  exact ⟨ds, a, by omega, q⟩
theorem x_par' {i j : Nat} {tp : TA} (h : EvA K tp ρ M fun rs M1 => ∃ r1 r2, rs = [r1, r2] ∧ ∃ ρ', (ρ.set i r1).set j r2 = ρ' ∧ D.nx ρ' M1) : Xs K (tPar i j tp) ρ M D :=
  x_par fun B σ H he hw Q k => h B σ H he hw Q fun B' vs H' rs M' e w s ⟨r1, r2, e1, ρ', e2, q⟩ => k B' vs H' rs M' e w s ⟨r1, r2, e1, by rw [e2]; exact q⟩
theorem ex_set2 {ρ ρ' : List Sl} {i j : Nat} {a b : Sl} {R : List Sl → Prop} (h : (ρ.set i a).set j b = ρ') (q : R ρ') : ∃ ρ', (ρ.set i a).set j b = ρ' ∧ R ρ' := ⟨ρ', h, q⟩
section
variable {N Bk Ck : List Sl → MH → Prop} {Rt : Sl → MH → Prop} {t u : TS} {te : TE} {tt : TT} {g : TG} {wi : TI} {i j : Nat} {tp : TA}
theorem y_seq (h : Xs K t ρ M ⟨fun ρ' M' => Xs K u ρ' M' ⟨N, Rt, Bk, Ck⟩, Rt, Bk, Ck⟩) : Xs K (tSeq t u) ρ M ⟨N, Rt, Bk, Ck⟩ := x_seq h
theorem y_next (h : N ρ M) : Xs K tNext ρ M ⟨N, Rt, Bk, Ck⟩ := x_next h
theorem y_brk (h : Bk ρ M) : Xs K tBreak ρ M ⟨N, Rt, Bk, Ck⟩ := x_brk h
theorem y_cont (h : Ck ρ M) : Xs K tCont ρ M ⟨N, Rt, Bk, Ck⟩ := x_cont h
theorem y_asg (h : Ev K te ρ M fun r M1 => Gd K g r ρ M1 N) : Xs K (tAsg te g) ρ M ⟨N, Rt, Bk, Ck⟩ := x_asg h
theorem y_set (h : Ev K te ρ M fun r M1 => ∃ ρ', ρ.set i r = ρ' ∧ N ρ' M1) : Xs K (tAsg te (gName i)) ρ M ⟨N, Rt, Bk, Ck⟩ := x_asg fun B σ H he hw Q k => h B σ H he hw Q fun B' v H' r M' e w s ⟨ρ', e2, q⟩ => k B' v H' r M' e w s (g_name' e2 q)
theorem y_ret (h : Ev K te ρ M Rt) : Xs K (tRet te) ρ M ⟨N, Rt, Bk, Ck⟩ := x_ret h
theorem y_retN (h : Rt (.dat .none) M) : Xs K tRetN ρ M ⟨N, Rt, Bk, Ck⟩ := x_retN h
theorem y_drop (h : Ev K te ρ M fun _ M1 => N ρ M1) : Xs K (tDrop te) ρ M ⟨N, Rt, Bk, Ck⟩ := x_drop h
theorem y_par (h : EvA K tp ρ M fun rs M1 => ∃ r1 r2, rs = [r1, r2] ∧ ∃ ρ', (ρ.set i r1).set j r2 = ρ' ∧ N ρ' M1) : Xs K (tPar i j tp) ρ M ⟨N, Rt, Bk, Ck⟩ := x_par' h
theorem y_dput (h : Ev K tv ρ M fun r M1 => Ev K td ρ M1 fun x M2 => ∃ p, x = .raw (.ref p) ∧ ∃ kvs, M2 p = some (.dK kvs) ∧ kvs.length < sizeLine ∧ N ρ (setM M2 p (.dK (putS kvs (.inr k) r)))) : Xs K (sDPut td (tC (.str k)) tv) ρ M ⟨N, Rt, Bk, Ck⟩ := x_dputS h
theorem y_while (Iv : Nat → List Sl → MH → Prop) (h0 : ∃ m, Iv m ρ M)
    (hs : ∀ m ρ' M', Iv m ρ' M' → EvT K tt ρ' M' fun b M1 =>
      (b = true → Xs K t ρ' M1 ⟨fun ρ2 M2 => ∃ m', m' < m ∧ Iv m' ρ2 M2, Rt, N, fun ρ2 M2 => ∃ m', m' < m ∧ Iv m' ρ2 M2⟩) ∧ (b = false → N ρ' M1)) : Xs K (tWhile tt t) ρ M ⟨N, Rt, Bk, Ck⟩ := x_while Iv h0 hs
theorem y_for (h : EvI K wi ρ M fun it M1 => ∃ Iv : Nat → List Sl → MH → Prop, Iv 0 ρ M1 ∧
      (∀ i d ρ' M', it[i]? = some d → Iv i ρ' M' → Gd K g (.dat d) ρ' M' fun ρ2 M2 => Xs K t ρ2 M2 ⟨Iv (i + 1), Rt, N, Iv (i + 1)⟩) ∧ (∀ ρ' M', Iv it.length ρ' M' → N ρ' M')) : Xs K (tFor wi g t) ρ M ⟨N, Rt, Bk, Ck⟩ := x_for h
end
theorem ex_set1 {ρ ρ' : List Sl} {i : Nat} {a : Sl} {R : List Sl → Prop} (h : ρ.set i a = ρ') (q : R ρ') : ∃ ρ', ρ.set i a = ρ' ∧ R ρ' := ⟨ρ', h, q⟩
theorem deckKv_len {l : Addr} {a b : Int} : (deckKv l a b).length < sizeLine := (by decide : 3 < sizeLine)
theorem deckKv_15 {l : Addr} {a b : Int} : (deckKv l a b).length ≤ 15 := (by decide : 3 ≤ 15)
/-- a comprehension whose items draw from the deck, k draws each at most -/
theorem ev_lcK {wi : TI} {vs : List Nat} {p l : Addr} {te : TE} {g : TG} {R : Sl → MH → Prop} (k : Nat) (Pd : PyData → Prop) (gw : GW g vs) (gm : GM g)
    (h : EvI K wi ρ M fun it M1 => it.length < sizeLine ∧ ∃ c, Deck M1 p l c ∧
      (∀ d ∈ it, ∀ M' c', Deck M' p l c' → c' ≤ c + k * it.length → Gd K g (.dat d) (wipeS ρ vs) M' fun ρ2 M2 => M2 = M' ∧ Ev K te ρ2 M' fun y M3 => ∃ d, y = .dat d ∧ Pd d ∧ Deck M3 p l (c' + k) ∧ Fr p l M' M3) ∧
      ∀ acc M', acc.length = it.length → (∀ d ∈ acc, Pd d) → Deck M' p l (c + k * it.length) → Fr p l M1 M' → R (.dat (.list acc)) M') : Ev K (tLc wi g tYes te vs) ρ M R := by
  refine ev_lc gw gm ?_
  intro B σ H he hw Rc k1
  refine h B σ H he hw Rc fun B' J H' it M1 e w ok hq => k1 B' J H' it M1 e w ok ?_
  obtain ⟨hz, c, hd, hs, q⟩ := hq
  intro L hL
  obtain ⟨hd0, n1, n2⟩ := hd.out (m := .lst []) hL
  refine ⟨fun i acc M' => acc.length = i ∧ (∀ d ∈ acc, Pd d) ∧ Deck M' p l (c + k * i) ∧ M' L = some (.lst (dats acc)) ∧ Fr p l M1 (delM M' L), ⟨rfl, (fun _ h => by cases h), by rw [Nat.mul_zero]; exact hd0, setM_same, ?_⟩, ?_, ?_⟩
  · rw [delM_setM hL]; exact Fr.refl
  · rintro i d acc M' hi ⟨rfl, hp, hdk, hM, hf⟩
    have hlt : acc.length < it.length := (List.getElem?_eq_some_iff.mp hi).1
    have hk : k * acc.length ≤ k * it.length := Nat.mul_le_mul_left k (Nat.le_of_lt hlt)
    refine ⟨hM, fun B1 v σ1 H1 sv he1 hw1 Q1 k2 => hs d (List.mem_of_getElem? hi) M' _ hdk (by omega) B1 v σ1 H1 sv he1 hw1 Q1 fun B2 σ2 H2 ρ2 M2 e2 en2 w2 q2 => k2 B2 σ2 H2 ρ2 M2 e2 en2 w2 ?_⟩
    obtain ⟨rfl, hev⟩ := q2
    refine et_yes ⟨fun _ => ?_, fun z => by cases z⟩
    intro B3 σ3 H3 he3 hw3 Q3 k3
    refine hev B3 σ3 H3 he3 hw3 Q3 fun B4 y H4 r4 M4 e4 w4 s4 hy => k3 B4 y H4 r4 M4 e4 w4 s4 ?_
    obtain ⟨d4, rfl, hp4, hd4, hf4⟩ := hy
    refine ⟨d4, rfl, hf4 L _ n1 n2 hM, by omega, ?_, ?_, ?_, setM_same, ?_⟩
    · rw [List.length_append, List.length_singleton]
    · intro x hx
      rcases List.mem_append.mp hx with hx | hx
      · exact hp x hx
      · rw [List.mem_singleton.mp hx]; exact hp4
    · rw [Nat.mul_succ, ← Nat.add_assoc]
      exact hd4.set n1 n2
    · intro a m e1 e2 e
      have e3 := hf a m e1 e2 e
      have ne : a ≠ L := fun z => by rw [z] at e3; unfold delM at e3; rw [if_pos rfl] at e3; cases e3
      unfold delM at e3 ⊢
      rw [if_neg ne] at e3 ⊢
      rw [setM_ne ne]
      exact hf4 a m e1 e2 e3
  · rintro acc M' ⟨h1, h2, h3, h4, h5⟩
    exact ⟨h4, q acc (delM M' L) h1 h2 (h3.del n1 n2) h5⟩
theorem rd_pow' {R : Sl → MH → Prop} {i j r : Int} (hc : CPow i j) (e : i ^ j.toNat = r) (q : R (.dat (.int r)) M) : RD K (rI CPow fun i j => .int (i ^ j.toNat)) (.dat (.int i)) (.dat (.int j)) M R := rd_pow hc (by rw [e]; exact q)
theorem lt1 (a b : Nat) : decide ([a] < [b]) = decide (a < b) := decide_eq_decide.mpr (by rw [List.cons_lt_cons_iff]; simp)
theorem ilog {i : Int} (h : i.natAbs < 2 ^ 63) : i.natAbs.log2 < 1920 := Nat.lt_of_lt_of_le (PySem.Flt.log2_lt_of (by decide) h) (by decide)
end
end DL
set_option Elab.async false
set_option linter.all false
set_option maxRecDepth 100000
set_option maxHeartbeats 4000000
namespace DL
open PySem PySem.Spec PyProof.Rows L2
/-! ### texts -/
theorem app_l (a y : PySem.Str) : (a ++ y).cps.toList = a.cps.toList ++ y.cps.toList := by
  rw [PySem.Str.cps_append, Array.toList_append]
theorem len_l (a : PySem.Str) : a.length = a.cps.toList.length := Array.length_toList.symm
theorem join_chars : ∀ cs : List Nat, (Txt.join ("" : Str) (cs.map fun c => (⟨#[c]⟩ : Str))).cps.toList = cs := by
  have h : ∀ cs : List Nat, (Str.join ("" : Str) (cs.map fun c => (⟨#[c]⟩ : Str))).cps.toList = cs := by
    intro cs
    have e0 : ("" : Str).cps.toList = [] := by decide +kernel
    induction cs with
    | nil => rfl
    | cons c cs ih =>
      cases cs with
      | nil => rfl
      | cons c2 cs =>
        show ((⟨#[c]⟩ : Str) ++ ("" : Str) ++ Str.join ("" : Str) ((c2 :: cs).map fun c => (⟨#[c]⟩ : Str))).cps.toList = _
        rw [app_l, app_l, ih, e0]
        rfl
  intro cs
  show (Builtin.Str.glued ("" : Str) _).cps.toList = _
  rw [PySem.StrLaws.glued_eq_join]
  exact h cs
theorem cut_mem {z : Str} {lo hi : Option Int} {c : Nat} (h : c ∈ (cutS z lo hi).cps.toList) : c ∈ z.cps.toList := by
  unfold cutS at h
  exact List.mem_of_mem_drop (List.mem_of_mem_take (by simpa using h))
theorem chars_of : ∀ {acc : List PyData}, (∀ d ∈ acc, ∃ x, d = PyData.str ⟨#[x]⟩ ∧ x < 128) → ∃ cs : List Nat, acc = (cs.map fun c => (⟨#[c]⟩ : Str)).map .str ∧ (∀ c ∈ cs, c < 128) ∧ cs.length = acc.length
  | [], _ => ⟨[], rfl, (fun _ h => by cases h), rfl⟩
  | d :: acc, h => by
    obtain ⟨cs, h1, h2, h3⟩ := chars_of (acc := acc) fun x hx => h x (List.mem_cons_of_mem _ hx)
    obtain ⟨x, rfl, hx⟩ := h d List.mem_cons_self
    refine ⟨x :: cs, ?_, ?_, ?_⟩
    · rw [List.map_cons, List.map_cons, ← h1]
    · intro c hc
      rcases List.mem_cons.mp hc with rfl | hc
      · exact hx
      · exact h2 c hc
    · rw [List.length_cons, List.length_cons, h3]
theorem ones_sum (cs : List Nat) : ((cs.map fun c => (⟨#[c]⟩ : Str)).map (·.length)).sum = cs.length := by
  induction cs with
  | nil => rfl
  | cons c cs ih =>
    rw [List.map_cons, List.map_cons, List.sum_cons, ih, List.length_cons]
    show 1 + cs.length = _
    omega
theorem join_ok {acc : List PyData} {k : Nat} (h : ∀ d ∈ acc, ∃ x, d = PyData.str ⟨#[x]⟩ ∧ x < 128) (hk : acc.length ≤ k) (hk2 : k ≤ 1000) {P : Str → Prop} (q : ∀ x : Str, x.length ≤ k → (∀ c ∈ x.cps.toList, c < 128) → P x) :
    ∃ ys : List Str, Sl.dat (.list acc) = Sl.dat (.list (ys.map .str)) ∧ (ys.map (·.length)).sum + ys.length * ("" : Str).length ≤ 16777216 ∧ P (Txt.join ("" : Str) ys) := by
  obtain ⟨cs, h1, h2, h3⟩ := chars_of h
  refine ⟨_, by rw [h1], ?_, q _ ?_ ?_⟩
  · rw [ones_sum, show ("" : Str).length = 0 by decide +kernel]; omega
  · rw [len_l, join_chars]; omega
  · rw [join_chars]; exact h2
theorem join_ok' {acc : List PyData} {k : Nat} (h : ∀ d ∈ acc, ∃ x, d = PyData.str ⟨#[x]⟩ ∧ x < 128) (hk : acc.length ≤ k) (hk2 : k ≤ 1000) :
    ∃ ys : List Str, Sl.dat (.list acc) = Sl.dat (.list (ys.map .str)) ∧ (ys.map (·.length)).sum + ys.length * ("" : Str).length ≤ 16777216 ∧ (Txt.join ("" : Str) ys).length ≤ k ∧ ∀ c ∈ (Txt.join ("" : Str) ys).cps.toList, c < 128 := by
  obtain ⟨ys, h1, h2, h3⟩ := join_ok h hk hk2 (P := fun x => x.length ≤ k ∧ ∀ c ∈ x.cps.toList, c < 128) fun x a b => ⟨a, b⟩
  exact ⟨ys, h1, h2, h3.1, h3.2⟩
theorem all_nil {α : Type} {P : α → Prop} : ∀ d ∈ ([] : List α), P d := fun _ h => by cases h
theorem all_cons {α : Type} {P : α → Prop} {a : α} {l : List α} (h : P a) (t : ∀ d ∈ l, P d) : ∀ d ∈ a :: l, P d := fun d hd => by
  rcases List.mem_cons.mp hd with rfl | hd
  · exact h
  · exact t d hd
theorem filter_no {α : Type} (l : List α) : l.filter (fun _ => false) = [] := List.filter_eq_nil_iff.mpr fun _ _ => Bool.false_ne_true
/-! ### data whose repr is short: scalars, and lists and tuples of at most 8 -/
def qb : Nat → Nat
  | 0 => 2000
  | k + 1 => qb k * 8 + 2 * 8 + 3
inductive Qd : Nat → PyData → Prop
  | none {k : Nat} : Qd k .none
  | bool {k : Nat} {b : Bool} : Qd k (.bool b)
  | int {k : Nat} {i : Int} : i.natAbs < 2 ^ 1900 → Qd k (.int i)
  | str {k : Nat} {x : Str} : x.length ≤ 150 → (∀ c ∈ x.cps.toList, c < 16 ^ 8) → Qd k (.str x)
  | list {k : Nat} {ds : List PyData} : ds.length ≤ 8 → (∀ d ∈ ds, Qd k d) → Qd (k + 1) (.list ds)
  | tup {k : Nat} {ds : List PyData} : ds.length ≤ 8 → (∀ d ∈ ds, Qd k d) → Qd (k + 1) (.tuple ds)
theorem qb_pos : ∀ k, 2000 ≤ qb k
  | 0 => Nat.le_refl _
  | k + 1 => by have := qb_pos k; show 2000 ≤ qb k * 8 + 2 * 8 + 3; omega
theorem Sh.up {n m n' m' : Nat} {d : PyData} (h : Sh n m d) (hn : n ≤ n') (hm : m ≤ m') : Sh n' m' d := ⟨h.s, Nat.le_trans h.z hn, Nat.le_trans h.p hm, h.l⟩
theorem Qd.sh {k : Nat} {d : PyData} (h : Qd k d) : Sh (qb k) k d ∧ d.hasDict = false := by
  induction h with
  | none => exact ⟨Sh.none.up (Nat.le_trans (by decide) (qb_pos _)) (Nat.zero_le _), rfl⟩
  | bool => exact ⟨(Sh.bool _).up (Nat.le_trans (by decide) (qb_pos _)) (Nat.zero_le _), rfl⟩
  | int h => exact ⟨(Sh.intB h (by decide) (by decide)).up (Nat.le_trans (by decide) (qb_pos _)) (Nat.zero_le _), rfl⟩
  | str h1 h2 => exact ⟨(Sh.str h2 h1).up (Nat.le_trans (by decide) (qb_pos _)) (Nat.zero_le _), rfl⟩
  | list h1 _ ih => exact ⟨Sh.list (fun d hd => (ih d hd).1) (fun d hd => (ih d hd).2) h1, by simp only [PyData.hasDict]; exact noDict_all fun d hd => (ih d hd).2⟩
  | tup h1 _ ih => exact ⟨Sh.tup (fun d hd => (ih d hd).1) (.inl fun d hd => (ih d hd).2) h1, by simp only [PyData.hasDict]; exact noDict_all fun d hd => (ih d hd).2⟩
theorem Qd.sho {d : PyData} (h : Qd 3 d) : Sho d := h.sh.1.sho (by decide) (by decide)
theorem Qd.intS {k : Nat} {i : Int} (h : i.natAbs < 2 ^ 63) : Qd k (.int i) := .int (Nat.lt_of_lt_of_le h (Nat.pow_le_pow_right (by decide) (by decide)))
theorem Qd.ascii {k : Nat} {x : Str} (h1 : x.length ≤ 150) (h2 : ∀ c ∈ x.cps.toList, c < 128) : Qd k (.str x) := .str h1 fun c hc => Nat.lt_trans (h2 c hc) (by decide)
theorem Qd.num {k : Nat} {i : Int} (h : i.natAbs < 2 ^ 63) : Qd k (.str (Str.ofString (toString i))) := by
  refine .str ?_ ?_
  · rw [PySem.ofString_length]
    exact Nat.le_trans (int_text_length_le (a := i) (k := 63) (by decide) (PySem.Flt.log2_lt_of (by decide) h)) (by decide)
  · intro c hc
    rw [Str.ofString_eq_toList] at hc
    have hc : c ∈ (toString i).toList.map Char.toNat := by simpa using hc
    obtain ⟨ch, _, rfl⟩ := List.mem_map.mp hc
    have := ch.valid
    have h2 : ch.toNat < 0x110000 := by
      rcases this with h | ⟨_, h⟩
      · exact Nat.lt_trans h (by decide)
      · exact h
    exact Nat.lt_trans h2 (by decide)
/-! ### bounds -/
theorem nb_mul {a b : Int} {i j : Nat} (ha : a.natAbs < 2 ^ i) (hb : b.natAbs < 2 ^ j) : (a * b).natAbs < 2 ^ (i + j) := by
  rw [Int.natAbs_mul, Nat.pow_add]
  exact Nat.mul_lt_mul'' ha hb
theorem nb_add {a b : Int} {i : Nat} (ha : a.natAbs < 2 ^ i) (hb : b.natAbs < 2 ^ i) : (a + b).natAbs < 2 ^ (i + 1) := by
  rw [Nat.pow_succ]
  omega
theorem nb_le {a : Int} {i j : Nat} (ha : a.natAbs < 2 ^ i) (h : i ≤ j := by decide) : a.natAbs < 2 ^ j := Nat.lt_of_lt_of_le ha (Nat.pow_le_pow_right (by decide) h)
theorem nb_1 {i : Nat} (h : 0 < i) : (1 : Int).natAbs < 2 ^ i := Nat.lt_of_lt_of_le (show 1 < 2 ^ 1 by decide) (Nat.pow_le_pow_right (by decide) h)
/-! ### common divisors -/
theorem gcd_bez {n m : Int} (u v : Int) (h : u * n + v * m = 1) : Int.gcd n m = 1 := by
  have h1 : (Int.gcd n m : Int) ∣ 1 := by
    rw [← h]
    exact Int.dvd_add (Int.dvd_mul_of_dvd_right (Int.gcd_dvd_left ..)) (Int.dvd_mul_of_dvd_right (Int.gcd_dvd_right ..))
  exact Nat.eq_one_of_dvd_one (Int.natCast_dvd_natCast.mp h1)
theorem gcd_not {n m k : Int} (hk : 2 ≤ k) (h1 : k ∣ n) (h2 : k ∣ m) : Int.gcd n m ≠ 1 := by
  intro e
  obtain ⟨j, rfl⟩ := Int.eq_ofNat_of_zero_le (show 0 ≤ k by omega)
  have h3 : j ∣ Int.gcd n m := Int.dvd_gcd h1 h2
  rw [e] at h3
  have := Nat.le_of_dvd (by decide) h3
  omega
theorem gcd_fib {x y : Int} (h : Int.gcd x y = 1) : Int.gcd y (x + y) = 1 := by
  have h3 : Int.gcd y (x + y) ∣ Int.gcd x y := by
    refine Int.dvd_gcd ?_ (Int.gcd_dvd_left ..)
    have h1 : (Int.gcd y (x + y) : Int) ∣ x + y := Int.gcd_dvd_right ..
    have h2 : (Int.gcd y (x + y) : Int) ∣ y := Int.gcd_dvd_left ..
    have := Int.dvd_sub h1 h2
    rwa [show x + y - y = x by omega] at this
  rw [h] at h3
  exact Nat.eq_one_of_dvd_one h3
theorem cutD_mem {α : Type} {xs : List α} {lo hi : Option Int} {c : α} (h : c ∈ cutD xs lo hi) : c ∈ xs := by
  unfold cutD at h
  exact List.mem_of_mem_drop (List.mem_of_mem_take h)
end DL
set_option Elab.async false
set_option linter.all false
set_option maxRecDepth 100000
set_option maxHeartbeats 8000000
namespace Lw
open PySem PySem.Spec PyProof.Rows L2 DL
local macro_rules | `(tactic| walk_at "sl") => `(tactic| first | (simp only [wipeS, List.map_cons, List.map_nil, List.set_cons_succ, List.set_cons_zero]; done) | (simp only [wipeS, List.map_cons, List.map_nil, List.set_cons_succ, List.set_cons_zero]; exact rfl) | exact rfl)
local macro_rules | `(tactic| walk_at "dl") => `(tactic| simp only [List.length_cons, List.length_nil, Nat.reduceSub, Nat.reduceAdd, List.replicate, List.cons_append, List.nil_append])
local macro_rules | `(tactic| walk_at "dS") => `(tactic| first
  | with_reducible refine y_seq ?_
  | with_reducible refine y_set ?_
  | with_reducible refine y_asg ?_
  | with_reducible refine y_ret ?_
  | with_reducible refine x_if ?_
  | with_reducible refine y_par ?_
  | with_reducible refine y_drop ?_
  | with_reducible refine y_next ?_
  | with_reducible refine y_retN ?_
  | with_reducible refine y_dput ?_
  | ((with_reducible refine g_name' (ρ' := ?p) ?h ?_); (case h => walk_at "sl"))
  | ((with_reducible refine g_tup ?h ?_); (case h => exact rfl))
  | with_reducible refine gs_cons ?_
  | with_reducible refine gs_consD ?_
  | with_reducible refine gs_nilD ?_
  | with_reducible refine gs_nil ?_)
local macro_rules | `(tactic| walk_at "dT") => `(tactic| first
  | with_reducible refine et_test ?_
  | with_reducible refine et_B ?_
  | with_reducible refine et_not ?_
  | with_reducible refine et_and ?_
  | with_reducible refine et_or ?_
  | with_reducible refine et_yes ?_)
local macro_rules | `(tactic| walk_at "dE") => `(tactic| first
  | ((with_reducible refine ev_var (r := ?r) ?h ?n ?_); (case h => exact rfl); (case n => (intro hh; cases hh)))
  | with_reducible refine ev_int ?_
  | with_reducible refine ev_str ?_
  | with_reducible refine ev_bl ?_
  | with_reducible refine ev_non ?_
  | with_reducible refine ev_ty ?_
  | with_reducible refine ev_dnewD ?_
  | with_reducible refine ev_op ?_
  | with_reducible refine ev_un ?_
  | with_reducible refine ev_cb ?_
  | with_reducible refine ev_callP ?_
  | with_reducible refine ev_callW ?_
  | with_reducible refine ea_cons ?_
  | with_reducible refine ea_nil ?_
  | with_reducible refine ev_tup ?_
  | with_reducible refine ev_lst ?_
  | with_reducible refine ev_andV ?_
  | with_reducible refine ev_orV ?_
  | with_reducible refine ev_notV ?_
  | with_reducible refine ev_if ?_
  | with_reducible refine ev_chain ?_
  | with_reducible refine ev_sl ?_
  | with_reducible refine eo_none ?_
  | with_reducible refine eo_some ?_
  | with_reducible refine ev_dgetS ?_
  | with_reducible refine ev_join' ?_
  | with_reducible refine ev_pop ?_
  | with_reducible refine evp_cons ?_
  | with_reducible refine evp_nil ?_
  | with_reducible refine ev_append ?_
  | with_reducible refine ei_seq ?_
  | with_reducible refine ei_range1 ?_
  | with_reducible refine ei_range2 ?_
  | with_reducible refine ei_zip ?_)
local macro_rules | `(tactic| walk_at "dR") => `(tactic| first
  | with_reducible refine rd_addI ?_
  | with_reducible refine rd_sub ?_
  | with_reducible refine rd_gt ?_
  | with_reducible refine rd_ge ?_
  | with_reducible refine rd_ltI ?_
  | with_reducible refine rd_leI ?_
  | with_reducible refine rd_ltS ?_
  | with_reducible refine rd_leS ?_
  | with_reducible refine rd_inC ?_
  | with_reducible refine rd_eqI ?_
  | with_reducible refine rd_neI ?_
  | with_reducible refine rd_eqS ?_
  | with_reducible refine rd_neS ?_
  | ((with_reducible refine rd_mulI ?h ?_); (case h => first | exact cmulw_s (by omega) (by omega) | assumption))
  | ((with_reducible refine rd_ixT (d := ?d) ?h ?_); (case h => exact rfl))
  | ((with_reducible refine rd_ixL (d := ?d) ?h ?_); (case h => exact rfl))
  | ((with_reducible refine rd_addS ?h ?_); (case h => first | assumption | (walk_at "len")))
  | ((with_reducible refine rs_str ?h ?_); (case h => first | assumption | (walk_at "len")))
  | with_reducible refine ru_neg ?_
  | ((with_reducible refine rd_div ?h ?_); (case h => first | exact And.intro (by decide) (by decide) | assumption))
  | ((with_reducible refine rd_pow' (r := ?p) ?h ?e ?_); (case h => first | exact And.intro (by decide) (And.intro (by decide) (by decide)) | assumption); (case e => first | (simp only [Int.reduceToNat, Int.reducePow]; done) | (simp only [Int.reduceToNat, Int.reducePow]; exact rfl) | exact rfl))
  | ((with_reducible refine rc_str' ?h ?_); (case h => first | assumption | exact ilog (by omega)))
  | ((with_reducible refine rc_repr ?h ?_); (case h => assumption))
  | ((with_reducible refine rd_addL ?h ?_); (case h => first | assumption | (walk_at "len")))
  | with_reducible refine rc_isInt ?_
  | with_reducible refine rc_isBool ?_
  | with_reducible refine rc_isStr ?_
  | with_reducible refine rc_isTup ?_
  | with_reducible refine rc_abs' ?_
  | with_reducible refine rc_lenT ?_
  | with_reducible refine rc_lenL ?_
  | with_reducible refine rc_lenC ?_
  | ((with_reducible refine rc_lenS ?h ?_); (case h => first | assumption | (walk_at "len")))
  | with_reducible refine rc_intI' ?_
  | with_reducible refine rc_intB' ?_
  | with_reducible refine rc_listL ?_
  | with_reducible refine rc_listT ?_
  | with_reducible refine rc_tupL ?_
  | with_reducible refine rs_list ?_
  | with_reducible refine rs_scr ?_
  | with_reducible refine rs_tup ?_
  | ((with_reducible refine rd_mod ?h ?_); (case h => first | decide | omega | assumption)))
local macro_rules | `(tactic| walk_at "dZ") => `(tactic| first
  | ((with_reducible refine ex_dats ?hn ?_); (case hn => decide))
  | ((with_reducible refine ex_set1 (ρ' := ?p) ?h ?_); (case h => walk_at "sl"))
  | ((with_reducible refine ex_set2 (ρ' := ?p) ?h ?_); (case h => walk_at "sl"))
  | with_reducible refine Exists.intro _ (And.intro rfl ?_)
  | with_reducible refine Exists.intro _ (Exists.intro _ (And.intro rfl ?_))
  | with_reducible refine Exists.intro _ (Exists.intro _ (And.intro (by assumption) (And.intro (by first | exact valS_draws | exact valS_items | exact valS_seed) ?_)))
  | with_reducible refine Exists.intro _ (And.intro (Or.inl rfl) ?_)
  | with_reducible refine Exists.intro _ (And.intro (Or.inr (Or.inl rfl)) ?_)
  | with_reducible refine Exists.intro _ (And.intro (Or.inr (Or.inr (Or.inl (Exists.intro _ (And.intro rfl rfl))))) ?_)
  | with_reducible refine Exists.intro _ (And.intro (Or.inr (Or.inr (Or.inr (Exists.intro _ (And.intro rfl rfl))))) ?_))
set_option hygiene false
local macro_rules | `(tactic| walk_at "dC") => `(tactic| ((first | with_reducible refine And.intro (fun (hb : _ = true) => ?_) (fun (hb : _ = false) => ?_) | with_reducible refine And.intro (fun (hb : _ = false) => ?_) (fun (hb : _ = true) => ?_) | fail) <;> (try simp only [decide_eq_true_eq, decide_eq_false_iff_not, reduceCtorEq, Bool.not_eq_true', Bool.not_eq_false', not_true_eq_false, not_false_eq_true] at hb) <;> (try (first | exact hb.elim | (cases hb; done) | exact absurd rfl hb))))
local macro_rules | `(tactic| walk_at "dL") => `(tactic| ((show List.length _ = _ ∧ List.length _ = _ ∧ _); refine And.intro (by exact rfl) (And.intro (by exact rfl) ?_)))
set_option hygiene true
local macro_rules | `(tactic| walk_at "d1") => `(tactic| first | walk_at "dS" | walk_at "dT" | walk_at "dE" | walk_at "dR" | walk_at "dZ" | walk_at "dL" | walk_at "dU" | walk_at "dC" | fail)
local macro_rules | `(tactic| walk_at "d") => `(tactic| repeat' walk_at "d1")
local macro_rules | `(tactic| walk_at "len") => `(tactic| ((try simp only [List.length_append, List.length_cons, List.length_nil]); (first | decide | (refine Nat.le_trans (m := 1000000) ?_ (by decide); omega))))
local macro_rules | `(tactic| walk_at "qd") => `(tactic| repeat' (first | exact Qd.none | exact Qd.bool | exact all_nil | refine all_cons ?_ ?_ | exact Qd.list (Nat.zero_le _) all_nil | exact Qd.tup (Nat.zero_le _) all_nil | refine Qd.list (Nat.le_of_ble_eq_true rfl) ?_ | refine Qd.tup (Nat.le_of_ble_eq_true rfl) ?_ | exact Qd.intS (by omega) | exact Qd.int (by assumption) | exact Qd.num (by omega) | exact Qd.ascii (by decide +kernel) (by decide +kernel) | exact Qd.ascii (by omega) (by assumption) | fail))

def topS (i : Nat) : Stmt := PySem.Challenge.pw_thawfield_k02_names_and_rationals_of_any.main.body.getD i (.Pass ⟨0, 0, 0, 0⟩)
abbrev s_is_integer : Stmt := topS 1
abbrev s_common_divisor : Stmt := topS 2
abbrev s_is_rational : Stmt := topS 3
abbrev s_is_name : Stmt := topS 7
abbrev s_law_deck : Stmt := topS 9
abbrev s_law_draw : Stmt := topS 10
abbrev s_law_choice : Stmt := topS 11
abbrev s_law_word : Stmt := topS 12
abbrev s_law_pairs : Stmt := topS 13
abbrev s_law_large : Stmt := topS 14
abbrev s_law_is_name : Stmt := topS 15
abbrev s_law_is_rational : Stmt := topS 16
abbrev s_law_correct : Stmt := topS 17
abbrev s_law : Stmt := topS 18
theorem sc_is_integer : FnScope ["value"] ["value"] (defScope s_is_integer) := ⟨rfl, rfl, rfl, by decide +kernel, rfl, by decide +kernel, by decide +kernel⟩
theorem sc_common_divisor : FnScope ["a", "b"] ["a", "b"] (defScope s_common_divisor) := ⟨rfl, rfl, rfl, by decide +kernel, rfl, by decide +kernel, by decide +kernel⟩
theorem sc_is_rational : FnScope ["value", "numerator", "denominator"] ["value"] (defScope s_is_rational) := ⟨rfl, rfl, rfl, by decide +kernel, rfl, by decide +kernel, by decide +kernel⟩
theorem sc_is_name : FnScope ["value", "letter"] ["value"] (defScope s_is_name) := ⟨rfl, rfl, rfl, by decide +kernel, rfl, by decide +kernel, by decide +kernel⟩
theorem sc_law_deck : FnScope ["_law_script", "_law_given", "_law_seed", "_law_item"] ["_law_script"] (defScope s_law_deck) := ⟨rfl, rfl, rfl, by decide +kernel, rfl, by decide +kernel, by decide +kernel⟩
theorem sc_law_draw : FnScope ["_law_deck_here", "_law_count", "_law_mixed", "_law_turn", "_law_item"] ["_law_deck_here", "_law_count"] (defScope s_law_draw) := ⟨rfl, rfl, rfl, by decide +kernel, rfl, by decide +kernel, by decide +kernel⟩
theorem sc_law_choice : FnScope ["_law_deck_here", "_law_options"] ["_law_deck_here", "_law_options"] (defScope s_law_choice) := ⟨rfl, rfl, rfl, by decide +kernel, rfl, by decide +kernel, by decide +kernel⟩
theorem sc_law_word : FnScope ["_law_deck_here", "_law_letters", "_law_word_here", "_law_place", "_law_k"] ["_law_deck_here"] (defScope s_law_word) := ⟨rfl, rfl, rfl, by decide +kernel, rfl, by decide +kernel, by decide +kernel⟩
theorem sc_law_pairs : FnScope ["_law_deck_here", "_law_result", "_law_top", "_law_bottom"] ["_law_deck_here"] (defScope s_law_pairs) := ⟨rfl, rfl, rfl, by decide +kernel, rfl, by decide +kernel, by decide +kernel⟩
theorem sc_law_large : FnScope ["_law_deck_here", "_law_result", "_law_k"] ["_law_deck_here"] (defScope s_law_large) := ⟨rfl, rfl, rfl, by decide +kernel, rfl, by decide +kernel, by decide +kernel⟩
theorem sc_law_is_name : FnScope ["_law_item", "_law_letter"] ["_law_item"] (defScope s_law_is_name) := ⟨rfl, rfl, rfl, by decide +kernel, rfl, by decide +kernel, by decide +kernel⟩
theorem sc_law_is_rational : FnScope ["_law_item", "_law_k", "_law_x"] ["_law_item"] (defScope s_law_is_rational) := ⟨rfl, rfl, rfl, by decide +kernel, rfl, by decide +kernel, by decide +kernel⟩
theorem sc_law_correct : FnScope ["_law_item", "_law_name_expected", "_law_rational_expected", "_law_before", "_law_results", "_law_expected"] ["_law_item", "_law_name_expected", "_law_rational_expected"] (defScope s_law_correct) := ⟨rfl, rfl, rfl, by decide +kernel, rfl, by decide +kernel, by decide +kernel⟩
theorem sc_law : FnScope ["_law_script", "_law_deck_here", "_law_items", "_law_turn", "_law_item", "_law_k", "_law_valid", "_law_invalid", "_law_x", "_law_y"] ["_law_script"] (defScope s_law) := ⟨rfl, rfl, rfl, by decide +kernel, rfl, by decide +kernel, by decide +kernel⟩
/-- what the top leaves -/
structure Env (K : PySem.W.Frag) (mg : Str → Option Value) where
  a_is_integer : Addr
  fd_is_integer : FuncData
  F_is_integer : FunD K "is_integer" "is_integer" (defArgs s_is_integer) (defBody s_is_integer) (defScope s_is_integer) [] [] a_is_integer fd_is_integer
  m_is_integer : mg "is_integer" = some (.ref a_is_integer)
  a_common_divisor : Addr
  fd_common_divisor : FuncData
  F_common_divisor : FunD K "common_divisor" "common_divisor" (defArgs s_common_divisor) (defBody s_common_divisor) (defScope s_common_divisor) [] [] a_common_divisor fd_common_divisor
  m_common_divisor : mg "common_divisor" = some (.ref a_common_divisor)
  a_is_rational : Addr
  fd_is_rational : FuncData
  F_is_rational : FunD K "is_rational" "is_rational" (defArgs s_is_rational) (defBody s_is_rational) (defScope s_is_rational) [] [] a_is_rational fd_is_rational
  m_is_rational : mg "is_rational" = some (.ref a_is_rational)
  a_is_name : Addr
  fd_is_name : FuncData
  F_is_name : FunD K "is_name" "is_name" (defArgs s_is_name) (defBody s_is_name) (defScope s_is_name) [] [] a_is_name fd_is_name
  m_is_name : mg "is_name" = some (.ref a_is_name)
  a_law_deck : Addr
  fd_law_deck : FuncData
  F_law_deck : FunD K "_law_deck" "_law_deck" (defArgs s_law_deck) (defBody s_law_deck) (defScope s_law_deck) [] [] a_law_deck fd_law_deck
  m_law_deck : mg "_law_deck" = some (.ref a_law_deck)
  a_law_draw : Addr
  fd_law_draw : FuncData
  F_law_draw : FunD K "_law_draw" "_law_draw" (defArgs s_law_draw) (defBody s_law_draw) (defScope s_law_draw) [] [] a_law_draw fd_law_draw
  m_law_draw : mg "_law_draw" = some (.ref a_law_draw)
  a_law_choice : Addr
  fd_law_choice : FuncData
  F_law_choice : FunD K "_law_choice" "_law_choice" (defArgs s_law_choice) (defBody s_law_choice) (defScope s_law_choice) [] [] a_law_choice fd_law_choice
  m_law_choice : mg "_law_choice" = some (.ref a_law_choice)
  a_law_word : Addr
  fd_law_word : FuncData
  F_law_word : FunD K "_law_word" "_law_word" (defArgs s_law_word) (defBody s_law_word) (defScope s_law_word) [] [] a_law_word fd_law_word
  m_law_word : mg "_law_word" = some (.ref a_law_word)
  a_law_pairs : Addr
  fd_law_pairs : FuncData
  F_law_pairs : FunD K "_law_pairs" "_law_pairs" (defArgs s_law_pairs) (defBody s_law_pairs) (defScope s_law_pairs) [] [] a_law_pairs fd_law_pairs
  m_law_pairs : mg "_law_pairs" = some (.ref a_law_pairs)
  a_law_large : Addr
  fd_law_large : FuncData
  F_law_large : FunD K "_law_large" "_law_large" (defArgs s_law_large) (defBody s_law_large) (defScope s_law_large) [] [] a_law_large fd_law_large
  m_law_large : mg "_law_large" = some (.ref a_law_large)
  a_law_is_name : Addr
  fd_law_is_name : FuncData
  F_law_is_name : FunD K "_law_is_name" "_law_is_name" (defArgs s_law_is_name) (defBody s_law_is_name) (defScope s_law_is_name) [] [] a_law_is_name fd_law_is_name
  m_law_is_name : mg "_law_is_name" = some (.ref a_law_is_name)
  a_law_is_rational : Addr
  fd_law_is_rational : FuncData
  F_law_is_rational : FunD K "_law_is_rational" "_law_is_rational" (defArgs s_law_is_rational) (defBody s_law_is_rational) (defScope s_law_is_rational) [] [] a_law_is_rational fd_law_is_rational
  m_law_is_rational : mg "_law_is_rational" = some (.ref a_law_is_rational)
  a_law_correct : Addr
  fd_law_correct : FuncData
  F_law_correct : FunD K "_law_correct" "_law_correct" (defArgs s_law_correct) (defBody s_law_correct) (defScope s_law_correct) [] [] a_law_correct fd_law_correct
  m_law_correct : mg "_law_correct" = some (.ref a_law_correct)
  a_law : Addr
  fd_law : FuncData
  F_law : FunD K "law" "law" (defArgs s_law) (defBody s_law) (defScope s_law) [] [] a_law fd_law
  m_law : mg "law" = some (.ref a_law)
  t_LETTERS : Tok
  m_LETTERS : mg "LETTERS" = some (.str "abcdefghijklmnopqrstuvwxyz" t_LETTERS)
  t_MAX_LENGTH : Tok
  m_MAX_LENGTH : mg "MAX_LENGTH" = some (.int 8 t_MAX_LENGTH)
  b_abs : mg "abs" = none
  b_all : mg "all" = none
  b_bool : mg "bool" = none
  b_int : mg "int" = none
  b_isinstance : mg "isinstance" = none
  b_len : mg "len" = none
  b_list : mg "list" = none
  b_range : mg "range" = none
  b_repr : mg "repr" = none
  b_str : mg "str" = none
  b_tuple : mg "tuple" = none

section
variable {P : Program} {w : World} {K : PySem.W.Frag} {mg : Str → Option Value} {base : Heap}
def isIntD : PyData → Bool
  | .int _ => true
  | _ => false
def S_is_integer : Spc := fun rs M R => ∃ d, rs = [.dat d] ∧ R (.dat (.bool (isIntD d))) M
theorem u_is_integer {d : PyData} {M : MH} {R : Sl → MH → Prop} (q : R (.dat (.bool (isIntD d))) M) : S_is_integer [.dat d] M R := ⟨d, rfl, q⟩
def S_common_divisor : Spc := fun rs M R => ∃ a b : Int, rs = [.dat (.int a), .dat (.int b)] ∧ 0 ≤ a ∧ 0 ≤ b ∧ R (.dat (.int (Int.gcd a b : Nat))) M
theorem u_common_divisor {a b : Int} {M : MH} {R : Sl → MH → Prop} (q : R (.dat (.int (Int.gcd a b : Nat))) M) (ha : 0 ≤ a := by omega) (hb : 0 ≤ b := by omega) : S_common_divisor [.dat (.int a), .dat (.int b)] M R := ⟨a, b, rfl, ha, hb, q⟩
def isRatD : PyData → Bool
  | .tuple [.int n, .int m] => decide (1 ≤ m ∧ Int.gcd n m = 1)
  | _ => false
def S_is_rational : Spc := fun rs M R => ∃ d, rs = [.dat d] ∧ R (.dat (.bool (isRatD d))) M
theorem u_is_rational {d : PyData} {M : MH} {R : Sl → MH → Prop} (q : R (.dat (.bool (isRatD d))) M) : S_is_rational [.dat d] M R := ⟨d, rfl, q⟩
theorem isRat_no {ds : List PyData} (h : ds.length ≠ 2) : isRatD (.tuple ds) = false := by
  match ds, h with
  | [], _ => rfl
  | [a], _ => cases a <;> rfl
  | [_, _], h => exact absurd rfl h
  | a :: b :: _ :: _, _ => cases a <;> cases b <;> rfl
theorem isRat_two {x y : PyData} (h : isIntD x = false ∨ isIntD y = false) : isRatD (.tuple [x, y]) = false := by
  cases x <;> cases y <;> first | rfl | (rcases h with h | h <;> cases h)
theorem isInt_of {d : PyData} (h : isIntD d = true) : ∃ i, d = .int i := by
  cases d <;> first | exact ⟨_, rfl⟩ | cases h
theorem isRat_int {n m : Int} : isRatD (.tuple [.int n, .int m]) = decide (1 ≤ m ∧ Int.gcd n m = 1) := rfl
def lowC (c : Nat) : Bool := decide (97 ≤ c ∧ c ≤ 122)
def isNameD : PyData → Bool
  | .str x => decide (1 ≤ x.length) && decide (x.length ≤ 8) && x.cps.toList.all lowC
  | _ => false
def strFit : PyData → Prop
  | .str x => x.length ≤ 1000 ∧ ∀ c ∈ x.cps.toList, c < 128
  | _ => True
def S_is_name : Spc := fun rs M R => ∃ d, rs = [.dat d] ∧ strFit d ∧ R (.dat (.bool (isNameD d))) M
theorem u_is_name {d : PyData} {M : MH} {R : Sl → MH → Prop} (q : R (.dat (.bool (isNameD d))) M) (h : strFit d := by assumption) : S_is_name [.dat d] M R := ⟨d, rfl, h, q⟩
theorem letters_mem (c : Nat) : decide (c ∈ ("abcdefghijklmnopqrstuvwxyz" : Str).cps.toList) = lowC c := by
  have e : ("abcdefghijklmnopqrstuvwxyz" : Str).cps.toList = List.range' 97 26 := by decide +kernel
  rw [e]
  unfold lowC
  exact decide_eq_decide.mpr (by rw [List.mem_range'_1]; omega)
def lowD : PyData → Bool
  | .str x => decide (x.cps.toList.headD 0 ∈ ("abcdefghijklmnopqrstuvwxyz" : Str).cps.toList)
  | _ => false
theorem low_map (cs : List Nat) : (cs.map fun c => PyData.str ⟨#[c]⟩).map (fun d => PyData.bool (lowD d)) = (cs.map lowC).map .bool := by
  rw [List.map_map, List.map_map]
  refine List.map_congr_left fun c _ => ?_
  show PyData.bool (decide (c ∈ ("abcdefghijklmnopqrstuvwxyz" : Str).cps.toList)) = _
  rw [letters_mem]; rfl
theorem isName_str (x : Str) : isNameD (.str x) = (decide (1 ≤ x.length) && decide (x.length ≤ 8) && (x.cps.toList.map lowC).all id) := by
  rw [List.all_map]; rfl
theorem mem_chars {d : PyData} {x : Str} (h : d ∈ x.cps.toList.map fun c => PyData.str ⟨#[c]⟩) : ∃ c, d = .str ⟨#[c]⟩ ∧ c ∈ x.cps.toList := by
  obtain ⟨c, hc, rfl⟩ := List.mem_map.mp h
  exact ⟨c, rfl, hc⟩
def S_law_deck : Spc := fun rs M R => ∃ ns : List Int, rs = [.scr ns] ∧ ∀ p l M', M p = none → M l = none → Deck M' p l 0 → DL.Fr p l M M' → R (.raw (.ref p)) M'
theorem u_law_deck {ns : List Int} {M : MH} {R : Sl → MH → Prop} (q : ∀ p l M', M p = none → M l = none → Deck M' p l 0 → DL.Fr p l M M' → R (.raw (.ref p)) M') : S_law_deck [.scr ns] M R := ⟨ns, rfl, q⟩
def S_law_draw : Spc := fun rs M R => ∃ (p l : Addr) (c : Nat) (n : Int), rs = [.raw (.ref p), .dat (.int n)] ∧ Deck M p l c ∧ c ≤ 1000000 ∧ 0 < n ∧ n.natAbs < 2 ^ 63 ∧
  ∀ v M', 0 ≤ v → v < n → Deck M' p l (c + 1) → DL.Fr p l M M' → R (.dat (.int v)) M'
theorem u_law_draw {p l : Addr} {c : Nat} {n : Int} {M : MH} {R : Sl → MH → Prop} (hd : Deck M p l c) (q : ∀ v M', 0 ≤ v → v < n → Deck M' p l (c + 1) → DL.Fr p l M M' → R (.dat (.int v)) M')
  (hc : c ≤ 1000000 := by omega) (h0 : 0 < n := by omega) (h1 : n.natAbs < 2 ^ 63 := by omega) : S_law_draw [.raw (.ref p), .dat (.int n)] M R := ⟨p, l, c, n, rfl, hd, hc, h0, h1, q⟩
def S_law_choice : Spc := fun rs M R => ∃ (p l : Addr) (c : Nat) (z : Str), rs = [.raw (.ref p), .dat (.str z)] ∧ Deck M p l c ∧ c ≤ 1000000 ∧ 0 < z.length ∧ z.length ≤ 1000 ∧
  ∀ x M', x ∈ z.cps.toList → Deck M' p l (c + 1) → DL.Fr p l M M' → R (.dat (.str ⟨#[x]⟩)) M'
theorem u_law_choice {p l : Addr} {c : Nat} {z : Str} {M : MH} {R : Sl → MH → Prop} (hd : Deck M p l c) (q : ∀ x M', x ∈ z.cps.toList → Deck M' p l (c + 1) → DL.Fr p l M M' → R (.dat (.str ⟨#[x]⟩)) M')
  (hc : c ≤ 1000000 := by omega) (h0 : 0 < z.length := by decide) (h1 : z.length ≤ 1000 := by decide) : S_law_choice [.raw (.ref p), .dat (.str z)] M R := ⟨p, l, c, z, rfl, hd, hc, h0, h1, q⟩
theorem atI_nat {xs : List Nat} {v : Int} (h0 : 0 ≤ v) (h1 : v < xs.length) : ∃ x, atI xs v = some x ∧ x ∈ xs := by
  have hj : v.toNat < xs.length := by omega
  refine ⟨xs[v.toNat], ?_, List.getElem_mem hj⟩
  unfold atI ixN
  rw [if_pos h0, if_pos (by omega)]
  exact List.getElem?_eq_getElem hj
def S_law_word : Spc := fun rs M R => ∃ (p l : Addr) (c : Nat), rs = [.raw (.ref p)] ∧ Deck M p l c ∧ c ≤ 900000 ∧
  ∀ (x : Str) M', x.length ≤ 31 → (∀ y ∈ x.cps.toList, y < 128) → Deck M' p l (c + 20) → DL.Fr p l M M' → R (.dat (.str x)) M'
theorem u_law_word {p l : Addr} {c : Nat} {M : MH} {R : Sl → MH → Prop} (hd : Deck M p l c) (q : ∀ (x : Str) M', x.length ≤ 31 → (∀ y ∈ x.cps.toList, y < 128) → Deck M' p l (c + 20) → DL.Fr p l M M' → R (.dat (.str x)) M')
  (hc : c ≤ 900000 := by omega) : S_law_word [.raw (.ref p)] M R := ⟨p, l, c, rfl, hd, hc, q⟩
def smallD : PyData → Prop
  | .tuple [_, .int b] => b ≤ 1000000
  | _ => True
structure Itm (d : PyData) : Prop where
  sho : Sho d
  fit : strFit d
  sm : smallD d
def S_law_pairs : Spc := fun rs M R => ∃ (p l : Addr) (c : Nat), rs = [.raw (.ref p)] ∧ Deck M p l c ∧ c ≤ 900000 ∧
  ∀ (ds : List PyData) M', ds.length = 21 → (∀ d ∈ ds, Itm d) → Deck M' p l (c + 2) → DL.Fr p l M M' → R (.dat (.list ds)) M'
theorem u_law_pairs {p l : Addr} {c : Nat} {M : MH} {R : Sl → MH → Prop} (hd : Deck M p l c) (q : ∀ (ds : List PyData) M', ds.length = 21 → (∀ d ∈ ds, Itm d) → Deck M' p l (c + 2) → DL.Fr p l M M' → R (.dat (.list ds)) M')
  (hc : c ≤ 900000 := by omega) : S_law_pairs [.raw (.ref p)] M R := ⟨p, l, c, rfl, hd, hc, q⟩
theorem pairs_ok {t u : Int} (a0 : -300 ≤ t) (a1 : t ≤ 300) (b0 : -2 ≤ u) (b1 : u ≤ 60) : ∀ d ∈ ([PyData.tuple [PyData.int t, PyData.int u], PyData.tuple [PyData.int u, PyData.int t],
                PyData.tuple [PyData.int (2 * t), PyData.int (2 * u)], PyData.tuple [PyData.int 0, PyData.int u],
                PyData.tuple [PyData.int t, PyData.int 1], PyData.tuple [PyData.int t, PyData.int 0],
                PyData.tuple [PyData.int u, PyData.int u]] ++
              [PyData.list [PyData.int t, PyData.int u], PyData.tuple [PyData.int t, PyData.int u, PyData.int 1],
                PyData.tuple [PyData.int t], PyData.tuple [PyData.str (Str.ofString (toString t)), PyData.int u],
                PyData.tuple [PyData.int t, PyData.str (Str.ofString (toString u))],
                PyData.tuple [PyData.none, PyData.int u]] ++
            [PyData.int t, PyData.tuple [PyData.int t, PyData.bool true], PyData.tuple [PyData.bool true, PyData.int u],
              PyData.tuple [PyData.bool false, PyData.int 1], PyData.tuple [PyData.int 0, PyData.bool true],
              PyData.tuple [PyData.tuple [PyData.int t, PyData.int u], PyData.int 1],
              PyData.tuple [PyData.int t, PyData.tuple [PyData.int u]]] ++ [PyData.dict [(PyData.int t, PyData.int u)]]), Itm d := by
  simp only [List.cons_append, List.nil_append]
  have ht : t.natAbs < 2 ^ 63 := by omega
  have hu : u.natAbs < 2 ^ 63 := by omega
  have hdi : Itm (.dict [(PyData.int t, PyData.int u)]) := ⟨Sh.sho (Sh.dict1 (Sh.intB ht (by decide) (by decide)) (Sh.intB hu (by decide) (by decide)) rfl), True.intro, True.intro⟩
  repeat' (first | exact all_nil | refine all_cons hdi ?_ | refine all_cons ⟨Qd.sho (by walk_at "qd"; done), True.intro, by first | exact True.intro | (show _ ≤ _; omega)⟩ ?_ | fail)
def S_law_large : Spc := fun rs M R => ∃ (p l : Addr) (c : Nat), rs = [.raw (.ref p)] ∧ Deck M p l c ∧ c ≤ 900000 ∧
  ∀ (v : Int) M', 1 ≤ v → v.natAbs < 2 ^ 610 → Deck M' p l (c + 30) → DL.Fr p l M M' → R (.dat (.int v)) M'
theorem u_law_large {p l : Addr} {c : Nat} {M : MH} {R : Sl → MH → Prop} (hd : Deck M p l c) (q : ∀ (v : Int) M', 1 ≤ v → v.natAbs < 2 ^ 610 → Deck M' p l (c + 30) → DL.Fr p l M M' → R (.dat (.int v)) M')
  (hc : c ≤ 900000 := by omega) : S_law_large [.raw (.ref p)] M R := ⟨p, l, c, rfl, hd, hc, q⟩
def S_law_is_name : Spc := fun rs M R => ∃ d, rs = [.dat d] ∧ strFit d ∧ R (.dat (.bool (isNameD d))) M
theorem u_law_is_name {d : PyData} {M : MH} {R : Sl → MH → Prop} (q : R (.dat (.bool (isNameD d))) M) (h : strFit d := by assumption) : S_law_is_name [.dat d] M R := ⟨d, rfl, h, q⟩
def outD : PyData → Bool
  | .str x => !(!(decide (x.cps.toList < [97])) && !(decide ([122] < x.cps.toList)))
  | _ => false
theorem out_low (c : Nat) : outD (.str ⟨#[c]⟩) = !lowC c := by
  show (!(!(decide ([c] < [97])) && !(decide ([122] < [c])))) = _
  rw [lt1, lt1]
  unfold lowC
  by_cases h1 : c < 97 <;> by_cases h2 : 122 < c <;> simp [h1, h2] <;> omega
theorem out_filter (cs : List Nat) : ((cs.map fun c => PyData.str ⟨#[c]⟩).filter outD).isEmpty = cs.all lowC := by
  induction cs with
  | nil => rfl
  | cons c cs ih =>
    rw [List.map_cons, List.filter_cons, out_low, List.all_cons]
    cases h : lowC c with
    | true => rw [if_neg (by simp)]; rw [ih]; rfl
    | false => rw [if_pos (by simp)]; rfl
theorem one_ok {c : Nat} (h : c < 128) : PyData.strOk ⟨#[c]⟩ = true := by
  unfold PyData.strOk
  simp
  omega
def S_law_is_rational : Spc := fun rs M R => ∃ d, rs = [.dat d] ∧ smallD d ∧ R (.dat (.bool (isRatD d))) M
theorem u_law_is_rational {d : PyData} {M : MH} {R : Sl → MH → Prop} (q : R (.dat (.bool (isRatD d))) M) (h : smallD d := by assumption) : S_law_is_rational [.dat d] M R := ⟨d, rfl, h, q⟩
def badD (d : PyData) : Bool := !isTyInt d || isTyBool d
theorem badD_eq (d : PyData) : badD d = !isIntD d := by cases d <;> rfl
theorem bad2 {x y : PyData} {f : PyData → PyData} (h : isIntD x = false ∨ isIntD y = false) : (([x, y].filter badD).map f).isEmpty = false := by
  rw [List.filter_cons, List.filter_cons, badD_eq, badD_eq]
  rcases h with h | h
  · rw [h]; rfl
  · rw [h]; cases isIntD x <;> rfl
def divD (n m : Int) : PyData → Bool
  | .int k => decide (n % k = 0) && decide (m % k = 0)
  | _ => false
theorem range_gcd {n m : Int} (hm : 1 ≤ m) : ((rangeD 2 (m + 1 - 2).toNat).filter (divD n m)).isEmpty = decide (Int.gcd n m = 1) := by
  have hg0 : Int.gcd n m ≠ 0 := fun z => by
    have := (Int.gcd_eq_zero_iff.mp z).2
    omega
  by_cases h : Int.gcd n m = 1
  · rw [decide_eq_true h, List.isEmpty_iff, List.filter_eq_nil_iff]
    intro d hd hc
    obtain ⟨i, _, rfl⟩ := List.mem_map.mp hd
    have hc : (decide (n % (2 + (i : Int)) = 0) && decide (m % (2 + (i : Int)) = 0)) = true := hc
    rw [Bool.and_eq_true, decide_eq_true_eq, decide_eq_true_eq] at hc
    have h1 : ((2 + i : Nat) : Int) ∣ n := Int.dvd_of_emod_eq_zero (by have := hc.1; rwa [Int.natCast_add])
    have h2 : ((2 + i : Nat) : Int) ∣ m := Int.dvd_of_emod_eq_zero (by have := hc.2; rwa [Int.natCast_add])
    have h3 : (2 + i) ∣ Int.gcd n m := Int.dvd_gcd h1 h2
    rw [h] at h3
    have := Nat.le_of_dvd (by decide) h3
    omega
  · rw [decide_eq_false h]
    cases e : ((rangeD 2 (m + 1 - 2).toNat).filter (divD n m)).isEmpty with
    | false => rfl
    | true =>
      exfalso
      rw [List.isEmpty_iff, List.filter_eq_nil_iff] at e
      have hle : (Int.gcd n m : Int) ≤ m := Int.le_of_dvd (by omega) (Int.gcd_dvd_right ..)
      have h2 : 2 ≤ Int.gcd n m := by omega
      refine e (.int (Int.gcd n m : Int)) (List.mem_map.mpr ⟨Int.gcd n m - 2, List.mem_range.mpr (by omega), by congr 1; omega⟩) ?_
      show (decide (n % (Int.gcd n m : Int) = 0) && decide (m % (Int.gcd n m : Int) = 0)) = true
      rw [Bool.and_eq_true, decide_eq_true_eq, decide_eq_true_eq]
      exact ⟨Int.emod_eq_zero_of_dvd (Int.gcd_dvd_left ..), Int.emod_eq_zero_of_dvd (Int.gcd_dvd_right ..)⟩
def S_law_correct : Spc := fun rs M R => ∃ d b1 b2, rs = [.dat d, .dat (.bool b1), .dat (.bool b2)] ∧ Sho d ∧ strFit d ∧ b1 = isNameD d ∧ b2 = isRatD d ∧ R (.dat (.bool true)) M
theorem u_law_correct {d : PyData} {b1 b2 : Bool} {M : MH} {R : Sl → MH → Prop} (hs : Sho d) (hf : strFit d) (h1 : b1 = isNameD d) (h2 : b2 = isRatD d) (q : R (.dat (.bool true)) M) : S_law_correct [.dat d, .dat (.bool b1), .dat (.bool b2)] M R := ⟨d, b1, b2, rfl, hs, hf, h1, h2, q⟩
def S_law : Spc := fun rs M R => ∃ ns : List Int, rs = [.scr ns] ∧ ∀ M', R (.dat (.bool true)) M'
theorem u_law {ns : List Int} {M : MH} {R : Sl → MH → Prop} (q : ∀ M', R (.dat (.bool true)) M') : S_law [.scr ns] M R := ⟨ns, rfl, q⟩
def fixed1 : List PyData := [PyData.none, PyData.bool true, PyData.bool false, PyData.int 0, PyData.int 1, PyData.int (-7),
              PyData.str (Str.ofString ""), PyData.str (Str.ofString "a"), PyData.str (Str.ofString "abcdefgh"),
              PyData.str (Str.ofString "abcdefghi"), PyData.str (Str.ofString "A"), PyData.tuple [],
              PyData.tuple [PyData.int 0], PyData.tuple [PyData.int 0, PyData.int 1],
              PyData.tuple [PyData.int 1, PyData.int 1], PyData.tuple [PyData.int 0, PyData.int 2]] ++
            [PyData.tuple [PyData.int 1, PyData.int 0], PyData.tuple [PyData.int 0, PyData.int 0],
              PyData.tuple [PyData.int (-1), PyData.int 1], PyData.tuple [PyData.int 1, PyData.int (-1)],
              PyData.tuple [PyData.int (-1), PyData.int (-1)], PyData.tuple [PyData.int 2, PyData.int 4],
              PyData.list [], PyData.dict [], PyData.list [PyData.str (Str.ofString "a")],
              PyData.tuple [PyData.str (Str.ofString "a")],
              PyData.tuple [PyData.str (Str.ofString "a"), PyData.str (Str.ofString "b")],
              PyData.tuple [PyData.tuple [], PyData.tuple []]]
theorem fixed1_ok : ∀ d ∈ fixed1, Itm d := by
  unfold fixed1
  simp only [List.cons_append, List.nil_append]
  have hd : Itm (.dict []) := ⟨⟨rfl, .inr rfl, by decide +kernel, by decide +kernel⟩, True.intro, True.intro⟩
  repeat' (first | exact all_nil | refine all_cons hd ?_ | refine all_cons ⟨Qd.sho (by walk_at "qd"), by first | exact True.intro | exact ⟨by decide +kernel, by decide +kernel⟩, by first | exact True.intro | (show _ ≤ _; omega)⟩ ?_ | fail)
structure Ok2 (b : Bool) (d : PyData) : Prop where
  sho : Sho d
  fit : strFit d
  nm : isNameD d = false
  rt : isRatD d = b
theorem Ok2.yes {n m : Int} (h1 : n.natAbs < 2 ^ 1900) (h2 : m.natAbs < 2 ^ 1900) (h3 : 1 ≤ m) (h4 : Int.gcd n m = 1) : Ok2 true (.tuple [.int n, .int m]) :=
  ⟨Qd.sho (.tup (Nat.le_of_ble_eq_true rfl) (all_cons (.int h1) (all_cons (.int h2) all_nil))), True.intro, rfl, by rw [isRat_int]; exact decide_eq_true ⟨h3, h4⟩⟩
theorem Ok2.no {n m : Int} (h1 : n.natAbs < 2 ^ 1900) (h2 : m.natAbs < 2 ^ 1900) (h3 : ¬(1 ≤ m ∧ Int.gcd n m = 1)) : Ok2 false (.tuple [.int n, .int m]) :=
  ⟨Qd.sho (.tup (Nat.le_of_ble_eq_true rfl) (all_cons (.int h1) (all_cons (.int h2) all_nil))), True.intro, rfl, by rw [isRat_int]; exact decide_eq_false h3⟩
section
variable {x y : Int} (hx : 1 ≤ x) (hy : 2 ≤ y) (bx : x.natAbs < 2 ^ 610) (bY : y.natAbs < 2 ^ 10)
include hx hy bx bY
theorem valid_ok : ∀ d ∈ [PyData.tuple [.int x, .int (x + 1)], .tuple [.int (x + 1), .int x], .tuple [.int (0 - x), .int 1], .tuple [.int (x * y + 1), .int y], .tuple [.int (x * x + 1), .int x], .tuple [.int (-1), .int x]], Ok2 true d := by
  have bx1 : (x + 1).natAbs < 2 ^ 611 := nb_add bx (nb_1 (by decide))
  have bxy : (x * y).natAbs < 2 ^ 620 := nb_mul bx bY
  have bxx : (x * x).natAbs < 2 ^ 1220 := nb_mul bx bx
  have bxy1 : (x * y + 1).natAbs < 2 ^ 621 := nb_add bxy (nb_1 (by decide))
  have bxx1 : (x * x + 1).natAbs < 2 ^ 1221 := nb_add bxx (nb_1 (by decide))
  have b0 : (0 - x).natAbs < 2 ^ 610 := by rw [show (0 - x).natAbs = x.natAbs by omega]; exact bx
  refine all_cons (.yes (nb_le bx) (nb_le bx1) (by omega) (gcd_bez (-1) 1 (by omega))) ?_
  refine all_cons (.yes (nb_le bx1) (nb_le bx) (by omega) (gcd_bez 1 (-1) (by omega))) ?_
  refine all_cons (.yes (nb_le b0) (nb_1 (by decide)) (by omega) (gcd_bez 0 1 (by omega))) ?_
  refine all_cons (.yes (nb_le bxy1) (nb_le bY) (by omega) (gcd_bez 1 (-x) (by rw [Int.neg_mul]; omega))) ?_
  refine all_cons (.yes (nb_le bxx1) (nb_le bx) (by omega) (gcd_bez 1 (-x) (by rw [Int.neg_mul]; omega))) ?_
  exact all_cons (.yes (nb_1 (by decide)) (nb_le bx) (by omega) (gcd_bez (-1) 0 (by omega))) all_nil
theorem invalid_ok : ∀ d ∈ [PyData.tuple [.int (x * y), .int y], .tuple [.int (y * x), .int (x * y * y)], .tuple [.int x, .int 0], .tuple [.int x, .int (0 - x - 1)], .tuple [.int 0, .int (x * y)], .tuple [.int (x * y), .int (x * y)], .tuple [.int x, .str (Str.ofString "1")]], Ok2 false d := by
  have bx1 : (0 - x - 1).natAbs < 2 ^ 611 := by
    have := nb_add bx (nb_1 (i := 610) (by decide))
    rw [show (0 - x - 1).natAbs = (x + 1).natAbs by omega]
    exact this
  have bxy : (x * y).natAbs < 2 ^ 620 := nb_mul bx bY
  have byx : (y * x).natAbs < 2 ^ 620 := by rw [Int.mul_comm]; exact bxy
  have bxyy : (x * y * y).natAbs < 2 ^ 630 := nb_mul bxy bY
  have z0 : (0 : Int).natAbs < 2 ^ 1900 := Nat.pow_pos (by decide)
  refine all_cons (.no (nb_le bxy) (nb_le bY) fun h => gcd_not hy (Int.dvd_mul_left ..) (Int.dvd_refl y) h.2) ?_
  refine all_cons (.no (nb_le byx) (nb_le bxyy) fun h => gcd_not hy (Int.dvd_mul_right ..) (Int.dvd_mul_left ..) h.2) ?_
  refine all_cons (.no (nb_le bx) z0 fun h => by omega) ?_
  refine all_cons (.no (nb_le bx) (nb_le bx1) fun h => by omega) ?_
  refine all_cons (.no z0 (nb_le bxy) fun h => gcd_not hy (Int.dvd_zero ..) (Int.dvd_mul_left ..) h.2) ?_
  refine all_cons (.no (nb_le bxy) (nb_le bxy) fun h => gcd_not hy (Int.dvd_mul_left ..) (Int.dvd_mul_left ..) h.2) ?_
  exact all_cons ⟨Qd.sho (.tup (Nat.le_of_ble_eq_true rfl) (all_cons (.int (nb_le bx)) (all_cons (.ascii (by decide +kernel) (by decide +kernel)) all_nil))), True.intro, rfl, rfl⟩ all_nil
end
local macro_rules | `(tactic| walk_at "dU") => `(tactic| first | with_reducible refine u_is_integer ?_ | with_reducible refine u_common_divisor ?_ | with_reducible refine u_is_rational ?_ | with_reducible refine u_is_name ?_ | with_reducible refine u_law_is_name ?_ | with_reducible refine u_law_is_rational ?_ | fail)
theorem ok_is_integer (T : Env K mg) : FnG P w K mg base CX0 1 T.a_is_integer T.fd_is_integer ["value"] (spD K 1 S_is_integer) := by
  refine okG T.F_is_integer sc_is_integer fun cdv A outer s H E hr => ⟨_,  (pss_one (ps_ret (pe_and (pe_callB (id := "isinstance") (call_isiK2 (K := K) rfl) (by rfl) T.b_isinstance (by decide +kernel) (pa_cons (pv 0)
         (pa_cons (pe_bltn (v := .ty "int") (by rfl) T.b_int (by decide +kernel) rfl) pa_nil))) (pe_one (pe_not (pe_callB (id := "isinstance") (call_isiK2 (K := K) rfl) (by rfl) T.b_isinstance (by decide +kernel)
         (pa_cons (pv 0) (pa_cons (pe_bltn (v := .ty "bool") (by rfl) T.b_bool (by decide +kernel) rfl) pa_nil)))))))), fun rs M R hl hS => ?_⟩
  obtain ⟨d, rfl, q⟩ := hS
  walk_at "dl"
  walk_at "d"
  all_goals (cases d <;> first | exact q | cases hb)

theorem ok_common_divisor (T : Env K mg) : FnG P w K mg base CX0 1 T.a_common_divisor T.fd_common_divisor ["a", "b"] (spD K 2 S_common_divisor) := by
  refine okG T.F_common_divisor sc_common_divisor fun cdv A outer s H E hr => ⟨_,  (pss_cons (ps_while PassesOwn.never (pt_cmpR op_gt (pv 1) pe_int (nomark _)) (pss_one (ps_par (i := 0) (j := 1) (by rfl) sc_common_divisor.nd rfl rfl (by decide) rfl rfl
         (pa_cons (pv 1) (pa_cons (pe_op op_mod (pv 0) (pv 1)) pa_nil)) (by rfl)))) (pss_one (ps_ret (pv 0)))), fun rs M R hl hS => ?_⟩
  obtain ⟨a, b, rfl, ha, hb, q⟩ := hS
  walk_at "dl"
  walk_at "d"
  refine y_while (fun m ρ' M' => ∃ x y : Int, ρ' = [.dat (.int x), .dat (.int y)] ∧ M' = M ∧ 0 ≤ x ∧ 0 ≤ y ∧ Int.gcd x y = Int.gcd a b ∧ m = y.toNat) ⟨_, a, b, rfl, rfl, ha, hb, rfl, rfl⟩ ?_
  rintro m ρ' M' ⟨x, y, rfl, rfl, hx, hy, hg, rfl⟩
  walk_at "d"
  · exact ⟨_, by have := Int.emod_lt_of_pos x hb; have := Int.emod_nonneg x (show y ≠ 0 by omega); omega, y, x % y, rfl, rfl, hy, Int.emod_nonneg x (by omega), (gcd_step hx hb).trans hg, rfl⟩
  · have e : y = 0 := by omega
    subst e
    rw [← hg, gcd_zero hx] at q
    exact q

theorem ok_is_rational (T : Env K mg) : FnG P w K mg base CX0 2 T.a_is_rational T.fd_is_rational ["value"] (spD K 1 S_is_rational) := by
  refine okG T.F_is_rational sc_is_rational fun cdv A outer s H E hr => ⟨_,  (pss_cons (ps_if (PW.pt (pw_or (pt_not (pt_val (pe_callB (id := "isinstance") (call_isiK2 (K := K) rfl) (by rfl) T.b_isinstance (by decide +kernel)
         (pa_cons (pv 0) (pa_cons (pe_bltn (v := .ty "tuple") (by rfl) T.b_tuple (by decide +kernel) rfl) pa_nil))))) (pw_or1 (pt_cmpR (op_neK (K := K) rfl hr.units0)
         (pe_callB (id := "len") (call_lenK (K := K) rfl) (by rfl) T.b_len (by decide +kernel) (pa_cons (pv 0) pa_nil)) pe_int (nomark _)))))
         (pss_one (ps_ret pe_bl)) pss_nil) (pss_cons (ps_asg (pv 0) (pg_tupK (K := K) (n := 2) rfl rfl (pgs_cons (pg_name (i := 1) sc_is_rational.nd rfl (.inl rfl)) (pgs_cons (pg_name (i := 2) sc_is_rational.nd rfl (.inl rfl)) pgs_nil)) rfl rfl))
         (pss_cons (ps_if (PW.pt (pw_or (pt_not (pt_val (pe_g (ok_is_integer T _ (hr.mono (by decide))) (by rfl) T.m_is_integer T.F_is_integer.kp (cb_pos T.F_is_integer (n := 1)
         (ps := ["value"]) (fun _ _ _ _ _ _ us h1 => match us, h1 with | [_], _ => rfl)) pass0 (pa_cons (pv 1) pa_nil)))) (pw_or (pt_not (pt_val
         (pe_g (ok_is_integer T _ (hr.mono (by decide))) (by rfl) T.m_is_integer T.F_is_integer.kp (cb_pos T.F_is_integer (n := 1) (ps := ["value"]) (fun _ _ _ _ _ _ us h1 => match us, h1 with | [_], _ => rfl)) pass0
         (pa_cons (pv 2) pa_nil)))) (pw_or1 (pt_cmpR op_ltU (pv 2) pe_int (nomark _)))))) (pss_one (ps_ret pe_bl)) pss_nil) (pss_one (ps_ret (pe_cmpR (op_eqK (K := K) rfl hr.units0)
         (pe_g (ok_common_divisor T _ (hr.mono (by decide))) (by rfl) T.m_common_divisor T.F_common_divisor.kp (cb_pos T.F_common_divisor (n := 2)
         (ps := ["a", "b"]) (fun _ _ _ _ _ _ us h1 => match us, h1 with | [_, _], _ => rfl)) pass0 (pa_cons (pe_callB (id := "abs") call_absK (by rfl) T.b_abs (by decide +kernel)
         (pa_cons (pv 1) pa_nil)) (pa_cons (pv 2) pa_nil))) pe_int (nomark _))))))), fun rs M R hl hS => ?_⟩
  obtain ⟨d, rfl, q⟩ := hS
  walk_at "dl"
  cases d with
  | tuple ds =>
    by_cases hn : ds.length = 2
    · match ds, hn with
      | [x, y], _ =>
        by_cases hx : isIntD x = true
        · by_cases hy : isIntD y = true
          · obtain ⟨n, rfl⟩ := isInt_of hx
            obtain ⟨m, rfl⟩ := isInt_of hy
            rw [isRat_int] at q
            walk_at "d"
            · rw [decide_eq_false (show ¬(1 ≤ m ∧ Int.gcd n m = 1) by omega)] at q
              exact q
            · have e : decide (1 ≤ m ∧ Int.gcd n m = 1) = decide (((Int.gcd (n.natAbs : Int) m : Nat) : Int) = 1) := by
                have e2 : Int.gcd (n.natAbs : Int) m = Int.gcd n m := rfl
                rw [e2]
                exact decide_eq_decide.mpr ⟨fun h => by omega, fun h => by omega⟩
              rw [e] at q
              exact q
          · rw [isRat_two (.inr (Bool.not_eq_true _ ▸ hy))] at q
            walk_at "d"
            all_goals first | exact q | contradiction
        · rw [isRat_two (.inl (Bool.not_eq_true _ ▸ hx))] at q
          walk_at "d"
          all_goals first | exact q | contradiction
    · walk_at "d"
      all_goals first
        | (rw [isRat_no hn] at q; exact q)
        | omega
  | _ =>
    walk_at "d"
    all_goals exact q

theorem ok_is_name (T : Env K mg) : FnG P w K mg base CX0 1 T.a_is_name T.fd_is_name ["value"] (spD K 1 S_is_name) := by
  refine okG T.F_is_name sc_is_name fun cdv A outer s H E hr => ⟨_,  (pss_cons (ps_if (PW.pt (pw_or (pt_not (pt_val (pe_callB (id := "isinstance") (call_isiK2 (K := K) rfl) (by rfl) T.b_isinstance (by decide +kernel)
         (pa_cons (pv 0) (pa_cons (pe_bltn (v := .ty "str") (by rfl) T.b_str (by decide +kernel) rfl) pa_nil))))) (pw_or1 (pt_not (pt_chain op_leU op_leU pe_int
         (pe_callB (id := "len") (call_lenK (K := K) rfl) (by rfl) T.b_len (by decide +kernel) (pa_cons (pv 0) pa_nil)) (pe_glob (v := .int 8) rfl T.m_MAX_LENGTH ⟨_, rfl⟩))))))
         (pss_one (ps_ret pe_bl)) pss_nil) (pss_one (ps_ret (pe_callB (id := "all") (call_allK (K := K) rfl) (by rfl) T.b_all (by decide +kernel)
         (pa_cons (pe_lc (own := [("letter", 1)]) (g := (gName 1)) rfl sc_is_name.nd (pi_seqK (K := K) rfl (pv 0)) (blkOk_by (own := [("letter", 1)]) (N := ["value", "letter"]) (sc := defScope s_is_name) (by decide +kernel)) (fun _ _ _ _ _ => (pg_name (i := 1) sc_is_name.nd rfl (.inl rfl))) (fun _ _ _ _ _ => pts_nil) (fun _ _ _ _ _ =>
         (pe_cmpR op_inC (pv 1) (pe_glob (v := .str "abcdefghijklmnopqrstuvwxyz") rfl T.m_LETTERS ⟨_, rfl⟩) (by rfl)))) pa_nil))))), fun rs M R hl hS => ?_⟩
  obtain ⟨d, rfl, hf, q⟩ := hS
  walk_at "dl"
  cases d with
  | str x =>
    have hf : x.length ≤ 1000 := hf.1
    rw [isName_str] at q
    walk_at "d"
    · rw [decide_eq_false (show ¬x.length ≤ 8 by omega), Bool.and_false, Bool.false_and] at q
      exact q
    · refine ev_lcP (fun _ => true) (fun d => .bool (lowD d)) (gw_name (by simp)) gm_name ?_
      walk_at "d"
      refine ⟨by rw [List.length_map, Array.length_toList]; exact Nat.lt_of_le_of_lt hf (by decide), ?_, ?_⟩
      · intro d M' hd _
        obtain ⟨c, rfl, _⟩ := mem_chars hd
        walk_at "d"
        refine ⟨rfl, rfl, fun _ => ?_⟩
        walk_at "d"
        exact ⟨rfl, rfl⟩
      · rw [filter_yes, low_map]
        walk_at "d"
        refine rc_all ?_
        rw [decide_eq_true (show 1 ≤ x.length by omega), decide_eq_true (show x.length ≤ 8 by omega), Bool.true_and, Bool.true_and] at q
        exact q
    · rw [decide_eq_false (show ¬1 ≤ x.length by omega), Bool.false_and, Bool.false_and] at q
      exact q
  | _ =>
    walk_at "d"
    all_goals exact q

theorem ok_law_deck (T : Env K mg) : FnG P w K mg base CX0 1 T.a_law_deck T.fd_law_deck ["_law_script"] (spD K 1 S_law_deck) := by
  refine okG T.F_law_deck sc_law_deck fun cdv A outer s H E hr => ⟨_,  (pss_cons (ps_set (i := 1) sc_law_deck.nd rfl (.inl rfl) (pe_callTy (T := "list") (call_listK (K := K) rfl) (by rfl) T.b_list (by decide +kernel)
         (pa_cons (pe_slice (sl_K (K := K) rfl) (pv 0) po_none (po_some pe_int)) pa_nil))) (pss_cons (ps_set (i := 2) sc_law_deck.nd rfl (.inl rfl)
         (pe_op (op_addK (K := K) rfl) pe_int (pe_callB (id := "len") (call_lenK (K := K) rfl) (by rfl) T.b_len (by decide +kernel) (pa_cons (pv 1) pa_nil))))
         (pss_cons (ps_for PassesOwn.never rfl (pi_seqK (K := K) rfl (pv 1)) (pg_name (i := 3) sc_law_deck.nd rfl (.inl rfl)) (pss_one (ps_set (i := 2) sc_law_deck.nd rfl (.inl rfl)
         (pe_op op_mod (pe_op (op_addK (K := K) rfl) (pe_op (op_addK (K := K) rfl) (pe_op op_mulU (pv 2) pe_int) (pe_op op_mod (pv 3) pe_int)) pe_int) pe_int))))
         (pss_one (ps_ret (pe_disp (pps_cons pe_str (pe_revLK (K := K) rfl (pv 1)) (pps_cons pe_str (pv 2) (pps_cons pe_str pe_int pps_nil))) (by rfl) (by rfl) (fun z => by cases z) (by decide))))))), fun rs M R hl hS => ?_⟩
  obtain ⟨ns, rfl, q⟩ := hS
  walk_at "dl"
  walk_at "d"
  rw [cut_map]
  have hlen := cut_le ns 63
  generalize cutD ns none (some ((63 : Nat) : Int)) = ms at hlen
  have e63 : cutD ns none (some (63 : Int)) = cutD ns none (some ((63 : Nat) : Int)) := rfl
  refine y_for ?_
  walk_at "d"
  refine ⟨fun i ρ' M' => M' = M ∧ ∃ sd r, ρ' = [.scr ns, .dat (.list (ms.map .int)), .dat (.int sd), r] ∧ 0 ≤ sd ∧ sd < 2147483629, ⟨rfl, _, _, rfl, by omega, by rw [List.length_map]; omega⟩, ?_, ?_⟩
  · rintro i d ρ' M' hd ⟨rfl, sd, r, rfl, s0, s1⟩
    obtain ⟨z, _, rfl⟩ := List.mem_map.mp (List.mem_of_getElem? hd)
    walk_at "d"
    exact ⟨rfl, _, _, rfl, by omega, by omega⟩
  · rintro ρ' M' ⟨rfl, sd, r, rfl, s0, s1⟩
    refine y_ret (ev_disp fun p hp => ?_)
    refine evp_cons ?_
    walk_at "dE"
    refine ev_revM ?_
    walk_at "d"
    intro l hl
    have ne : p ≠ l := fun z => by rw [← z, setM_same] at hl; cases hl
    have hl0 : M' l = none := by rw [← hl, setM_ne (Ne.symm ne)]
    walk_at "d"
    refine ⟨by rw [setM_ne ne]; exact setM_same, deckKv l sd 0, rfl, deckKv_15, ?_⟩
    rw [merge_deck]
    refine q p l _ hp hl0 ⟨ne, ⟨sd, 0, s0, s1, by decide, by decide, setM_same⟩, ⟨ms.reverse, by rw [List.length_reverse]; exact hlen, ?_⟩⟩ ?_
    · rw [setM_ne (Ne.symm ne), setM_same, List.map_reverse]
    · intro a m e1 e2 e
      rw [setM_ne e1, setM_ne e2, setM_ne e1]
      exact e

theorem ok_law_draw (T : Env K mg) : FnG P w K mg base CX0 1 T.a_law_draw T.fd_law_draw ["_law_deck_here", "_law_count"] (spD K 2 S_law_draw) := by
  refine okG T.F_law_draw sc_law_draw fun cdv A outer s H E hr => ⟨_,  (pss_cons (ps_dput hr.u1 (pv 0) pe_str (pe_op (op_addK (K := K) rfl) (pe_dget hr.u1 (pv 0) pe_str (fun _ _ => rfl)) pe_int) rfl) (pss_cons (ps_par (i := 3) (j := 4) (by rfl) sc_law_draw.nd rfl rfl (by decide) rfl rfl
         (pa_cons (pe_dget hr.u1 (pv 0) pe_str (fun _ _ => rfl)) (pa_cons (pe_dget hr.u1 (pv 0) pe_str (fun _ _ => rfl)) pa_nil)) (by rfl)) (pss_cons
         (ps_if (pt_cmpR (op_neK (K := K) rfl hr.units0) (pe_dget hr.u1 (pv 0) pe_str (fun _ _ => rfl)) (pe_lst pa_nil) (nomark _)) (pss_cons
         (ps_set (i := 4) sc_law_draw.nd rfl (.inl rfl) (pe_popK (K := K) rfl (pe_dget hr.u1 (pv 0) pe_str (fun _ _ => rfl)))) (pss_cons (ps_if
         (pt_cmpR op_ge (pv 4) (pe_op op_pow pe_int pe_int) (nomark _)) (pss_cons (ps_expr (pe_appendK (K := K) rfl (pe_dget hr.u1 (pv 0) pe_str (fun _ _ => rfl))
         (pe_op op_fdivA (pv 4) (pv 1)))) (pss_one (ps_ret (pe_op op_mod (pv 4) (pv 1))))) pss_nil) (pss_one (ps_set (i := 4) sc_law_draw.nd rfl (.inl rfl)
         (pe_op (op_addK (K := K) rfl) (pv 4) (pe_dget hr.u1 (pv 0) pe_str (fun _ _ => rfl))))))) pss_nil) (pss_cons (ps_set (i := 2) sc_law_draw.nd rfl (.inl rfl)
         (pe_op op_mod (pe_op op_mulU (pe_op (op_addK (K := K) rfl) (pe_op (op_addK (K := K) rfl) (pe_op op_mod (pv 4) pe_int) (pe_op op_mulU
         (pe_op op_mulU pe_int (pv 3)) (pv 3))) pe_int) pe_int) pe_int)) (pss_cons (ps_set (i := 2) sc_law_draw.nd rfl (.inl rfl) (pe_op op_mod
         (pe_op (op_addK (K := K) rfl) (pe_op (op_addK (K := K) rfl) (pe_op op_mulU (pv 2) (pv 2)) (pe_op op_mulU pe_int (pv 3))) pe_int) pe_int))
         (pss_one (ps_ret (pe_op op_mod (pe_op op_fdivA (pe_op op_mod (pe_op (op_addK (K := K) rfl) (pe_op op_mulU (pv 2) pe_int) (pe_op op_fdivA (pv 2) pe_int)) pe_int) pe_int) (pv 1))))))))), fun rs M R hl hS => ?_⟩
  obtain ⟨p, l, c, n, rfl, ⟨ne, ⟨sd, dr, s0, s1, d0, d1, mp⟩, ⟨ns, nl, ml⟩⟩, hc, h0, h1, q⟩ := hS
  have hdv : ∀ i : Int, CDivA i n := fun i => cdiva (b := 63) h0 h1 (by decide) (by decide)
  walk_at "dl"
  walk_at "d"
  refine ⟨_, mp, deckKv_len, ?_⟩
  rw [putS_draws]
  have mp1 : setM M p (.dK (deckKv l sd (dr + 1))) p = some (.dK (deckKv l sd (dr + 1))) := setM_same
  have ml1 : setM M p (.dK (deckKv l sd (dr + 1))) l = some (.lst (dats (ns.map .int))) := by rw [setM_ne (Ne.symm ne)]; exact ml
  have fr1 : DL.Fr p l M (setM M p (.dK (deckKv l sd (dr + 1)))) := fun a m e1 e2 e => by rw [setM_ne e1]; exact e
  generalize setM M p (.dK (deckKv l sd (dr + 1))) = M1 at mp1 ml1 fr1 ⊢
  have t0 : 0 ≤ 48271 * (dr + 1) * (dr + 1) ∧ 48271 * (dr + 1) * (dr + 1) < 2 ^ 60 := by
    have h1 : 0 ≤ dr + 1 := by omega
    have h2 : dr + 1 ≤ 1000001 := by omega
    have := Int.mul_le_mul h2 h2 h1 (by decide)
    have h3 : 0 ≤ (dr + 1) * (dr + 1) := Int.mul_nonneg h1 h1
    rw [Int.mul_assoc]
    omega
  walk_at "d"
  refine rd_neMNil ml1 ((Shp.ints ns).shaped (by decide)) ?_
  walk_at "d"
  · obtain ⟨i, z, rfl⟩ := snoc_of (l := ns) (by rintro rfl; cases hb)
    refine ⟨l, dats ((i ++ [z]).map .int), .dat (.int z), rfl, ml1, ?_, ?_⟩
    · simp [dats]
    have el : (dats ((i ++ [z]).map .int)).dropLast = dats (i.map .int) := by simp [dats]
    rw [el]
    have nl2 : i.length ≤ 62 := by rw [List.length_append, List.length_singleton] at nl; omega
    have mp2 : setM M1 l (.lst (dats (i.map .int))) p = some (.dK (deckKv l sd (dr + 1))) := by rw [setM_ne ne]; exact mp1
    have ml2 : setM M1 l (.lst (dats (i.map .int))) l = some (.lst (dats (i.map .int))) := setM_same
    have fr2 : DL.Fr p l M (setM M1 l (.lst (dats (i.map .int)))) := fun a m e1 e2 e => by rw [setM_ne e2]; exact fr1 a m e1 e2 e
    generalize setM M1 l (.lst (dats (i.map .int))) = M2 at mp2 ml2 fr2 ⊢
    clear mp1 ml1 fr1 el hb
    walk_at "d"
    · refine ⟨⟨_, ml2⟩, ?_⟩
      have hdz := hdv z
      walk_at "d"
      refine ⟨_, ml2, ?_, ?_⟩
      · unfold dats; rw [List.length_map, List.length_map]; exact Nat.lt_of_le_of_lt nl2 (by decide)
      · rw [dats_snoc]
        walk_at "d"
        refine q _ _ (Int.emod_nonneg _ (by omega)) (Int.emod_lt_of_pos _ h0) ⟨ne, ⟨sd, dr + 1, s0, s1, by omega, by omega, ?_⟩, ⟨i ++ [z.fdiv n], ?_, ?_⟩⟩ ?_
        · rw [setM_ne ne]; exact mp2
        · rw [List.length_append, List.length_singleton]; omega
        · rw [setM_same, List.map_append]; rfl
        · intro a m e1 e2 e
          rw [setM_ne e2]
          exact fr2 a m e1 e2 e
    · exact q _ _ (Int.emod_nonneg _ (by omega)) (Int.emod_lt_of_pos _ h0) ⟨ne, ⟨sd, dr + 1, s0, s1, by omega, by omega, mp2⟩, ⟨i, by omega, ml2⟩⟩ fr2
  · walk_at "d"
    exact q _ _ (Int.emod_nonneg _ (by omega)) (Int.emod_lt_of_pos _ h0) ⟨ne, ⟨sd, dr + 1, s0, s1, by omega, by omega, mp1⟩, ⟨ns, nl, ml1⟩⟩ fr1

theorem ok_law_choice (T : Env K mg) : FnG P w K mg base CX0 2 T.a_law_choice T.fd_law_choice ["_law_deck_here", "_law_options"] (spD K 2 S_law_choice) := by
  refine okG T.F_law_choice sc_law_choice fun cdv A outer s H E hr => ⟨_,  (pss_one (ps_ret (pe_ix (ix_K (K := K) rfl) (pv 1) (pe_g (ok_law_draw T _ (hr.mono (by decide))) (by rfl) T.m_law_draw T.F_law_draw.kp (cb_pos T.F_law_draw (n := 2)
         (ps := ["_law_deck_here", "_law_count"]) (fun _ _ _ _ _ _ us h1 => match us, h1 with | [_, _], _ => rfl)) pass0 (pa_cons (pv 0) (pa_cons
         (pe_callB (id := "len") (call_lenK (K := K) rfl) (by rfl) T.b_len (by decide +kernel) (pa_cons (pv 1) pa_nil)) pa_nil))) (fun _ _ => rfl)))), fun rs M R hl hS => ?_⟩
  obtain ⟨p, l, c, z, rfl, hd, hc, h0, h1, q⟩ := hS
  walk_at "dl"
  walk_at "d"
  refine u_law_draw hd ?_
  intro v M' v0 v1 hd2 hf2
  obtain ⟨x, hx, hm⟩ := atI_nat (xs := z.cps.toList) v0 (by rw [Array.length_toList]; exact v1)
  refine rd_ixS (Nat.le_trans h1 (by decide)) hx ?_
  exact q x M' hm hd2 hf2

theorem ok_law_word (T : Env K mg) : FnG P w K mg base CX0 3 T.a_law_word T.fd_law_word ["_law_deck_here"] (spD K 1 S_law_word) := by
  refine okG T.F_law_word sc_law_word fun cdv A outer s H E hr => ⟨_,  (pss_cons (ps_set (i := 1) sc_law_word.nd rfl (.inr rfl) pe_str) (pss_cons (ps_set (i := 2) sc_law_word.nd rfl (.inl rfl) (pe_joinK (K := K) rfl pe_str
         (pe_lc (own := [("_law_k", 4)]) (g := (gName 4)) rfl sc_law_word.nd (pi_range1 (by rfl) T.b_range (pa_cons (pe_g (ok_law_draw T _ (hr.mono (by decide))) (by rfl) T.m_law_draw T.F_law_draw.kp (cb_pos T.F_law_draw (n := 2)
         (ps := ["_law_deck_here", "_law_count"]) (fun _ _ _ _ _ _ us h1 => match us, h1 with | [_, _], _ => rfl)) pass0 (pa_cons (pv 0) (pa_cons pe_int pa_nil))) pa_nil)) (blkOk_by (own := [("_law_k", 4)]) (N := ["_law_deck_here", "_law_letters", "_law_word_here", "_law_place", "_law_k"]) (sc := defScope s_law_word) (by decide +kernel)) (fun _ _ _ _ _ => (pg_name (i := 4) sc_law_word.nd rfl (.inl rfl))) (fun _ _ _ _ _ => pts_nil) (fun _ _ _ _ _ =>
         (pe_g (ok_law_choice T _ (hr.mono (by decide))) (by rfl) T.m_law_choice T.F_law_choice.kp (cb_pos T.F_law_choice (n := 2) (ps := ["_law_deck_here", "_law_options"]) (fun _ _ _ _ _ _ us h1 => match us, h1 with | [_, _], _ => rfl)) pass0
         (pa_cons (pv 0) (pa_cons (pv 1) pa_nil))))))) (pss_cons (ps_if (pt_cmpR (op_eqK (K := K) rfl hr.units0) (pe_g (ok_law_draw T _ (hr.mono (by decide))) (by rfl) T.m_law_draw T.F_law_draw.kp (cb_pos T.F_law_draw (n := 2)
         (ps := ["_law_deck_here", "_law_count"]) (fun _ _ _ _ _ _ us h1 => match us, h1 with | [_, _], _ => rfl)) pass0 (pa_cons (pv 0) (pa_cons pe_int pa_nil))) pe_int (nomark _))
         (pss_one (ps_ret (pv 2))) pss_nil) (pss_cons (ps_set (i := 3) sc_law_word.nd rfl (.inl rfl) (pe_g (ok_law_draw T _ (hr.mono (by decide))) (by rfl) T.m_law_draw T.F_law_draw.kp (cb_pos T.F_law_draw (n := 2)
         (ps := ["_law_deck_here", "_law_count"]) (fun _ _ _ _ _ _ us h1 => match us, h1 with | [_, _], _ => rfl)) pass0 (pa_cons (pv 0) (pa_cons
         (pe_op (op_addK (K := K) rfl) (pe_callB (id := "len") (call_lenK (K := K) rfl) (by rfl) T.b_len (by decide +kernel) (pa_cons (pv 2) pa_nil)) pe_int) pa_nil))))
         (pss_one (ps_ret (pe_op (op_addK (K := K) rfl) (pe_op (op_addK (K := K) rfl) (pe_slice (sl_K (K := K) rfl) (pv 2) po_none (po_some (pv 3)))
         (pe_g (ok_law_choice T _ (hr.mono (by decide))) (by rfl) T.m_law_choice T.F_law_choice.kp (cb_pos T.F_law_choice (n := 2) (ps := ["_law_deck_here", "_law_options"]) (fun _ _ _ _ _ _ us h1 => match us, h1 with | [_, _], _ => rfl)) pass0
         (pa_cons (pv 0) (pa_cons pe_str pa_nil)))) (pe_slice (sl_K (K := K) rfl) (pv 2) (po_some (pv 3)) po_none)))))))), fun rs M R hl hS => ?_⟩
  obtain ⟨p, l, c, rfl, hd, hc, q⟩ := hS
  walk_at "dl"
  walk_at "d"
  refine ev_lcK (p := p) (l := l) 1 (fun d => ∃ x, d = .str ⟨#[x]⟩ ∧ x < 128) (gw_name (by simp)) gm_name ?_
  walk_at "d"
  refine u_law_draw hd ?_
  intro v M1 v0 v1 hd1 hf1
  walk_at "d"
  refine ⟨⟨by omega, by omega⟩, ?_⟩
  have hlen : (rangeD 0 v.toNat).length = v.toNat := by unfold rangeD; rw [List.length_map, List.length_range]
  rw [hlen]
  refine ⟨Nat.lt_of_le_of_lt (show v.toNat ≤ 11 by omega) (by decide), c + 1, hd1, ?_, ?_⟩
  · intro d _ M' c' hd' hc'
    walk_at "d"
    refine ⟨rfl, ?_⟩
    walk_at "d"
    refine u_law_choice hd' ?_
    intro x M2 hx hd2 hf2
    refine ⟨_, rfl, ⟨x, rfl, ?_⟩, hd2, hf2⟩
    have e : ("abcdefghijklmnopqrstuvwxyz" : Str).cps.toList = List.range' 97 26 := by decide +kernel
    rw [e, List.mem_range'_1] at hx
    omega
  · intro acc M2 hl2 hp hd2 hf2
    obtain ⟨ys, ey, hz, hx1, hx2⟩ := join_ok' (k := 10) hp (by omega) (by decide)
    refine ⟨ys, ey, hz, ?_⟩
    generalize Txt.join ("" : Str) ys = x at hx1 hx2 ⊢
    have hfr := hf1.trans hf2
    walk_at "d"
    refine u_law_draw hd2 ?_
    intro a M3 a0 a1 hd3 hf3
    walk_at "d"
    · exact q x M3 (by omega) hx2 (hd3.mono (by omega)) (hfr.trans hf3)
    · refine u_law_draw hd3 ?_
      intro b M4 b0 b1 hd4 hf4
      walk_at "d"
      refine u_law_choice hd4 ?_
      intro y M5 hy hd5 hf5
      have l1 := cutS_length x none (some b)
      have l2 := cutS_length x (some b) none
      have l3 : (⟨#[y]⟩ : Str).length = 1 := rfl
      have l4 : (cutS x none (some b) ++ ⟨#[y]⟩).length ≤ 11 := by rw [PySem.Str.length_append]; omega
      walk_at "d"
      refine q _ _ (by rw [PySem.Str.length_append]; omega) ?_ (hd5.mono (by omega)) (((hfr.trans hf3).trans hf4).trans hf5)
      intro c hc
      rw [app_l, app_l, List.mem_append, List.mem_append] at hc
      rcases hc with (hc | hc) | hc
      · exact hx2 c (cut_mem hc)
      · rw [List.mem_singleton.mp (show c ∈ [y] from hc)]
        have e : ∀ y ∈ ("AZ09 .-_{`/\n~" : Str).cps.toList, y < 128 := by decide +kernel
        exact e y hy
      · exact hx2 c (cut_mem hc)

theorem ok_law_pairs (T : Env K mg) : FnG P w K mg base CX0 2 T.a_law_pairs T.fd_law_pairs ["_law_deck_here"] (spD K 1 S_law_pairs) := by
  refine okG T.F_law_pairs sc_law_pairs fun cdv A outer s H E hr => ⟨_,  (pss_cons (ps_par (i := 2) (j := 3) (by rfl) sc_law_pairs.nd rfl rfl (by decide) rfl rfl (pa_cons (pe_op op_sub (pe_g (ok_law_draw T _ (hr.mono (by decide))) (by rfl) T.m_law_draw T.F_law_draw.kp (cb_pos T.F_law_draw (n := 2)
         (ps := ["_law_deck_here", "_law_count"]) (fun _ _ _ _ _ _ us h1 => match us, h1 with | [_, _], _ => rfl)) pass0 (pa_cons (pv 0) (pa_cons pe_int pa_nil))) pe_int)
         (pa_cons (pe_op op_sub (pe_g (ok_law_draw T _ (hr.mono (by decide))) (by rfl) T.m_law_draw T.F_law_draw.kp (cb_pos T.F_law_draw (n := 2)
         (ps := ["_law_deck_here", "_law_count"]) (fun _ _ _ _ _ _ us h1 => match us, h1 with | [_, _], _ => rfl)) pass0 (pa_cons (pv 0) (pa_cons pe_int pa_nil))) pe_int) pa_nil)) (by rfl))
         (pss_cons (ps_set (i := 1) sc_law_pairs.nd rfl (.inl rfl) (pe_lst (pa_cons (pe_tup (pa_cons (pv 2) (pa_cons (pv 3) pa_nil))) (pa_cons
         (pe_tup (pa_cons (pv 3) (pa_cons (pv 2) pa_nil))) (pa_cons (pe_tup (pa_cons (pe_op op_mulU pe_int (pv 2)) (pa_cons (pe_op op_mulU pe_int (pv 3)) pa_nil)))
         (pa_cons (pe_tup (pa_cons pe_int (pa_cons (pv 3) pa_nil))) (pa_cons (pe_tup (pa_cons (pv 2) (pa_cons pe_int pa_nil))) (pa_cons (pe_tup
         (pa_cons (pv 2) (pa_cons pe_int pa_nil))) (pa_cons (pe_tup (pa_cons (pv 3) (pa_cons (pv 3) pa_nil))) pa_nil))))))))) (pss_cons (ps_set (i := 1) sc_law_pairs.nd rfl (.inl rfl)
         (pe_op (op_addK (K := K) rfl) (pv 1) (pe_lst (pa_cons (pe_lst (pa_cons (pv 2) (pa_cons (pv 3) pa_nil))) (pa_cons (pe_tup (pa_cons (pv 2)
         (pa_cons (pv 3) (pa_cons pe_int pa_nil)))) (pa_cons (pe_tup (pa_cons (pv 2) pa_nil)) (pa_cons (pe_tup (pa_cons (pe_callTy (T := "str") call_strK (by rfl) T.b_str (by decide +kernel)
         (pa_cons (pv 2) pa_nil)) (pa_cons (pv 3) pa_nil))) (pa_cons (pe_tup (pa_cons (pv 2) (pa_cons (pe_callTy (T := "str") call_strK (by rfl) T.b_str (by decide +kernel)
         (pa_cons (pv 3) pa_nil)) pa_nil))) (pa_cons (pe_tup (pa_cons pe_non (pa_cons (pv 3) pa_nil))) pa_nil))))))))) (pss_cons (ps_set (i := 1) sc_law_pairs.nd rfl (.inl rfl)
         (pe_op (op_addK (K := K) rfl) (pv 1) (pe_lst (pa_cons (pv 2) (pa_cons (pe_tup (pa_cons (pv 2) (pa_cons pe_bl pa_nil))) (pa_cons (pe_tup
         (pa_cons pe_bl (pa_cons (pv 3) pa_nil))) (pa_cons (pe_tup (pa_cons pe_bl (pa_cons pe_int pa_nil))) (pa_cons (pe_tup (pa_cons pe_int (pa_cons pe_bl pa_nil)))
         (pa_cons (pe_tup (pa_cons (pe_tup (pa_cons (pv 2) (pa_cons (pv 3) pa_nil))) (pa_cons pe_int pa_nil))) (pa_cons (pe_tup (pa_cons (pv 2)
         (pa_cons (pe_tup (pa_cons (pv 3) pa_nil)) pa_nil))) pa_nil)))))))))) (pss_one (ps_ret (pe_op (op_addK (K := K) rfl) (pv 1) (pe_lst (pa_cons
         (pe_disp (pps_cons (pv 2) (pv 3) pps_nil) (by rfl) (by rfl) (fun z => by cases z) (by decide)) pa_nil))))))))), fun rs M R hl hS => ?_⟩
  obtain ⟨p, l, c, rfl, hd, hc, q⟩ := hS
  walk_at "dl"
  walk_at "d"
  refine u_law_draw hd ?_
  intro v M1 v0 v1 hd1 hf1
  walk_at "d"
  refine u_law_draw hd1 ?_
  intro v2 M2 v20 v21 hd2 hf2
  have a0 : -300 ≤ v - 300 := by omega
  have a1 : v - 300 ≤ 300 := by omega
  have b0 : -2 ≤ v2 - 2 := by omega
  have b1 : v2 - 2 ≤ 60 := by omega
  clear v20 v21 v0 v1
  walk_at "dE"
  walk_at "dR"
  generalize v - 300 = t at a0 a1 ⊢
  generalize v2 - 2 = u at b0 b1 ⊢
  walk_at "d"
  refine ev_freeze (ev_disp fun P hP => ?_)
  walk_at "d"
  refine ⟨setM_same, [(.inl t, .dat (.int u))], rfl, (by decide : 1 ≤ 15), P, rfl, .inr ⟨[(.inl t, .int u)], setM_same, ?_⟩⟩
  rw [setM_setM, delM_setM hP]
  walk_at "d"
  refine q _ M2 rfl ?_ hd2 (hf1.trans hf2)
  exact pairs_ok a0 a1 b0 b1

theorem ok_law_large (T : Env K mg) : FnG P w K mg base CX0 2 T.a_law_large T.fd_law_large ["_law_deck_here"] (spD K 1 S_law_large) := by
  refine okG T.F_law_large sc_law_large fun cdv A outer s H E hr => ⟨_,  (pss_cons (ps_set (i := 1) sc_law_large.nd rfl (.inl rfl) (pe_op (op_addK (K := K) rfl) pe_int (pe_g (ok_law_draw T _ (hr.mono (by decide))) (by rfl) T.m_law_draw T.F_law_draw.kp (cb_pos T.F_law_draw (n := 2)
         (ps := ["_law_deck_here", "_law_count"]) (fun _ _ _ _ _ _ us h1 => match us, h1 with | [_, _], _ => rfl)) pass0 (pa_cons (pv 0) (pa_cons pe_int pa_nil)))))
         (pss_cons (ps_for PassesOwn.never rfl (pi_range1 (by rfl) T.b_range (pa_cons (pe_op (op_addK (K := K) rfl) pe_int (pe_g (ok_law_draw T _ (hr.mono (by decide))) (by rfl) T.m_law_draw T.F_law_draw.kp (cb_pos T.F_law_draw (n := 2)
         (ps := ["_law_deck_here", "_law_count"]) (fun _ _ _ _ _ _ us h1 => match us, h1 with | [_, _], _ => rfl)) pass0 (pa_cons (pv 0) (pa_cons pe_int pa_nil)))) pa_nil)) (pg_name (i := 2) sc_law_large.nd rfl (.inl rfl))
         (pss_one (ps_set (i := 1) sc_law_large.nd rfl (.inl rfl) (pe_op (op_addK (K := K) rfl) (pe_op op_mulU (pv 1) (pe_op op_pow pe_int pe_int))
         (pe_g (ok_law_draw T _ (hr.mono (by decide))) (by rfl) T.m_law_draw T.F_law_draw.kp (cb_pos T.F_law_draw (n := 2) (ps := ["_law_deck_here", "_law_count"]) (fun _ _ _ _ _ _ us h1 => match us, h1 with | [_, _], _ => rfl)) pass0
         (pa_cons (pv 0) (pa_cons (pe_op op_pow pe_int pe_int) pa_nil))))))) (pss_one (ps_ret (pv 1))))), fun rs M R hl hS => ?_⟩
  obtain ⟨p, l, c, rfl, hd, hc, q⟩ := hS
  walk_at "dl"
  walk_at "d"
  refine u_law_draw hd ?_
  intro v M1 v0 v1 hd1 hf1
  walk_at "d"
  refine y_for ?_
  walk_at "d"
  refine u_law_draw hd1 ?_
  intro v2 M2 v20 v21 hd2 hf2
  walk_at "d"
  have hlen : (rangeD 0 (1 + v2).toNat).length = (1 + v2).toNat := by unfold rangeD; rw [List.length_map, List.length_range]
  rw [hlen]
  refine ⟨⟨by omega, by omega⟩, fun i ρ' M' => i ≤ 20 ∧ ∃ (z : Int) (r : Sl), ρ' = [.raw (.ref p), .dat (.int z), r] ∧ 1 ≤ z ∧ z < 2 ^ (30 * i + 4) ∧ Deck M' p l (c + 2 + i) ∧ DL.Fr p l M M', ⟨by decide, _, _, rfl, by omega, by rw [Nat.mul_zero]; omega, hd2, hf1.trans hf2⟩, ?_, ?_⟩
  · rintro i d ρ' M' hi ⟨hi20, z, r, rfl, z0, z1, hd', hf'⟩
    have hi2 : i < (1 + v2).toNat := by rw [← hlen]; exact (List.getElem?_eq_some_iff.mp hi).1
    have hb : z.natAbs < 2 ^ 610 := by
      have h1 : (2 : Int) ^ (30 * i + 4) ≤ 2 ^ 609 := by
        exact_mod_cast Nat.pow_le_pow_right (by decide) (show 30 * i + 4 ≤ 609 by omega)
      have h2 : z < 2 ^ 609 := by omega
      have h3 : (2 : Int) ^ 609 < ((2 ^ 610 : Nat) : Int) := by decide +kernel
      omega
    have hm : CMulW z 1000000000 := wide_mul (a := 610) (b := 64) hb (by decide) (by decide) (by decide) (by decide)
    walk_at "d"
    refine u_law_draw hd' ?_
    intro w M3 w0 w1 hd3 hf3
    walk_at "d"
    refine ⟨by omega, _, _, rfl, by omega, ?_, by rw [← Nat.add_assoc]; exact hd3, hf'.trans hf3⟩
    have e : (2 : Int) ^ (30 * (i + 1) + 4) = 2 ^ (30 * i + 4) * 1073741824 := by
      rw [show 30 * (i + 1) + 4 = (30 * i + 4) + 30 by omega, Int.pow_add]; rfl
    rw [e]
    omega
  · rintro ρ' M' ⟨hi20, z, r, rfl, z0, z1, hd', hf'⟩
    walk_at "d"
    refine q z M' z0 ?_ (hd'.mono (by omega)) hf'
    have h1 : (2 : Int) ^ (30 * (1 + v2).toNat + 4) ≤ 2 ^ 609 := by
      exact_mod_cast Nat.pow_le_pow_right (by decide) (show 30 * (1 + v2).toNat + 4 ≤ 609 by omega)
    have h2 : z < 2 ^ 609 := by omega
    have h3 : (2 : Int) ^ 609 < ((2 ^ 610 : Nat) : Int) := by decide +kernel
    omega

theorem ok_law_is_name (T : Env K mg) : FnG P w K mg base CX0 1 T.a_law_is_name T.fd_law_is_name ["_law_item"] (spD K 1 S_law_is_name) := by
  refine okG T.F_law_is_name sc_law_is_name fun cdv A outer s H E hr => ⟨_,  (pss_cons (ps_if (PW.pt (pw_or (pt_not (pt_val (pe_callB (id := "isinstance") (call_isiK2 (K := K) rfl) (by rfl) T.b_isinstance (by decide +kernel)
         (pa_cons (pv 0) (pa_cons (pe_bltn (v := .ty "str") (by rfl) T.b_str (by decide +kernel) rfl) pa_nil))))) (pw_or (pt_cmpR (op_eqK (K := K) rfl hr.units0)
         (pe_callB (id := "len") (call_lenK (K := K) rfl) (by rfl) T.b_len (by decide +kernel) (pa_cons (pv 0) pa_nil)) pe_int (nomark _)) (pw_or1
         (pt_cmpR op_gt (pe_callB (id := "len") (call_lenK (K := K) rfl) (by rfl) T.b_len (by decide +kernel) (pa_cons (pv 0) pa_nil)) pe_int (nomark _))))))
         (pss_one (ps_ret pe_bl)) pss_nil) (pss_one (ps_ret (pe_cmpR (op_eqK (K := K) rfl hr.units0) (pe_lc (own := [("_law_letter", 1)]) (g := (gName 1)) rfl sc_law_is_name.nd
         (pi_seqK (K := K) rfl (pv 0)) (blkOk_by (own := [("_law_letter", 1)]) (N := ["_law_item", "_law_letter"]) (sc := defScope s_law_is_name) (by decide +kernel)) (fun _ _ _ _ _ => (pg_name (i := 1) sc_law_is_name.nd rfl (.inl rfl))) (fun _ _ _ _ _ =>
         (pts_one (pt_not (pt_chain op_leU op_leU pe_str (pv 1) pe_str)))) (fun _ _ _ _ _ => (pv 1))) (pe_lst pa_nil) (nomark _))))), fun rs M R hl hS => ?_⟩
  obtain ⟨d, rfl, hf, q⟩ := hS
  walk_at "dl"
  cases d with
  | str x =>
    obtain ⟨hf1, hf2⟩ : x.length ≤ 1000 ∧ ∀ c ∈ x.cps.toList, c < 128 := hf
    rw [show isNameD (.str x) = (decide (1 ≤ x.length) && decide (x.length ≤ 8) && x.cps.toList.all lowC) from rfl] at q
    walk_at "d"
    · rw [decide_eq_false (show ¬x.length ≤ 8 by omega), Bool.and_false, Bool.false_and] at q
      exact q
    · refine ev_lcP outD (fun d => d) (gw_name (by simp)) gm_name ?_
      walk_at "d"
      refine ⟨by rw [List.length_map, Array.length_toList]; exact Nat.lt_of_le_of_lt hf1 (by decide), ?_, ?_⟩
      · intro d M' hd _
        obtain ⟨c, hc, rfl⟩ := List.mem_map.mp hd
        have ea : ("a" : Str).cps.toList = [97] := by decide +kernel
        have ez : ("z" : Str).cps.toList = [122] := by decide +kernel
        walk_at "d"
        · rw [ea] at hb
          rw [ez]
          refine ⟨?_, rfl, fun _ => ?_⟩
          · show _ = !(!(decide ([c] < [97])) && !(decide ([122] < [c])))
            rw [decide_eq_false hb]
            rfl
          · walk_at "d"
            exact ⟨rfl, rfl⟩
        · rw [ea] at hb
          refine ⟨?_, rfl, fun _ => ?_⟩
          · show _ = !(!(decide ([c] < [97])) && !(decide ([122] < [c])))
            rw [decide_eq_true hb]
            rfl
          · walk_at "d"
            exact ⟨rfl, rfl⟩
      · rw [List.map_id']
        walk_at "d"
        refine rd_eqNil (Shp.shaped (m := 1) (Shp.list fun d hd => ?_)) ?_
        · obtain ⟨c, hc, rfl⟩ := List.mem_map.mp (List.mem_filter.mp hd).1
          exact Shp.str (one_ok (hf2 c hc))
        · rw [out_filter]
          rw [decide_eq_true (show 1 ≤ x.length by omega), decide_eq_true (show x.length ≤ 8 by omega), Bool.true_and, Bool.true_and] at q
          exact q
    · rw [decide_eq_false (show ¬1 ≤ x.length by omega), Bool.false_and, Bool.false_and] at q
      exact q
  | _ =>
    walk_at "d"
    all_goals exact q

theorem ok_law_is_rational (T : Env K mg) : FnG P w K mg base CX0 1 T.a_law_is_rational T.fd_law_is_rational ["_law_item"] (spD K 1 S_law_is_rational) := by
  refine okG T.F_law_is_rational sc_law_is_rational fun cdv A outer s H E hr => ⟨_,  (pss_cons (ps_if (PW.pt (pw_or (pt_not (pt_val (pe_callB (id := "isinstance") (call_isiK2 (K := K) rfl) (by rfl) T.b_isinstance (by decide +kernel)
         (pa_cons (pv 0) (pa_cons (pe_bltn (v := .ty "tuple") (by rfl) T.b_tuple (by decide +kernel) rfl) pa_nil))))) (pw_or1 (pt_cmpR (op_neK (K := K) rfl hr.units0)
         (pe_callB (id := "len") (call_lenK (K := K) rfl) (by rfl) T.b_len (by decide +kernel) (pa_cons (pv 0) pa_nil)) pe_int (nomark _)))))
         (pss_one (ps_ret pe_bl)) pss_nil) (pss_cons (ps_if (PW.pt (pw_or (pt_cmpR (op_neK (K := K) rfl hr.units0) (pe_lc (own := [("_law_x", 2)]) (g := (gName 2)) rfl sc_law_is_rational.nd
         (pi_seqK (K := K) rfl (pv 0)) (blkOk_by (own := [("_law_x", 2)]) (N := ["_law_item", "_law_k", "_law_x"]) (sc := defScope s_law_is_rational) (by decide +kernel)) (fun _ _ _ _ _ => (pg_name (i := 2) sc_law_is_rational.nd rfl (.inl rfl))) (fun _ _ _ _ _ =>
         (pts_one (PW.pt (pw_or (pt_not (pt_val (pe_callB (id := "isinstance") (call_isiK2 (K := K) rfl) (by rfl) T.b_isinstance (by decide +kernel)
         (pa_cons (pv 2) (pa_cons (pe_bltn (v := .ty "int") (by rfl) T.b_int (by decide +kernel) rfl) pa_nil))))) (pw_or1 (pt_val (pe_callB (id := "isinstance") (call_isiK2 (K := K) rfl) (by rfl) T.b_isinstance (by decide +kernel)
         (pa_cons (pv 2) (pa_cons (pe_bltn (v := .ty "bool") (by rfl) T.b_bool (by decide +kernel) rfl) pa_nil))))))))) (fun _ _ _ _ _ => pe_int))
         (pe_lst pa_nil) (nomark _)) (pw_or1 (pt_cmpR op_ltU (pe_ix (ix_K (K := K) rfl) (pv 0) pe_int (fun _ _ => rfl)) pe_int (nomark _)))))
         (pss_one (ps_ret pe_bl)) pss_nil) (pss_one (ps_ret (pe_cmpR (op_eqK (K := K) rfl hr.units0) (pe_lc (own := [("_law_k", 1)]) (g := (gName 1)) rfl sc_law_is_rational.nd
         (pi_range2 (by rfl) T.b_range (pa_cons pe_int (pa_cons (pe_op (op_addK (K := K) rfl) (pe_ix (ix_K (K := K) rfl) (pv 0) pe_int (fun _ _ => rfl)) pe_int) pa_nil))) (blkOk_by (own := [("_law_k", 1)]) (N := ["_law_item", "_law_k", "_law_x"]) (sc := defScope s_law_is_rational) (by decide +kernel)) (fun _ _ _ _ _ => (pg_name (i := 1) sc_law_is_rational.nd rfl (.inl rfl))) (fun _ _ _ _ _ =>
         (pts_one (PW.pt (pw_and (pt_cmpR (op_eqK (K := K) rfl hr.units0) (pe_op op_mod (pe_ix (ix_K (K := K) rfl) (pv 0) pe_int (fun _ _ => rfl)) (pv 1)) pe_int (nomark _))
         (pw_and1 (pt_cmpR (op_eqK (K := K) rfl hr.units0) (pe_op op_mod (pe_ix (ix_K (K := K) rfl) (pv 0) pe_int (fun _ _ => rfl)) (pv 1)) pe_int (nomark _))))))) (fun _ _ _ _ _ => (pv 1)))
         (pe_lst pa_nil) (nomark _)))))), fun rs M R hl hS => ?_⟩
  obtain ⟨d, rfl, hf, q⟩ := hS
  walk_at "dl"
  cases d with
  | tuple ds =>
    by_cases hn : ds.length = 2
    · match ds, hn with
      | [x, y], _ =>
        walk_at "d"
        refine ev_lcP badD (fun _ => .int 1) (gw_name (by simp)) gm_name ?_
        walk_at "d"
        refine ⟨(by decide : 2 < sizeLine), ?_, ?_⟩
        · intro d M' _ _
          walk_at "d"
          · exact ⟨by unfold badD; rw [hb]; rfl, rfl, fun _ => by walk_at "d"; exact ⟨rfl, rfl⟩⟩
          · exact ⟨by unfold badD; rw [hb]; rfl, rfl, fun _ => by walk_at "d"; exact ⟨rfl, rfl⟩⟩
        · walk_at "d"
          refine rd_neNil (Shp.shaped (m := 1) (Shp.list fun d hd => ?_)) ?_
          · obtain ⟨c, _, rfl⟩ := List.mem_map.mp hd
            exact Shp.int 1
          by_cases hxy : isIntD x = true ∧ isIntD y = true
          · obtain ⟨n, rfl⟩ := isInt_of hxy.1
            obtain ⟨m, rfl⟩ := isInt_of hxy.2
            rw [isRat_int] at q
            have hf : m ≤ 1000000 := hf
            walk_at "d"
            · rw [decide_eq_false (show ¬(1 ≤ m ∧ Int.gcd n m = 1) by omega)] at q
              exact q
            · refine ev_lcP (divD n m) (fun d => d) (gw_name (by simp)) gm_name ?_
              walk_at "d"
              have hlen : (rangeD 2 (m + 1 - 2).toNat).length = (m + 1 - 2).toNat := by unfold rangeD; rw [List.length_map, List.length_range]
              refine ⟨⟨by omega, by omega, by omega, by omega⟩, ?_⟩
              rw [hlen]
              refine ⟨Nat.lt_of_le_of_lt (show (m + 1 - 2).toNat ≤ 1000000 by omega) (by decide), ?_, ?_⟩
              · intro d M' hd _
                obtain ⟨i, _, rfl⟩ := List.mem_map.mp hd
                walk_at "d"
                · refine ⟨?_, rfl, fun _ => by walk_at "d"; exact ⟨rfl, rfl⟩⟩
                  show _ = (decide (n % (2 + (i : Int)) = 0) && decide (m % (2 + (i : Int)) = 0))
                  rw [decide_eq_true hb, Bool.true_and]
                · refine ⟨?_, rfl, fun _ => by walk_at "d"; exact ⟨rfl, rfl⟩⟩
                  show _ = (decide (n % (2 + (i : Int)) = 0) && decide (m % (2 + (i : Int)) = 0))
                  rw [decide_eq_false hb, Bool.false_and]
              · rw [List.map_id']
                walk_at "d"
                refine rd_eqNil (Shp.shaped (m := 1) (Shp.list fun d hd => ?_)) ?_
                · obtain ⟨c, _, rfl⟩ := List.mem_map.mp (List.mem_filter.mp hd).1
                  exact Shp.int _
                rw [range_gcd (by omega)]
                have e : decide (1 ≤ m ∧ Int.gcd n m = 1) = decide (Int.gcd n m = 1) := decide_eq_decide.mpr ⟨fun h => h.2, fun h => ⟨by omega, h⟩⟩
                rw [e] at q
                exact q
          · have hno : isIntD x = false ∨ isIntD y = false := by
              cases hx : isIntD x
              · exact .inl rfl
              · cases hy : isIntD y
                · exact .inr rfl
                · exact absurd ⟨hx, hy⟩ hxy
            rw [isRat_two hno] at q
            have hbad := bad2 (f := fun _ => .int 1) hno
            walk_at "d"
            all_goals first | exact q | (rw [hbad] at hb; cases hb)
    · walk_at "d"
      all_goals first
        | (rw [isRat_no hn] at q; exact q)
        | omega
  | _ =>
    walk_at "d"
    all_goals exact q

theorem ok_law_correct (T : Env K mg) : FnG P w K mg base CX0 3 T.a_law_correct T.fd_law_correct ["_law_item", "_law_name_expected", "_law_rational_expected"] (spD K 3 S_law_correct) := by
  refine okG T.F_law_correct sc_law_correct fun cdv A outer s H E hr => ⟨_,  (pss_cons (ps_set (i := 3) sc_law_correct.nd rfl (.inl rfl) (pe_callB (id := "repr") (call_reprK (K := K) rfl hr) (by rfl) T.b_repr (by decide +kernel)
         (pa_cons (pv 0) pa_nil))) (pss_cons (ps_set (i := 4) sc_law_correct.nd rfl (.inl rfl) (pe_lst (pa_cons (pe_g (ok_is_name T _ (hr.mono (by decide))) (by rfl) T.m_is_name T.F_is_name.kp (cb_pos T.F_is_name (n := 1)
         (ps := ["value"]) (fun _ _ _ _ _ _ us h1 => match us, h1 with | [_], _ => rfl)) pass0 (pa_cons (pv 0) pa_nil)) (pa_cons (pe_gk0 (ok_is_name T _ (hr.mono (by decide))) (by rfl) T.m_is_name T.F_is_name.kp (cb_kw T.F_is_name (ks := ["value"])
         (ps := ["value"]) (fun _ _ _ _ _ _ ws h1 => match ws, h1 with | [_], _ => rfl)) pass0 (pk_cons (pv 0) pk_nil)) (pa_cons (pe_g (ok_is_rational T _ (hr.mono (by decide))) (by rfl) T.m_is_rational T.F_is_rational.kp (cb_pos T.F_is_rational (n := 1)
         (ps := ["value"]) (fun _ _ _ _ _ _ us h1 => match us, h1 with | [_], _ => rfl)) pass0 (pa_cons (pv 0) pa_nil)) (pa_cons (pe_gk0 (ok_is_rational T _ (hr.mono (by decide))) (by rfl) T.m_is_rational T.F_is_rational.kp (cb_kw T.F_is_rational (ks := ["value"])
         (ps := ["value"]) (fun _ _ _ _ _ _ ws h1 => match ws, h1 with | [_], _ => rfl)) pass0 (pk_cons (pv 0) pk_nil)) pa_nil)))))) (pss_cons
         (ps_set (i := 5) sc_law_correct.nd rfl (.inl rfl) (pe_lst (pa_cons (pv 1) (pa_cons (pv 1) (pa_cons (pv 2) (pa_cons (pv 2) pa_nil))))))
         (pss_one (ps_ret (pe_and (pe_cmpR (op_eqK (K := K) rfl hr.units0) (pe_callB (id := "repr") (call_reprK (K := K) rfl hr) (by rfl) T.b_repr (by decide +kernel)
         (pa_cons (pv 4) pa_nil)) (pe_callB (id := "repr") (call_reprK (K := K) rfl hr) (by rfl) T.b_repr (by decide +kernel) (pa_cons (pv 5) pa_nil)) (nomark _))
         (pe_one (pe_cmpR (op_eqK (K := K) rfl hr.units0) (pe_callB (id := "repr") (call_reprK (K := K) rfl hr) (by rfl) T.b_repr (by decide +kernel)
         (pa_cons (pv 0) pa_nil)) (pv 3) (nomark _))))))))), fun rs M R hl hS => ?_⟩
  obtain ⟨d, b1, b2, rfl, hs, hf, rfl, rfl, q⟩ := hS
  walk_at "dl"
  have h4 : ∀ b c : Bool, Sho (.list [.bool b, .bool b, .bool c, .bool c]) := fun b c => Sh.sho (n := 5 * 4 + 2 * 4 + 3) (m := 1) (Sh.list (fun d hd => by
    simp only [List.mem_cons, List.not_mem_nil, or_false] at hd
    rcases hd with rfl | rfl | rfl | rfl <;> exact Sh.bool _) (fun d hd => by
    simp only [List.mem_cons, List.not_mem_nil, or_false] at hd
    rcases hd with rfl | rfl | rfl | rfl <;> rfl) (Nat.le_refl 4))
  have h5 := h4 (isNameD d) (isRatD d)
  walk_at "d"
  rw [decide_eq_true (Eq.refl _)]
  exact q

theorem ok_law (T : Env K mg) : FnG P w K mg base CX0 4 T.a_law T.fd_law ["_law_script"] (spD K 1 S_law) := by
  refine okG T.F_law sc_law fun cdv A outer s H E hr => ⟨_,  (pss_cons (ps_set (i := 1) sc_law.nd rfl (.inl rfl) (pe_g (ok_law_deck T _ (hr.mono (by decide))) (by rfl) T.m_law_deck T.F_law_deck.kp (cb_pos T.F_law_deck (n := 1)
         (ps := ["_law_script"]) (fun _ _ _ _ _ _ us h1 => match us, h1 with | [_], _ => rfl)) pass0 (pa_cons (pv 0) pa_nil))) (pss_cons (ps_set (i := 2) sc_law.nd rfl (.inl rfl)
         (pe_lst (pa_cons pe_non (pa_cons pe_bl (pa_cons pe_bl (pa_cons pe_int (pa_cons pe_int (pa_cons (pe_un un_neg pe_int) (pa_cons pe_str
         (pa_cons pe_str (pa_cons pe_str (pa_cons pe_str (pa_cons pe_str (pa_cons (pe_tup pa_nil) (pa_cons (pe_tup (pa_cons pe_int pa_nil)) (pa_cons
         (pe_tup (pa_cons pe_int (pa_cons pe_int pa_nil))) (pa_cons (pe_tup (pa_cons pe_int (pa_cons pe_int pa_nil))) (pa_cons (pe_tup (pa_cons pe_int
         (pa_cons pe_int pa_nil))) pa_nil)))))))))))))))))) (pss_cons (ps_set (i := 2) sc_law.nd rfl (.inl rfl) (pe_op (op_addK (K := K) rfl) (pv 2)
         (pe_lst (pa_cons (pe_tup (pa_cons pe_int (pa_cons pe_int pa_nil))) (pa_cons (pe_tup (pa_cons pe_int (pa_cons pe_int pa_nil))) (pa_cons
         (pe_tup (pa_cons (pe_un un_neg pe_int) (pa_cons pe_int pa_nil))) (pa_cons (pe_tup (pa_cons pe_int (pa_cons (pe_un un_neg pe_int) pa_nil)))
         (pa_cons (pe_tup (pa_cons (pe_un un_neg pe_int) (pa_cons (pe_un un_neg pe_int) pa_nil))) (pa_cons (pe_tup (pa_cons pe_int (pa_cons pe_int pa_nil)))
         (pa_cons (pe_lst pa_nil) (pa_cons pe_dnewK (pa_cons (pe_lst (pa_cons pe_str pa_nil)) (pa_cons (pe_tup (pa_cons pe_str pa_nil)) (pa_cons
         (pe_tup (pa_cons pe_str (pa_cons pe_str pa_nil))) (pa_cons (pe_tup (pa_cons (pe_tup pa_nil) (pa_cons (pe_tup pa_nil) pa_nil))) pa_nil)))))))))))))))
         (pss_cons (ps_for PassesOwn.never rfl (pi_range1 (by rfl) T.b_range (pa_cons pe_int pa_nil)) (pg_name (i := 3) sc_law.nd rfl (.inl rfl))
         (pss_one (ps_set (i := 2) sc_law.nd rfl (.inl rfl) (pe_op (op_addK (K := K) rfl) (pe_op (op_addK (K := K) rfl) (pv 2) (pe_lst (pa_cons
         (pe_g (ok_law_word T _ (hr.mono (by decide))) (by rfl) T.m_law_word T.F_law_word.kp (cb_pos T.F_law_word (n := 1) (ps := ["_law_deck_here"]) (fun _ _ _ _ _ _ us h1 => match us, h1 with | [_], _ => rfl)) pass0
         (pa_cons (pv 1) pa_nil)) pa_nil))) (pe_g (ok_law_pairs T _ (hr.mono (by decide))) (by rfl) T.m_law_pairs T.F_law_pairs.kp (cb_pos T.F_law_pairs (n := 1)
         (ps := ["_law_deck_here"]) (fun _ _ _ _ _ _ us h1 => match us, h1 with | [_], _ => rfl)) pass0 (pa_cons (pv 1) pa_nil)))))) (pss_cons
         (ps_for PassesOwn.never rfl (pi_seqK (K := K) rfl (pe_op (op_addK (K := K) rfl) (pv 2) (pe_slice (sl_K (K := K) rfl) (pv 2) po_none (po_some pe_int)))) (pg_name (i := 4) sc_law.nd rfl (.inl rfl))
         (pss_one (ps_if (pt_not (pt_val (pe_g (ok_law_correct T _ (hr.mono (by decide))) (by rfl) T.m_law_correct T.F_law_correct.kp (cb_pos T.F_law_correct (n := 3)
         (ps := ["_law_item", "_law_name_expected", "_law_rational_expected"]) (fun _ _ _ _ _ _ us h1 => match us, h1 with | [_, _, _], _ => rfl)) pass0
         (pa_cons (pv 4) (pa_cons (pe_g (ok_law_is_name T _ (hr.mono (by decide))) (by rfl) T.m_law_is_name T.F_law_is_name.kp (cb_pos T.F_law_is_name (n := 1)
         (ps := ["_law_item"]) (fun _ _ _ _ _ _ us h1 => match us, h1 with | [_], _ => rfl)) pass0 (pa_cons (pv 4) pa_nil)) (pa_cons (pe_g (ok_law_is_rational T _ (hr.mono (by decide))) (by rfl) T.m_law_is_rational T.F_law_is_rational.kp (cb_pos T.F_law_is_rational (n := 1)
         (ps := ["_law_item"]) (fun _ _ _ _ _ _ us h1 => match us, h1 with | [_], _ => rfl)) pass0 (pa_cons (pv 4) pa_nil)) pa_nil)))))) (pss_one
         (ps_ret pe_bl)) pss_nil))) (pss_cons (ps_for PassesOwn.never rfl (pi_range1 (by rfl) T.b_range (pa_cons pe_int pa_nil)) (pg_name (i := 3) sc_law.nd rfl (.inl rfl))
         (pss_cons (ps_par (i := 8) (j := 9) (by rfl) sc_law.nd rfl rfl (by decide) rfl rfl (pa_cons (pe_g (ok_law_large T _ (hr.mono (by decide))) (by rfl) T.m_law_large T.F_law_large.kp (cb_pos T.F_law_large (n := 1)
         (ps := ["_law_deck_here"]) (fun _ _ _ _ _ _ us h1 => match us, h1 with | [_], _ => rfl)) pass0 (pa_cons (pv 1) pa_nil)) (pa_cons (pe_op (op_addK (K := K) rfl) pe_int
         (pe_g (ok_law_draw T _ (hr.mono (by decide))) (by rfl) T.m_law_draw T.F_law_draw.kp (cb_pos T.F_law_draw (n := 2) (ps := ["_law_deck_here", "_law_count"]) (fun _ _ _ _ _ _ us h1 => match us, h1 with | [_, _], _ => rfl)) pass0
         (pa_cons (pv 1) (pa_cons pe_int pa_nil)))) pa_nil)) (by rfl)) (pss_cons (ps_set (i := 6) sc_law.nd rfl (.inl rfl) (pe_lst (pa_cons (pe_tup
         (pa_cons (pv 8) (pa_cons (pe_op (op_addK (K := K) rfl) (pv 8) pe_int) pa_nil))) (pa_cons (pe_tup (pa_cons (pe_op (op_addK (K := K) rfl) (pv 8) pe_int)
         (pa_cons (pv 8) pa_nil))) (pa_cons (pe_tup (pa_cons (pe_op op_sub pe_int (pv 8)) (pa_cons pe_int pa_nil))) (pa_cons (pe_tup (pa_cons
         (pe_op (op_addK (K := K) rfl) (pe_op op_mulU (pv 8) (pv 9)) pe_int) (pa_cons (pv 9) pa_nil))) (pa_cons (pe_tup (pa_cons (pe_op (op_addK (K := K) rfl)
         (pe_op op_mulU (pv 8) (pv 8)) pe_int) (pa_cons (pv 8) pa_nil))) (pa_cons (pe_tup (pa_cons (pe_un un_neg pe_int) (pa_cons (pv 8) pa_nil))) pa_nil))))))))
         (pss_cons (ps_set (i := 7) sc_law.nd rfl (.inl rfl) (pe_lst (pa_cons (pe_tup (pa_cons (pe_op op_mulU (pv 8) (pv 9)) (pa_cons (pv 9) pa_nil)))
         (pa_cons (pe_tup (pa_cons (pe_op op_mulU (pv 9) (pv 8)) (pa_cons (pe_op op_mulU (pe_op op_mulU (pv 8) (pv 9)) (pv 9)) pa_nil))) (pa_cons
         (pe_tup (pa_cons (pv 8) (pa_cons pe_int pa_nil))) (pa_cons (pe_tup (pa_cons (pv 8) (pa_cons (pe_op op_sub (pe_op op_sub pe_int (pv 8)) pe_int) pa_nil)))
         (pa_cons (pe_tup (pa_cons pe_int (pa_cons (pe_op op_mulU (pv 8) (pv 9)) pa_nil))) (pa_cons (pe_tup (pa_cons (pe_op op_mulU (pv 8) (pv 9))
         (pa_cons (pe_op op_mulU (pv 8) (pv 9)) pa_nil))) (pa_cons (pe_tup (pa_cons (pv 8) (pa_cons pe_str pa_nil))) pa_nil))))))))) (pss_cons
         (ps_if (pt_cmpR (op_neK (K := K) rfl hr.units0) (pe_lc (own := [("_law_item", 4)]) (g := (gName 4)) rfl sc_law.nd (pi_seqK (K := K) rfl (pv 6)) (blkOk_by (own := [("_law_item", 4)]) (N := ["_law_script", "_law_deck_here", "_law_items", "_law_turn", "_law_item", "_law_k", "_law_valid", "_law_invalid", "_law_x", "_law_y"]) (sc := defScope s_law) (by decide +kernel)) (fun _ _ _ _ _ => (pg_name (i := 4) sc_law.nd rfl (.inl rfl))) (fun _ _ _ _ _ =>
         (pts_one (pt_not (pt_val (pe_g (ok_law_correct T _ (hr.mono (by decide))) (by rfl) T.m_law_correct T.F_law_correct.kp (cb_pos T.F_law_correct (n := 3)
         (ps := ["_law_item", "_law_name_expected", "_law_rational_expected"]) (fun _ _ _ _ _ _ us h1 => match us, h1 with | [_, _, _], _ => rfl)) pass0
         (pa_cons (pv 4) (pa_cons pe_bl (pa_cons pe_bl pa_nil)))))))) (fun _ _ _ _ _ => (pv 4))) (pe_lst pa_nil) (nomark _)) (pss_one (ps_ret pe_bl)) pss_nil)
         (pss_one (ps_if (pt_cmpR (op_neK (K := K) rfl hr.units0) (pe_lc (own := [("_law_item", 4)]) (g := (gName 4)) rfl sc_law.nd (pi_seqK (K := K) rfl (pv 7)) (blkOk_by (own := [("_law_item", 4)]) (N := ["_law_script", "_law_deck_here", "_law_items", "_law_turn", "_law_item", "_law_k", "_law_valid", "_law_invalid", "_law_x", "_law_y"]) (sc := defScope s_law) (by decide +kernel)) (fun _ _ _ _ _ => (pg_name (i := 4) sc_law.nd rfl (.inl rfl))) (fun _ _ _ _ _ =>
         (pts_one (pt_not (pt_val (pe_g (ok_law_correct T _ (hr.mono (by decide))) (by rfl) T.m_law_correct T.F_law_correct.kp (cb_pos T.F_law_correct (n := 3)
         (ps := ["_law_item", "_law_name_expected", "_law_rational_expected"]) (fun _ _ _ _ _ _ us h1 => match us, h1 with | [_, _, _], _ => rfl)) pass0
         (pa_cons (pv 4) (pa_cons pe_bl (pa_cons pe_bl pa_nil)))))))) (fun _ _ _ _ _ => (pv 4))) (pe_lst pa_nil) (nomark _)) (pss_one (ps_ret pe_bl)) pss_nil)))))))
         (pss_cons (ps_asg (pe_tup (pa_cons pe_int (pa_cons pe_int pa_nil))) (pg_tupK (K := K) (n := 2) rfl rfl (pgs_cons (pg_name (i := 8) sc_law.nd rfl (.inl rfl)) (pgs_cons (pg_name (i := 9) sc_law.nd rfl (.inl rfl)) pgs_nil)) rfl rfl))
         (pss_cons (ps_for PassesOwn.never rfl (pi_range1 (by rfl) T.b_range (pa_cons (pe_op (op_addK (K := K) rfl) pe_int (pe_g (ok_law_draw T _ (hr.mono (by decide))) (by rfl) T.m_law_draw T.F_law_draw.kp (cb_pos T.F_law_draw (n := 2)
         (ps := ["_law_deck_here", "_law_count"]) (fun _ _ _ _ _ _ us h1 => match us, h1 with | [_, _], _ => rfl)) pass0 (pa_cons (pv 1) (pa_cons pe_int pa_nil)))) pa_nil)) (pg_name (i := 5) sc_law.nd rfl (.inl rfl))
         (pss_one (ps_par (i := 8) (j := 9) (by rfl) sc_law.nd rfl rfl (by decide) rfl rfl (pa_cons (pv 9) (pa_cons (pe_op (op_addK (K := K) rfl) (pv 8) (pv 9)) pa_nil)) (by rfl))))
         (pss_cons (ps_if (pt_not (pt_val (pe_g (ok_law_correct T _ (hr.mono (by decide))) (by rfl) T.m_law_correct T.F_law_correct.kp (cb_pos T.F_law_correct (n := 3)
         (ps := ["_law_item", "_law_name_expected", "_law_rational_expected"]) (fun _ _ _ _ _ _ us h1 => match us, h1 with | [_, _, _], _ => rfl)) pass0
         (pa_cons (pe_tup (pa_cons (pe_op op_mulU pe_int (pv 8)) (pa_cons (pe_op op_mulU pe_int (pv 9)) pa_nil))) (pa_cons pe_bl (pa_cons pe_bl pa_nil))))))
         (pss_one (ps_ret pe_bl)) pss_nil) (pss_one (ps_ret (pe_and (pe_g (ok_law_correct T _ (hr.mono (by decide))) (by rfl) T.m_law_correct T.F_law_correct.kp (cb_pos T.F_law_correct (n := 3)
         (ps := ["_law_item", "_law_name_expected", "_law_rational_expected"]) (fun _ _ _ _ _ _ us h1 => match us, h1 with | [_, _, _], _ => rfl)) pass0
         (pa_cons (pe_tup (pa_cons (pv 8) (pa_cons (pv 9) pa_nil))) (pa_cons pe_bl (pa_cons pe_bl pa_nil)))) (pe_one (pe_g (ok_law_correct T _ (hr.mono (by decide))) (by rfl) T.m_law_correct T.F_law_correct.kp (cb_pos T.F_law_correct (n := 3)
         (ps := ["_law_item", "_law_name_expected", "_law_rational_expected"]) (fun _ _ _ _ _ _ us h1 => match us, h1 with | [_, _, _], _ => rfl)) pass0
         (pa_cons (pe_tup (pa_cons (pe_op op_sub pe_int (pv 9)) (pa_cons (pv 8) pa_nil))) (pa_cons pe_bl (pa_cons pe_bl pa_nil))))))))))))))))), fun rs M R hl hS => ?_⟩
  obtain ⟨ns, rfl, q⟩ := hS
  walk_at "dl"
  walk_at "d"
  refine u_law_deck ?_
  intro p l M1 hp hl hd hf
  walk_at "d"
  refine y_for ?_
  walk_at "d"
  refine ⟨⟨by decide, by decide⟩, fun i ρ' M' => i ≤ 8 ∧ ∃ (ds : List PyData) (r : Sl), ρ' = [.scr ns, .raw (.ref p), .dat (.list ds), r, .un, .un, .un, .un, .un, .un] ∧ ds.length = 28 + 22 * i ∧ (∀ d ∈ ds, Itm d) ∧ Deck M' p l (22 * i), ⟨by decide, _, _, rfl, rfl, fixed1_ok, hd⟩, ?_, ?_⟩
  · rintro i d ρ' M' hi ⟨hi8, ds, r, rfl, hlen, hall, hd'⟩
    have hi2 : i < 8 := by have := (List.getElem?_eq_some_iff.mp hi).1; simpa [rangeD] using this
    walk_at "d"
    refine u_law_word hd' ?_
    intro x M2 hx1 hx2 hd2 hf2
    walk_at "d"
    refine u_law_pairs hd2 ?_
    intro es M3 he1 he2 hd3 hf3
    walk_at "d"
    refine ⟨hi2, _, _, rfl, ?_, ?_, hd3.mono (by omega)⟩
    · rw [List.length_append, List.length_append, hlen, he1]; show _ + 1 + _ = _; omega
    · intro d hd
      rcases List.mem_append.mp hd with hd | hd
      · rcases List.mem_append.mp hd with hd | hd
        · exact hall d hd
        · rw [List.mem_singleton.mp hd]
          exact ⟨Qd.sho (Qd.ascii (by omega) hx2), ⟨by omega, hx2⟩, True.intro⟩
      · exact he2 d hd
  · rintro ρ' M' ⟨_, ds, r, rfl, hlen, hall, hd'⟩
    have hlen : ds.length = 28 + 22 * 8 := by rw [hlen]; rfl
    have hd' : Deck M' p l 200 := hd'.mono (by decide)
    have hcl : (DL.cutD ds none (some (9 : Int))).length ≤ 9 := cut_le ds 9
    have hcm : ∀ d ∈ DL.cutD ds none (some ((9 : Nat) : Int)), Itm d := fun d hd => hall d (cutD_mem hd)
    walk_at "d"
    refine y_for ?_
    walk_at "d"
    have hcm : ∀ d ∈ ds ++ DL.cutD ds none (some (9 : Int)), Itm d := fun d hd => by
      rcases List.mem_append.mp hd with hd | hd
      · exact hall d hd
      · exact hcm d hd
    generalize ds ++ DL.cutD ds none (some (9 : Int)) = es at hcm ⊢
    refine ⟨fun i ρ' M'' => ∃ (r4 : Sl), ρ' = [.scr ns, .raw (.ref p), .dat (.list ds), r, r4, .un, .un, .un, .un, .un] ∧ M'' = M', ⟨_, rfl, rfl⟩, ?_, ?_⟩
    · rintro i d ρ' M'' hi ⟨r4, rfl, rfl⟩
      obtain ⟨hsho, hfit, hsm⟩ := hcm d (List.mem_of_getElem? hi)
      walk_at "d"
      refine u_law_correct hsho hfit rfl rfl ?_
      walk_at "d"
      exact rfl
    · rintro ρ' M'' ⟨r4, rfl, rfl⟩
      walk_at "d"
      refine y_for ?_
      walk_at "d"
      refine ⟨⟨by decide, by decide⟩, fun i ρ' M' => i ≤ 3 ∧ ∃ (r3 r6 r7 r8 r9 : Sl), ρ' = [.scr ns, .raw (.ref p), .dat (.list ds), r3, r4, .un, r6, r7, r8, r9] ∧ Deck M' p l (200 + 31 * i), ⟨by decide, _, _, _, _, _, rfl, hd'⟩, ?_, ?_⟩
      · rintro i d ρ' M' hi ⟨hi8, r3, r6, r7, r8, r9, rfl, hd'⟩
        have hi2 : i < 3 := by have := (List.getElem?_eq_some_iff.mp hi).1; simpa [rangeD] using this
        walk_at "d"
        refine u_law_large hd' ?_
        intro x M2 x0 xb hd2 hf2
        walk_at "d"
        refine u_law_draw hd2 ?_
        intro v M3 v0 v1 hd3 hf3
        have y0 : 2 ≤ 2 + v := by omega
        have yb : (2 + v).natAbs < 2 ^ 10 := by omega
        walk_at "dR"
        generalize 2 + v = y at y0 yb ⊢
        have m1 : CMulW x y := wide_mul (a := 610) (b := 10) xb yb (by decide) (by decide) (by decide)
        have m2 : CMulW y x := wide_mul (a := 10) (b := 610) yb xb (by decide) (by decide) (by decide)
        have m3 : CMulW x x := wide_mul (a := 610) (b := 610) xb xb (by decide) (by decide) (by decide)
        have m4 : CMulW (x * y) y := wide_mul (a := 620) (b := 10) (nb_mul xb yb) yb (by decide) (by decide) (by decide)
        have hv := valid_ok x0 y0 xb yb
        have hi := invalid_ok x0 y0 xb yb
        walk_at "d"
        refine ev_lcP (fun _ => false) (fun d => d) (gw_name (by simp)) gm_name ?_
        walk_at "d"
        refine ⟨(by decide : 6 < sizeLine), ?_, ?_⟩
        · intro d M' hd _
          obtain ⟨a, b, c, e⟩ := hv d hd
          walk_at "d"
          refine u_law_correct a b c.symm e.symm ?_
          walk_at "d"
          exact ⟨rfl, rfl, fun z => by cases z⟩
        rw [filter_no, List.map_nil]
        walk_at "d"
        refine rd_neNil shaped_nil ?_
        walk_at "d"
        refine ev_lcP (fun _ => false) (fun d => d) (gw_name (by simp)) gm_name ?_
        walk_at "d"
        refine ⟨(by decide : 7 < sizeLine), ?_, ?_⟩
        · intro d M' hd _
          obtain ⟨a, b, c, e⟩ := hi d hd
          walk_at "d"
          refine u_law_correct a b c.symm e.symm ?_
          walk_at "d"
          exact ⟨rfl, rfl, fun z => by cases z⟩
        rw [filter_no, List.map_nil]
        walk_at "d"
        refine rd_neNil shaped_nil ?_
        walk_at "d"
        exact ⟨hi2, _, _, _, _, _, rfl, hd3.mono (by omega)⟩
      · rintro ρ' M' ⟨_, r3, r6, r7, r8, r9, rfl, hd'⟩
        have hd' : Deck M' p l 300 := hd'.mono (by decide)
        walk_at "d"
        refine y_for ?_
        walk_at "d"
        refine u_law_draw hd' ?_
        intro v M2 v0 v1 hd2 hf2
        walk_at "d"
        have hlr : (rangeD 0 (1600 + v).toNat).length = (1600 + v).toNat := by unfold rangeD; rw [List.length_map, List.length_range]
        refine ⟨⟨by omega, by omega⟩, fun i ρ' M' => i ≤ (1600 + v).toNat ∧ ∃ (x y : Int) (r5 : Sl), ρ' = [.scr ns, .raw (.ref p), .dat (.list ds), r3, r4, r5, r6, r7, .dat (.int x), .dat (.int y)] ∧ 1 ≤ x ∧ 1 ≤ y ∧ Int.gcd x y = 1 ∧ x.natAbs < 2 ^ (i + 1) ∧ y.natAbs < 2 ^ (i + 1), ⟨Nat.zero_le _, 1, 1, _, rfl, by decide, by decide, by decide, by decide, by decide⟩, ?_, ?_⟩
        · rintro i d ρ' M' hi ⟨hi8, x, y, r5, rfl, x0, y0, hg, bx, bY⟩
          have hi2 : i < (1600 + v).toNat := by rw [← hlr]; exact (List.getElem?_eq_some_iff.mp hi).1
          walk_at "d"
          exact ⟨hi2, _, _, _, rfl, y0, by omega, gcd_fib hg, Nat.lt_of_lt_of_le bY (Nat.pow_le_pow_right (by decide) (by omega)), nb_add bx bY⟩
        · rintro ρ' M' ⟨_, x, y, r5, rfl, x0, y0, hg, bx, bY⟩
          rw [hlr] at bx bY
          have bx : x.natAbs < 2 ^ 1851 := Nat.lt_of_lt_of_le bx (Nat.pow_le_pow_right (by decide) (by omega))
          have bY : y.natAbs < 2 ^ 1851 := Nat.lt_of_lt_of_le bY (Nat.pow_le_pow_right (by decide) (by omega))
          have m1 : CMulW 2 x := wide_mul (a := 2) (b := 1851) (by decide) bx (by decide) (by decide) (by decide)
          have m2 : CMulW 2 y := wide_mul (a := 2) (b := 1851) (by decide) bY (by decide) (by decide) (by decide)
          have b2x : (2 * x).natAbs < 2 ^ 1853 := nb_mul (i := 2) (by decide) bx
          have b2y : (2 * y).natAbs < 2 ^ 1853 := nb_mul (i := 2) (by decide) bY
          have bn : (0 - y).natAbs < 2 ^ 1851 := by rw [show (0 - y).natAbs = y.natAbs by omega]; exact bY
          have o1 : Ok2 false (.tuple [.int (2 * x), .int (2 * y)]) := .no (nb_le b2x) (nb_le b2y) fun h => gcd_not (k := 2) (by decide) (Int.dvd_mul_right ..) (Int.dvd_mul_right ..) h.2
          have o2 : Ok2 true (.tuple [.int x, .int y]) := .yes (nb_le bx) (nb_le bY) y0 hg
          have o3 : Ok2 true (.tuple [.int (0 - y), .int x]) := .yes (nb_le bn) (nb_le bx) x0 (by rw [Int.zero_sub, Int.neg_gcd, Int.gcd_comm]; exact hg)
          walk_at "d"
          refine u_law_correct o1.sho o1.fit o1.nm.symm o1.rt.symm ?_
          walk_at "d"
          refine u_law_correct o2.sho o2.fit o2.nm.symm o2.rt.symm ?_
          walk_at "d"
          refine u_law_correct o3.sho o3.fit o3.nm.symm o3.rt.symm ?_
          walk_at "d"
          exact q _

end
theorem all_mk {l : PySem.W.OpenLaw} {w : World} {K : PySem.W.Frag} {h : Heap} {mg : Str → Option Value} {fa : Addr} (X : K.In h) (G : h.Ns mainGlobals mg) (hfa : mg "law" = some (.ref fa))
    {a_is_integer : Addr} {od_is_integer an_is_integer : Option Addr} {sl_is_integer : Array (Option Value)} {oc_is_integer kV_is_integer dc_is_integer pm_is_integer cd_is_integer ct_is_integer : Value}
    {a_common_divisor : Addr} {od_common_divisor an_common_divisor : Option Addr} {sl_common_divisor : Array (Option Value)} {oc_common_divisor kV_common_divisor dc_common_divisor pm_common_divisor cd_common_divisor ct_common_divisor : Value}
    {a_is_rational : Addr} {od_is_rational an_is_rational : Option Addr} {sl_is_rational : Array (Option Value)} {oc_is_rational kV_is_rational dc_is_rational pm_is_rational cd_is_rational ct_is_rational : Value}
    {a_is_name : Addr} {od_is_name an_is_name : Option Addr} {sl_is_name : Array (Option Value)} {oc_is_name kV_is_name dc_is_name pm_is_name cd_is_name ct_is_name : Value}
    {a_law_deck : Addr} {od_law_deck an_law_deck : Option Addr} {sl_law_deck : Array (Option Value)} {oc_law_deck kV_law_deck dc_law_deck pm_law_deck cd_law_deck ct_law_deck : Value}
    {a_law_draw : Addr} {od_law_draw an_law_draw : Option Addr} {sl_law_draw : Array (Option Value)} {oc_law_draw kV_law_draw dc_law_draw pm_law_draw cd_law_draw ct_law_draw : Value}
    {a_law_choice : Addr} {od_law_choice an_law_choice : Option Addr} {sl_law_choice : Array (Option Value)} {oc_law_choice kV_law_choice dc_law_choice pm_law_choice cd_law_choice ct_law_choice : Value}
    {a_law_word : Addr} {od_law_word an_law_word : Option Addr} {sl_law_word : Array (Option Value)} {oc_law_word kV_law_word dc_law_word pm_law_word cd_law_word ct_law_word : Value}
    {a_law_pairs : Addr} {od_law_pairs an_law_pairs : Option Addr} {sl_law_pairs : Array (Option Value)} {oc_law_pairs kV_law_pairs dc_law_pairs pm_law_pairs cd_law_pairs ct_law_pairs : Value}
    {a_law_large : Addr} {od_law_large an_law_large : Option Addr} {sl_law_large : Array (Option Value)} {oc_law_large kV_law_large dc_law_large pm_law_large cd_law_large ct_law_large : Value}
    {a_law_is_name : Addr} {od_law_is_name an_law_is_name : Option Addr} {sl_law_is_name : Array (Option Value)} {oc_law_is_name kV_law_is_name dc_law_is_name pm_law_is_name cd_law_is_name ct_law_is_name : Value}
    {a_law_is_rational : Addr} {od_law_is_rational an_law_is_rational : Option Addr} {sl_law_is_rational : Array (Option Value)} {oc_law_is_rational kV_law_is_rational dc_law_is_rational pm_law_is_rational cd_law_is_rational ct_law_is_rational : Value}
    {a_law_correct : Addr} {od_law_correct an_law_correct : Option Addr} {sl_law_correct : Array (Option Value)} {oc_law_correct kV_law_correct dc_law_correct pm_law_correct cd_law_correct ct_law_correct : Value}
    {a_law : Addr} {od_law an_law : Option Addr} {sl_law : Array (Option Value)} {oc_law kV_law dc_law pm_law cd_law ct_law : Value}
    {t_LETTERS : Tok}
    {t_MAX_LENGTH : Tok}
    (g_is_integer : PySem.W.nsIn K mainGlobals "is_integer" = some (some (.ref a_is_integer))) (l_is_integer : K.lookup a_is_integer = some ⟨oc_is_integer, od_is_integer, .func (PySem.W.fnOf "is_integer" "is_integer" (defArgs s_is_integer) (defBody s_is_integer) (defScope s_is_integer) .none kV_is_integer dc_is_integer pm_is_integer an_is_integer cd_is_integer ct_is_integer), sl_is_integer⟩) (c_is_integer : PySem.W.codeIn K cd_is_integer "is_integer" = true) (k_is_integer : PySem.W.keepIn K (.ref a_is_integer) = true)
    (g_common_divisor : PySem.W.nsIn K mainGlobals "common_divisor" = some (some (.ref a_common_divisor))) (l_common_divisor : K.lookup a_common_divisor = some ⟨oc_common_divisor, od_common_divisor, .func (PySem.W.fnOf "common_divisor" "common_divisor" (defArgs s_common_divisor) (defBody s_common_divisor) (defScope s_common_divisor) .none kV_common_divisor dc_common_divisor pm_common_divisor an_common_divisor cd_common_divisor ct_common_divisor), sl_common_divisor⟩) (c_common_divisor : PySem.W.codeIn K cd_common_divisor "common_divisor" = true) (k_common_divisor : PySem.W.keepIn K (.ref a_common_divisor) = true)
    (g_is_rational : PySem.W.nsIn K mainGlobals "is_rational" = some (some (.ref a_is_rational))) (l_is_rational : K.lookup a_is_rational = some ⟨oc_is_rational, od_is_rational, .func (PySem.W.fnOf "is_rational" "is_rational" (defArgs s_is_rational) (defBody s_is_rational) (defScope s_is_rational) .none kV_is_rational dc_is_rational pm_is_rational an_is_rational cd_is_rational ct_is_rational), sl_is_rational⟩) (c_is_rational : PySem.W.codeIn K cd_is_rational "is_rational" = true) (k_is_rational : PySem.W.keepIn K (.ref a_is_rational) = true)
    (g_is_name : PySem.W.nsIn K mainGlobals "is_name" = some (some (.ref a_is_name))) (l_is_name : K.lookup a_is_name = some ⟨oc_is_name, od_is_name, .func (PySem.W.fnOf "is_name" "is_name" (defArgs s_is_name) (defBody s_is_name) (defScope s_is_name) .none kV_is_name dc_is_name pm_is_name an_is_name cd_is_name ct_is_name), sl_is_name⟩) (c_is_name : PySem.W.codeIn K cd_is_name "is_name" = true) (k_is_name : PySem.W.keepIn K (.ref a_is_name) = true)
    (g_law_deck : PySem.W.nsIn K mainGlobals "_law_deck" = some (some (.ref a_law_deck))) (l_law_deck : K.lookup a_law_deck = some ⟨oc_law_deck, od_law_deck, .func (PySem.W.fnOf "_law_deck" "_law_deck" (defArgs s_law_deck) (defBody s_law_deck) (defScope s_law_deck) .none kV_law_deck dc_law_deck pm_law_deck an_law_deck cd_law_deck ct_law_deck), sl_law_deck⟩) (c_law_deck : PySem.W.codeIn K cd_law_deck "_law_deck" = true) (k_law_deck : PySem.W.keepIn K (.ref a_law_deck) = true)
    (g_law_draw : PySem.W.nsIn K mainGlobals "_law_draw" = some (some (.ref a_law_draw))) (l_law_draw : K.lookup a_law_draw = some ⟨oc_law_draw, od_law_draw, .func (PySem.W.fnOf "_law_draw" "_law_draw" (defArgs s_law_draw) (defBody s_law_draw) (defScope s_law_draw) .none kV_law_draw dc_law_draw pm_law_draw an_law_draw cd_law_draw ct_law_draw), sl_law_draw⟩) (c_law_draw : PySem.W.codeIn K cd_law_draw "_law_draw" = true) (k_law_draw : PySem.W.keepIn K (.ref a_law_draw) = true)
    (g_law_choice : PySem.W.nsIn K mainGlobals "_law_choice" = some (some (.ref a_law_choice))) (l_law_choice : K.lookup a_law_choice = some ⟨oc_law_choice, od_law_choice, .func (PySem.W.fnOf "_law_choice" "_law_choice" (defArgs s_law_choice) (defBody s_law_choice) (defScope s_law_choice) .none kV_law_choice dc_law_choice pm_law_choice an_law_choice cd_law_choice ct_law_choice), sl_law_choice⟩) (c_law_choice : PySem.W.codeIn K cd_law_choice "_law_choice" = true) (k_law_choice : PySem.W.keepIn K (.ref a_law_choice) = true)
    (g_law_word : PySem.W.nsIn K mainGlobals "_law_word" = some (some (.ref a_law_word))) (l_law_word : K.lookup a_law_word = some ⟨oc_law_word, od_law_word, .func (PySem.W.fnOf "_law_word" "_law_word" (defArgs s_law_word) (defBody s_law_word) (defScope s_law_word) .none kV_law_word dc_law_word pm_law_word an_law_word cd_law_word ct_law_word), sl_law_word⟩) (c_law_word : PySem.W.codeIn K cd_law_word "_law_word" = true) (k_law_word : PySem.W.keepIn K (.ref a_law_word) = true)
    (g_law_pairs : PySem.W.nsIn K mainGlobals "_law_pairs" = some (some (.ref a_law_pairs))) (l_law_pairs : K.lookup a_law_pairs = some ⟨oc_law_pairs, od_law_pairs, .func (PySem.W.fnOf "_law_pairs" "_law_pairs" (defArgs s_law_pairs) (defBody s_law_pairs) (defScope s_law_pairs) .none kV_law_pairs dc_law_pairs pm_law_pairs an_law_pairs cd_law_pairs ct_law_pairs), sl_law_pairs⟩) (c_law_pairs : PySem.W.codeIn K cd_law_pairs "_law_pairs" = true) (k_law_pairs : PySem.W.keepIn K (.ref a_law_pairs) = true)
    (g_law_large : PySem.W.nsIn K mainGlobals "_law_large" = some (some (.ref a_law_large))) (l_law_large : K.lookup a_law_large = some ⟨oc_law_large, od_law_large, .func (PySem.W.fnOf "_law_large" "_law_large" (defArgs s_law_large) (defBody s_law_large) (defScope s_law_large) .none kV_law_large dc_law_large pm_law_large an_law_large cd_law_large ct_law_large), sl_law_large⟩) (c_law_large : PySem.W.codeIn K cd_law_large "_law_large" = true) (k_law_large : PySem.W.keepIn K (.ref a_law_large) = true)
    (g_law_is_name : PySem.W.nsIn K mainGlobals "_law_is_name" = some (some (.ref a_law_is_name))) (l_law_is_name : K.lookup a_law_is_name = some ⟨oc_law_is_name, od_law_is_name, .func (PySem.W.fnOf "_law_is_name" "_law_is_name" (defArgs s_law_is_name) (defBody s_law_is_name) (defScope s_law_is_name) .none kV_law_is_name dc_law_is_name pm_law_is_name an_law_is_name cd_law_is_name ct_law_is_name), sl_law_is_name⟩) (c_law_is_name : PySem.W.codeIn K cd_law_is_name "_law_is_name" = true) (k_law_is_name : PySem.W.keepIn K (.ref a_law_is_name) = true)
    (g_law_is_rational : PySem.W.nsIn K mainGlobals "_law_is_rational" = some (some (.ref a_law_is_rational))) (l_law_is_rational : K.lookup a_law_is_rational = some ⟨oc_law_is_rational, od_law_is_rational, .func (PySem.W.fnOf "_law_is_rational" "_law_is_rational" (defArgs s_law_is_rational) (defBody s_law_is_rational) (defScope s_law_is_rational) .none kV_law_is_rational dc_law_is_rational pm_law_is_rational an_law_is_rational cd_law_is_rational ct_law_is_rational), sl_law_is_rational⟩) (c_law_is_rational : PySem.W.codeIn K cd_law_is_rational "_law_is_rational" = true) (k_law_is_rational : PySem.W.keepIn K (.ref a_law_is_rational) = true)
    (g_law_correct : PySem.W.nsIn K mainGlobals "_law_correct" = some (some (.ref a_law_correct))) (l_law_correct : K.lookup a_law_correct = some ⟨oc_law_correct, od_law_correct, .func (PySem.W.fnOf "_law_correct" "_law_correct" (defArgs s_law_correct) (defBody s_law_correct) (defScope s_law_correct) .none kV_law_correct dc_law_correct pm_law_correct an_law_correct cd_law_correct ct_law_correct), sl_law_correct⟩) (c_law_correct : PySem.W.codeIn K cd_law_correct "_law_correct" = true) (k_law_correct : PySem.W.keepIn K (.ref a_law_correct) = true)
    (g_law : PySem.W.nsIn K mainGlobals "law" = some (some (.ref a_law))) (l_law : K.lookup a_law = some ⟨oc_law, od_law, .func (PySem.W.fnOf "law" "law" (defArgs s_law) (defBody s_law) (defScope s_law) .none kV_law dc_law pm_law an_law cd_law ct_law), sl_law⟩) (c_law : PySem.W.codeIn K cd_law "law" = true) (k_law : PySem.W.keepIn K (.ref a_law) = true)
    (q_LETTERS : PySem.W.nsIn K mainGlobals "LETTERS" = some (some (.str "abcdefghijklmnopqrstuvwxyz" t_LETTERS)))
    (q_MAX_LENGTH : PySem.W.nsIn K mainGlobals "MAX_LENGTH" = some (some (.int 8 t_MAX_LENGTH)))
    (b_abs : PySem.W.nsIn K mainGlobals "abs" = some none)
    (b_all : PySem.W.nsIn K mainGlobals "all" = some none)
    (b_bool : PySem.W.nsIn K mainGlobals "bool" = some none)
    (b_int : PySem.W.nsIn K mainGlobals "int" = some none)
    (b_isinstance : PySem.W.nsIn K mainGlobals "isinstance" = some none)
    (b_len : PySem.W.nsIn K mainGlobals "len" = some none)
    (b_list : PySem.W.nsIn K mainGlobals "list" = some none)
    (b_range : PySem.W.nsIn K mainGlobals "range" = some none)
    (b_repr : PySem.W.nsIn K mainGlobals "repr" = some none)
    (b_str : PySem.W.nsIn K mainGlobals "str" = some none)
    (b_tuple : PySem.W.nsIn K mainGlobals "tuple" = some none)
    : ∃ fd : FuncData, (∀ (s : Shared) (v : Value), BindsTo s fd ⟨[v], []⟩ [("_law_script", v)]) ∧ ∀ base : Heap, K.In base → base.Ns mainGlobals mg → FnG l.prog w K mg base CX0 4 fa fd ["_law_script"] (spD K 1 S_law) := by
  have e := hfa.symm.trans (PySem.W.mg_of X G g_law)
  cases e
  let T : Env K mg := {
    a_is_integer := a_is_integer, fd_is_integer := _, F_is_integer := ⟨⟨_, _, _, _, _, _, _, _, _, _, rfl, l_is_integer, c_is_integer, .inl ⟨rfl, rfl⟩, .inl rfl⟩, k_is_integer⟩, m_is_integer := PySem.W.mg_of X G g_is_integer,
    a_common_divisor := a_common_divisor, fd_common_divisor := _, F_common_divisor := ⟨⟨_, _, _, _, _, _, _, _, _, _, rfl, l_common_divisor, c_common_divisor, .inl ⟨rfl, rfl⟩, .inl rfl⟩, k_common_divisor⟩, m_common_divisor := PySem.W.mg_of X G g_common_divisor,
    a_is_rational := a_is_rational, fd_is_rational := _, F_is_rational := ⟨⟨_, _, _, _, _, _, _, _, _, _, rfl, l_is_rational, c_is_rational, .inl ⟨rfl, rfl⟩, .inl rfl⟩, k_is_rational⟩, m_is_rational := PySem.W.mg_of X G g_is_rational,
    a_is_name := a_is_name, fd_is_name := _, F_is_name := ⟨⟨_, _, _, _, _, _, _, _, _, _, rfl, l_is_name, c_is_name, .inl ⟨rfl, rfl⟩, .inl rfl⟩, k_is_name⟩, m_is_name := PySem.W.mg_of X G g_is_name,
    a_law_deck := a_law_deck, fd_law_deck := _, F_law_deck := ⟨⟨_, _, _, _, _, _, _, _, _, _, rfl, l_law_deck, c_law_deck, .inl ⟨rfl, rfl⟩, .inl rfl⟩, k_law_deck⟩, m_law_deck := PySem.W.mg_of X G g_law_deck,
    a_law_draw := a_law_draw, fd_law_draw := _, F_law_draw := ⟨⟨_, _, _, _, _, _, _, _, _, _, rfl, l_law_draw, c_law_draw, .inl ⟨rfl, rfl⟩, .inl rfl⟩, k_law_draw⟩, m_law_draw := PySem.W.mg_of X G g_law_draw,
    a_law_choice := a_law_choice, fd_law_choice := _, F_law_choice := ⟨⟨_, _, _, _, _, _, _, _, _, _, rfl, l_law_choice, c_law_choice, .inl ⟨rfl, rfl⟩, .inl rfl⟩, k_law_choice⟩, m_law_choice := PySem.W.mg_of X G g_law_choice,
    a_law_word := a_law_word, fd_law_word := _, F_law_word := ⟨⟨_, _, _, _, _, _, _, _, _, _, rfl, l_law_word, c_law_word, .inl ⟨rfl, rfl⟩, .inl rfl⟩, k_law_word⟩, m_law_word := PySem.W.mg_of X G g_law_word,
    a_law_pairs := a_law_pairs, fd_law_pairs := _, F_law_pairs := ⟨⟨_, _, _, _, _, _, _, _, _, _, rfl, l_law_pairs, c_law_pairs, .inl ⟨rfl, rfl⟩, .inl rfl⟩, k_law_pairs⟩, m_law_pairs := PySem.W.mg_of X G g_law_pairs,
    a_law_large := a_law_large, fd_law_large := _, F_law_large := ⟨⟨_, _, _, _, _, _, _, _, _, _, rfl, l_law_large, c_law_large, .inl ⟨rfl, rfl⟩, .inl rfl⟩, k_law_large⟩, m_law_large := PySem.W.mg_of X G g_law_large,
    a_law_is_name := a_law_is_name, fd_law_is_name := _, F_law_is_name := ⟨⟨_, _, _, _, _, _, _, _, _, _, rfl, l_law_is_name, c_law_is_name, .inl ⟨rfl, rfl⟩, .inl rfl⟩, k_law_is_name⟩, m_law_is_name := PySem.W.mg_of X G g_law_is_name,
    a_law_is_rational := a_law_is_rational, fd_law_is_rational := _, F_law_is_rational := ⟨⟨_, _, _, _, _, _, _, _, _, _, rfl, l_law_is_rational, c_law_is_rational, .inl ⟨rfl, rfl⟩, .inl rfl⟩, k_law_is_rational⟩, m_law_is_rational := PySem.W.mg_of X G g_law_is_rational,
    a_law_correct := a_law_correct, fd_law_correct := _, F_law_correct := ⟨⟨_, _, _, _, _, _, _, _, _, _, rfl, l_law_correct, c_law_correct, .inl ⟨rfl, rfl⟩, .inl rfl⟩, k_law_correct⟩, m_law_correct := PySem.W.mg_of X G g_law_correct,
    a_law := fa, fd_law := _, F_law := ⟨⟨_, _, _, _, _, _, _, _, _, _, rfl, l_law, c_law, .inl ⟨rfl, rfl⟩, .inl rfl⟩, k_law⟩, m_law := PySem.W.mg_of X G g_law,
    t_LETTERS := t_LETTERS, m_LETTERS := PySem.W.mg_of X G q_LETTERS,
    t_MAX_LENGTH := t_MAX_LENGTH, m_MAX_LENGTH := PySem.W.mg_of X G q_MAX_LENGTH,
    b_abs := PySem.W.mg_none_of X G b_abs,
    b_all := PySem.W.mg_none_of X G b_all,
    b_bool := PySem.W.mg_none_of X G b_bool,
    b_int := PySem.W.mg_none_of X G b_int,
    b_isinstance := PySem.W.mg_none_of X G b_isinstance,
    b_len := PySem.W.mg_none_of X G b_len,
    b_list := PySem.W.mg_none_of X G b_list,
    b_range := PySem.W.mg_none_of X G b_range,
    b_repr := PySem.W.mg_none_of X G b_repr,
    b_str := PySem.W.mg_none_of X G b_str,
    b_tuple := PySem.W.mg_none_of X G b_tuple }
  exact ⟨T.fd_law, fun s v => .of_eq rfl, fun base _ _ => ok_law T⟩
end Lw

open PySem PySem.W PyProof.Rows in
set_option maxRecDepth 100000 in
set_option maxHeartbeats 0 in
theorem PySem.Challenge.cw_thawfield_k02_names_and_rationals_of_any_holds : PySem.Challenge.rw_thawfield_k02_names_and_rationals_of_any.Holds := by
  w_on; o_law; k_head; (case hw => w_witness2)
  k_fill
  refine DL.walkG (l := PySem.Challenge.rw_thawfield_k02_names_and_rationals_of_any) (n := 63) (k := 4) (x := "_law_script") (S := Lw.S_law) rfl (by decide) rfl (by decide) (fun w h Y => PySem.W.kIn_of Y) ?F ?sp
  case F =>
    intro w mg fa h KX G hmg
    refine' Lw.all_mk KX G hmg ?g_is_integer ?l_is_integer ?c_is_integer ?k_is_integer ?g_common_divisor ?l_common_divisor ?c_common_divisor ?k_common_divisor ?g_is_rational ?l_is_rational ?c_is_rational ?k_is_rational ?g_is_name ?l_is_name ?c_is_name ?k_is_name ?g_law_deck ?l_law_deck ?c_law_deck ?k_law_deck ?g_law_draw ?l_law_draw ?c_law_draw ?k_law_draw ?g_law_choice ?l_law_choice ?c_law_choice ?k_law_choice ?g_law_word ?l_law_word ?c_law_word ?k_law_word ?g_law_pairs ?l_law_pairs ?c_law_pairs ?k_law_pairs ?g_law_large ?l_law_large ?c_law_large ?k_law_large ?g_law_is_name ?l_law_is_name ?c_law_is_name ?k_law_is_name ?g_law_is_rational ?l_law_is_rational ?c_law_is_rational ?k_law_is_rational ?g_law_correct ?l_law_correct ?c_law_correct ?k_law_correct ?g_law ?l_law ?c_law ?k_law ?q_LETTERS ?q_MAX_LENGTH ?b_abs ?b_all ?b_bool ?b_int ?b_isinstance ?b_len ?b_list ?b_range ?b_repr ?b_str ?b_tuple
    (case g_is_integer => k_is)
    (case l_is_integer => k_is)
    (case c_is_integer => k_is)
    (case k_is_integer => k_is)
    (case g_common_divisor => k_is)
    (case l_common_divisor => k_is)
    (case c_common_divisor => k_is)
    (case k_common_divisor => k_is)
    (case g_is_rational => k_is)
    (case l_is_rational => k_is)
    (case c_is_rational => k_is)
    (case k_is_rational => k_is)
    (case g_is_name => k_is)
    (case l_is_name => k_is)
    (case c_is_name => k_is)
    (case k_is_name => k_is)
    (case g_law_deck => k_is)
    (case l_law_deck => k_is)
    (case c_law_deck => k_is)
    (case k_law_deck => k_is)
    (case g_law_draw => k_is)
    (case l_law_draw => k_is)
    (case c_law_draw => k_is)
    (case k_law_draw => k_is)
    (case g_law_choice => k_is)
    (case l_law_choice => k_is)
    (case c_law_choice => k_is)
    (case k_law_choice => k_is)
    (case g_law_word => k_is)
    (case l_law_word => k_is)
    (case c_law_word => k_is)
    (case k_law_word => k_is)
    (case g_law_pairs => k_is)
    (case l_law_pairs => k_is)
    (case c_law_pairs => k_is)
    (case k_law_pairs => k_is)
    (case g_law_large => k_is)
    (case l_law_large => k_is)
    (case c_law_large => k_is)
    (case k_law_large => k_is)
    (case g_law_is_name => k_is)
    (case l_law_is_name => k_is)
    (case c_law_is_name => k_is)
    (case k_law_is_name => k_is)
    (case g_law_is_rational => k_is)
    (case l_law_is_rational => k_is)
    (case c_law_is_rational => k_is)
    (case k_law_is_rational => k_is)
    (case g_law_correct => k_is)
    (case l_law_correct => k_is)
    (case c_law_correct => k_is)
    (case k_law_correct => k_is)
    (case g_law => k_is)
    (case l_law => k_is)
    (case c_law => k_is)
    (case k_law => k_is)
    (case q_LETTERS => k_is)
    (case q_MAX_LENGTH => k_is)
    (case b_abs => k_is)
    (case b_all => k_is)
    (case b_bool => k_is)
    (case b_int => k_is)
    (case b_isinstance => k_is)
    (case b_len => k_is)
    (case b_list => k_is)
    (case b_range => k_is)
    (case b_repr => k_is)
    (case b_str => k_is)
    (case b_tuple => k_is)
  case sp =>
    intro ns _ _
    exact Lw.u_law (fun _ => rfl)
#print axioms PySem.Challenge.cw_thawfield_k02_names_and_rationals_of_any_holds
